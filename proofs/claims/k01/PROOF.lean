import PyProof.Rows.All
import Wide.All
import OpenK.AllK
import Wide.FinOn
import HandS.ForMost
import HandS.ForExc
import HandS.Walk
import HandS.Flow
import HandS.Defaults
import HandS.HeadHook2
import HandS.Lambda
import HandS.ExcCtx
import HandS.HotCalls
import KE.DataEq
import KE.DataAny
import HandS.Star
import HandS.Style
import HandS.TupAny
import HandS.IsInst
import HandS.RaiseMore
import PyProof.ReprReads
import HandS.MakeKw
import PyProof.ReprRoads
import HandS.Small
import HandS.Zip
import KE.KDictZip
import KE.GoesMore
import KE.KCallOwn
import HandS.ExcInit
import KE.KExcInit
import KE.KTryMore
import HandS.Ends
import HandS.HeadEnd
import HandS.EndBits
import HandS.ExcField
import KE.KExcIs
import HandS.Head0
import HandS.Head1
import HandS.Head2
import HandS.More
import HandS.Text
import PyProof.Rows.RegFStrParts
import HandS.Conv
import KE.GoesEnum
import HandS.SortKw
import KE.SortKeyHeap
import HandS.ExcValue
import HandS.Dict
import HandS.Iter
import HandS.Sort
import KE.KTupSum
import KE.KRevSl
import HandS.TupMul
import HandS.HeadHook3
import HandS.EndTab
import KE.KNestM
import HandS.HeadHook1
import HandS.Property
import PyProof.StrOps2
import PyProof.CallFns
import HandS.TupLe
import KE.KStateDown
import PyProof.Rows.Nodes
import PyProof.NeKinds
import HandS.SetFor
import PyProof.Rows.CountFlat
import KE.KDictSum
import KE.SortData
import HandS.ListItems
import OpenK.KMeth
import KE.KOpsOwn
import PyProof.Rows.Range3
import HandS.DictComp
import KE.DataMinMax
import KE.KIndexOf
import HandS.WideBits
import KE.KEqDict
import HandS.TupSets
import HandS.NoneIn
import PyProof.StrLawsRepr
import PyProof.StrLawsChain
import PyProof.Rows.StrItems
import PyProof.TupleOfStr
import KE.KIntText
import KE.IntTextText
import PySem.Challenge.RW_oddrings_k01_limits_and_errors
set_option Elab.async false
set_option linter.all false
set_option maxRecDepth 100000
set_option maxHeartbeats 0
namespace Ev
open PySem L2
inductive D where
  | non | bl (b : Bool) | int (i : Int) | str (s : Str)
  | tup (xs : List D) | lst (xs : List D)
  | ins (c : Str) (fs : List (Str × D))
  | ref (i : Nat)
  | fn (x : Str)
  | scr (ns : List Int)
  | slf
  | dic (kvs : List (Key × D))
  /-- an exception in hand: where it stands, its dict, its class, its attributes -/
  | exn (a : Addr) (d : Option Addr) (c : Str) (fs : List (Str × D))
  /-- a lambda: where it stands, its code; what it captured -/
  | lam (f c : Addr) (q : Str) (vs : List V) (ds : List D)
  /-- a dict that is locked for good -/
  | dlk (kvs : List (Key × D))
  | tpx (ds : List D)
  /-- an exception as a value: its class, its attributes -/
  | exv (c : Str) (fs : List (Str × D))
  deriving Inhabited
inductive Cell where
  | lst (xs : List D)
  | ins (c : Str) (fs : List (Str × D))
  | dT (kvs : List (List Int × D))
  | dK (kvs : List (Key × D))
  /-- the table of lambdas of the module's def x -/
  | tab (x : Str)
  deriving Inhabited
abbrev Store := List (Option Cell)
abbrev En := List (Option D)
structure Xc where
  cls : Str
  fs : List (Str × D)
inductive Res (α : Type) where
  | ok (a : α) (S : Store)
  | exc (x : Xc) (S : Store)
  | bad
abbrev M (α : Type) := Store → Res α
@[reducible] def M.pure {α : Type} (a : α) : M α := fun S => .ok a S
def M.bad {α : Type} : M α := fun _ => .bad
abbrev ME := En → M D
abbrev MA := En → M (List D)
structure Wd where
  F : Hp
  m : List Addr
  P : Hp
  sf : Option Addr
structure Wd.lf (W W' : Wd) : Prop where
  f : ∀ a o, W.F a = some o → W'.F a = some o
  sq : W'.sf = W.sf
  mm : ∃ t, W'.m = W.m ++ t
structure Wd.le (W W' : Wd) : Prop extends toLf : Wd.lf W W' where
  pp : W'.P = W.P
instance {W W' : Wd} : CoeOut (W.le W') (W.lf W') := ⟨fun h => h.toLf⟩
theorem Wd.le_refl (W : Wd) : W.le W := ⟨⟨fun _ _ h => h, rfl, [], by simp⟩, rfl⟩
def exH (a : Addr) (cls : Value) (d : Option Addr) : HO := .ext fun h => ∃ (oe : Obj) (vs : Array Value), h.get? a = some oe ∧ L2N.Zn cls d oe ∧ oe.data = .fields vs
def XdOf (F : Hp) : Option Addr → List (Str × V) → Prop
  | none, vfs => vfs = []
  | some d, vfs => F d = some (.xd vfs)
mutual
inductive Rep (K : PySem.W.Frag) (W : Wd) : D → V → Prop where
  | non : Rep K W .non .non
  | bl (b : Bool) : Rep K W (.bl b) (.bl b)
  | int (i : Int) : Rep K W (.int i) (.int i)
  | str (x : Str) : Rep K W (.str x) (.str x)
  | tup {a : Addr} {vs : List V} {ds : List D} : SqT K W.F a vs → Reps K W ds vs → Rep K W (.tup ds) (.ref a)
  | lst {a : Addr} {vs : List V} {ds : List D} : W.F a = some (.lst vs) → Reps K W ds vs → Rep K W (.lst ds) (.ref a)
  | ins {a dx : Addr} {c : Str} {vfs : List (Str × V)} {fs : List (Str × D)} : W.F a = some (.ins (He.ga K c) dx vfs) → vfs.map (·.1) = fs.map (·.1) → Reps K W (fs.map (·.2)) (vfs.map (·.2)) → Rep K W (.ins c fs) (.ref a)
  | ref {i : Nat} {a : Addr} : W.m[i]? = some a → Rep K W (.ref i) (.ref a)
  | fn (x : Str) : Rep K W (.fn x) (.ref (He.ga K x))
  | scr {a : Addr} {ns : List Int} : SqL K W.F a (ns.map V.int) → Rep K W (.scr ns) (.ref a)
  | dic {a : Addr} {vk : List (Key × V)} {kvs : List (Key × D)} : W.F a = some (.dK vk) → vk.map (·.1) = kvs.map (·.1) → Reps K W (kvs.map (·.2)) (vk.map (·.2)) → Rep K W (.dic kvs) (.ref a)
  | exn0 {a : Addr} {c : Str} : Rep K W (.exn a none c []) (.ref a)
  | exn1 {a d : Addr} {c : Str} {vfs : List (Str × V)} {fs : List (Str × D)} : W.F d = some (.xd vfs) → vfs.map (·.1) = fs.map (·.1) → Reps K W (fs.map (·.2)) (vfs.map (·.2)) → Rep K W (.exn a (some d) c fs) (.ref a)
  | lam {f c : Addr} {q : Str} {vs : List V} {ds : List D} : W.F c = some (LamX.CodeO c q) → Reps K W ds vs → Rep K W (.lam f c q vs ds) (.ref f)
  | dlk {a : Addr} {o : Obj} {vk : List (Key × V)} {kvs : List (Key × D)} : W.F a = some (.frz o (.dK vk)) → vk.map (·.1) = kvs.map (·.1) → Reps K W (kvs.map (·.2)) (vk.map (·.2)) → Rep K W (.dlk kvs) (.ref a)
  | tpx {a : Addr} {o : Obj} {vs : List V} {ds : List D} : W.F a = some (.frz o (.tup vs)) → o.dict = none → Reps K W ds vs → Rep K W (.tpx ds) (.ref a)
  | exv {a : Addr} {d : Option Addr} {c : Str} {vfs : List (Str × V)} {fs : List (Str × D)} : W.F a = some (exH a (.ref (He.ga K c)) d) → XdOf W.F d vfs → vfs.map (·.1) = fs.map (·.1) → Reps K W (fs.map (·.2)) (vfs.map (·.2)) → Rep K W (.exv c fs) (.ref a)
inductive Reps (K : PySem.W.Frag) (W : Wd) : List D → List V → Prop where
  | nil : Reps K W [] []
  | cons {d : D} {v : V} {ds : List D} {vs : List V} : Rep K W d v → Reps K W ds vs → Reps K W (d :: ds) (v :: vs)
end
section
variable {K : PySem.W.Frag} {W W' : Wd}
theorem Reps.length : ∀ {ds : List D} {vs : List V}, Reps K W ds vs → ds.length = vs.length
  | _, _, .nil => rfl
  | _, _, .cons _ t => congrArg Nat.succ (Reps.length t)
end
def tabK (K : PySem.W.Frag) (x : Str) : Addr × Addr := (PySem.W.tabIn K x).getD (0, 0)
def lamQ (x : Str) : Str := (x ++ ".<locals>.") ++ "<lambda>"
def CellAt (K : PySem.W.Frag) (W : Wd) (H : Hp) (a : Addr) : Cell → Prop
  | .lst ds => ∃ vs, H a = some (.lst vs) ∧ Reps K W ds vs
  | .ins c fs => ∃ dx vfs, H a = some (.ins (He.ga K c) dx vfs) ∧ vfs.map (·.1) = fs.map (·.1) ∧ Reps K W (fs.map (·.2)) (vfs.map (·.2))
  | .dT kvs => ∃ vkvs : List (List Key × V), H a = some (.dT vkvs) ∧ vkvs.map (·.1) = kvs.map (fun p => p.1.map Sum.inl) ∧ Reps K W (kvs.map (·.2)) (vkvs.map (·.2))
  | .dK kvs => ∃ vkvs : List (Key × V), H a = some (.dK vkvs) ∧ vkvs.map (·.1) = kvs.map (·.1) ∧ Reps K W (kvs.map (·.2)) (vkvs.map (·.2))
  | .tab x => ∃ ps : Array Value, H a = some (.tbl ps) ∧ (a = (tabK K x).2 ∧ PySem.TriplesOk ps.toList) ∧ ∀ (pos : Pos) (cv : Value), codeAmong pos ps.toList = some cv → ∃ c, cv = .ref c ∧ W.F c = some (LamX.CodeO c (lamQ x))
structure Good (K : PySem.W.Frag) (W : Wd) (S : Store) (H : Hp) : Prop where
  sub : ∀ a o, W.F a = some o → H a = some o
  len : W.m.length = S.length
  cell : ∀ (i : Nat) (c : Cell), S[i]? = some (some c) → ∃ a, W.m[i]? = some a ∧ W.F a = none ∧ W.P a = none ∧ CellAt K W H a c
  inj : ∀ (i j : Nat) (a : Addr) (c c' : Cell), S[i]? = some (some c) → S[j]? = some (some c') → W.m[i]? = some a → W.m[j]? = some a → i = j
  prv : ∀ a o, W.P a = some o → H a = some o ∧ W.F a = none
  ptup : ∀ a xs, W.P a ≠ some (.tup xs)
section
variable {K : PySem.W.Frag} {W : Wd} {S : Store} {H : Hp}
theorem Good.free (g : Good K W S H) {p : Addr} (n : H p = none) : W.F p = none := by
  cases e : W.F p with
  | none => rfl
  | some o => rw [g.sub p o e] at n; cases n
def Wd.prv (W : Wd) (p : Addr) (o : HO) : Wd := ⟨W.F, W.m, upd W.P p o, W.sf⟩
end
def XRep (K : PySem.W.Frag) (W : Wd) (x : Xc) (cls : Value) (d : Option Addr) : Prop :=
  cls = .ref (He.ga K x.cls) ∧ ((x.fs = [] ∧ d = none) ∨ ∃ a vfs, d = some a ∧ W.F a = some (.xd vfs) ∧ vfs.map (·.1) = x.fs.map (·.1) ∧ Reps K W (x.fs.map (·.2)) (vfs.map (·.2)))
def okP {α β : Type} (K : PySem.W.Frag) (R : Wd → α → β → Prop) (W : Wd) (r : Res α) (σ : St) (Wx : WX) (Q : β → Hp → Prop) : Prop := match r with
  | .ok d S' => ∀ W' H' v, W.le W' → Good K W' S' H' → R W' d v → Q v H'
  | .exc x S' => ∀ W' H' cls d, W.le W' → Good K W' S' H' → XRep K W' x cls d → Wx cls d σ H'
  | .bad => False
end Ev
namespace Ev
open PySem L2
theorem okP.pure {α β : Type} {K : PySem.W.Frag} {R : Wd → α → β → Prop} {W : Wd} {a : α} {S : Store} {σ : St} {Wx : WX} {Q : β → Hp → Prop} {H : Hp} {v : β} (h : okP K R W (M.pure a S) σ Wx Q) (g : Good K W S H) (r : R W a v) : Q v H := h W H v W.le_refl g r
def oV (K : PySem.W.Frag) (W : Wd) (r : Option (D × Store)) (Q : VK) : Prop := match r with
  | some (d, S') => ∀ W' H' v, W.le W' → Good K W' S' H' → Rep K W' d v → Q v H'
  | none => False
theorem oV.val {K : PySem.W.Frag} {W : Wd} {S : Store} {d : D} {Q : VK} {H : Hp} {v : V} (h : oV K W (some (d, S)) Q) (g : Good K W S H) (r : Rep K W d v) : Q v H := h W H v W.le_refl g r
end Ev
namespace Ev
open PySem PySem.Spec L2 PyProof.Rows
structure FnG (P : Program) (w : World) (K : PySem.W.Frag) (mg : Str → Option Value) (base : Heap) (k : Nat) (f : Addr) (fd : FuncData) (ps : List Str) (sp : Sp) : Prop where
  len : ∀ vs H Q E, sp vs H Q E → vs.length = ps.length
  run : ∀ (A : Around), A.guards = some [] → ∀ (outer : List Env) (s : Shared) (H : Hp) (args : Args) (us : List Value) (vs : List V) (Q : VK) (E : XK),
    Room k A → Env0 P w K mg base A outer s H → BindsTo s fd args (ps.zip us) → Vals vs us → sp vs H Q E →
    codeAny (model P w) A (.call (.ref f) args) (CR (L2N.CX P w) outer P w H s Q E) s
def spM (K : PySem.W.Frag) (n : Nat) (m : List D → M D) : Sp := fun vs H Q E => vs.length = n ∧ ∃ W S ds, Good K W S H ∧ Reps K W ds vs ∧ okP K (Rep K) W (m ds S) [] (fun cls d _ H' => E cls d H') Q
def CallF (X : Cx) (Wx : WX) (f : Value) (ks : List Str) (m : List D → List D → M D) : Prop :=
  ∀ (pins : List (Addr × Obj)) (s : Shared) (σ : L2.St) (H : Hp) (vs zs : List V) (us ws : List Value) (Q : VK), Inv X pins σ H s → Vals vs us → Vals zs ws → zs.length = ks.length →
    (∃ W S ds es, Good X.K W S H ∧ Reps X.K W ds vs ∧ Reps X.K W es zs ∧ okP X.K (Rep X.K) W (m ds es S) σ Wx Q) → wpAny (model X.prog X.w) X.A (call f us (ks.zip ws)) (EP X pins σ Q) X.xe s
end Ev
namespace Ev
open PySem PySem.Spec L2 PyProof.Rows
section
variable {X : Cx} {Wx : WX} {o e : Expr} {es : List Expr} {mo : ME} {mas : MA} {nm : Str} {apos cpos pos : Pos} {T id : String}
inductive Ty where
  | blt (n : String) | own (c : Str)
  deriving DecidableEq
def Ty.val (K : PySem.W.Frag) : Ty → Value
  | .blt n => .type n
  | .own c => .ref (He.ga K c)
end
end Ev
namespace Ev
open PySem PySem.Spec L2 PyProof.Rows
def frz : D → Option (List D)
  | .tup ds => some ds
  | .lst ds => some ds
  | _ => none
end Ev
namespace Ev
open PySem PySem.Spec L2 PyProof.Rows
def CalG (P : Program) (w : World) (K : PySem.W.Frag) (mg : Str → Option Value) (base : Heap) (k : Nat) (v : Addr) (ks : List Str) (m : List D → M D) : Prop :=
  ∀ (X : Cx) (Wx : WX), X.prog = P → X.w = w → X.K = K → X.mg = mg → X.base = base → Room k X.A → X.A.guards = some [] → L2N.Takes X Wx → CallF X Wx (.ref v) ks (fun ds es => m (ds ++ es))
end Ev
namespace Ev
open PySem PySem.Spec L2 PyProof.Rows
theorem CalG.bad {P : Program} {w : World} {K : PySem.W.Frag} {mg : Str → Option Value} {base : Heap} {k : Nat} {v : Addr} {ks : List Str} : CalG P w K mg base k v ks (fun _ _ => .bad) :=
  fun X Wx e1 e2 e3 e4 e5 hr hg tk pins s σ H vs zs us ws Q I r1 r2 hl ⟨W, S, ds, es, g, q1, q2, p⟩ => p.elim
theorem FnG.bad {P : Program} {w : World} {K : PySem.W.Frag} {mg : Str → Option Value} {base : Heap} {k : Nat} {f : Addr} {fd : FuncData} {x : Str} : FnG P w K mg base k f fd [x] (spM K 1 (fun _ _ => .bad)) :=
  ⟨fun vs H Q E h => h.1, fun A hg outer s H args us vs Q E hr e0 hb rel ⟨_, W, S, ds, g, r, p⟩ => p.elim⟩
end Ev
namespace Xm
open PySem PySem.Spec PySem.Calls PyProof.Rows L2 Ev
open Builtin Builtin.ObjectAttr
def refsT (t : List Value) : List Value → Bool
  | .ref _ :: r => refsT t r
  | l => l == t
theorem refsT_cases (t : List Value) : ∀ l : List Value, refsT t l = true → (∃ c r, l = .ref c :: r ∧ refsT t r = true) ∨ l = t := by
  intro l e
  cases l with
  | nil => exact .inr (beq_iff_eq.mp e)
  | cons a r =>
    cases a with
    | ref c => exact .inl ⟨c, r, rfl, e⟩
    | _ => exact .inr (beq_iff_eq.mp e)
structure BaseX (B newId initId : String) (t : List Value) : Prop where
  base : ExcBaseFacts B newId initId t
  obj : t.contains (.type "object") = true
  ne : t.isEmpty = false
  pass : ∀ self : Value, refuseLoop self "__setattr__" t = pure ()
section
variable {t : List Value}
theorem refsT_has (X : String) : ∀ l : List Value, refsT t l = true → l.contains (.type X) = t.contains (.type X) := by
  intro l
  induction l with
  | nil =>
    intro e
    rcases refsT_cases t [] e with ⟨c, r, q, _⟩ | q
    · cases q
    · rw [q]
  | cons a r ih =>
    intro e
    rcases refsT_cases t (a :: r) e with ⟨c, r', q, h⟩ | q
    · obtain ⟨rfl, rfl⟩ := List.cons.inj q
      rw [List.contains_cons, ih h]; rfl
    · rw [q]
theorem refsT_pass (hp : ∀ self : Value, refuseLoop self "__setattr__" t = pure ()) (self : Value) : ∀ l : List Value, refsT t l = true → refuseLoop self "__setattr__" l = pure () := by
  intro l
  induction l with
  | nil =>
    intro e
    rcases refsT_cases t [] e with ⟨c, r, q, _⟩ | q
    · cases q
    · rw [q]; exact hp self
  | cons a r ih =>
    intro e
    rcases refsT_cases t (a :: r) e with ⟨c, r', q, h⟩ | q
    · obtain ⟨rfl, rfl⟩ := List.cons.inj q
      rw [refuseLoop_ref]; exact ih h
    · rw [q]; exact hp self
end
structure OexG (K : PySem.W.Frag) (C : Addr) (newId : String) (t : List Value) : Prop where
  cls : ∃ nm q N bs bm sn sub ab col dd k0 k1 k2 k3 k5, K.lookup C = some (excClassObj nm q C N bs bm true sn sub ab col dd k0 k1 k2 k3 k5 newId) ∧ refsT t bm = true
  sa : PySem.W.findIn K (.ref C) "__setattr__" = some (some (.builtin "object.__setattr__"))
  exC : PySem.W.subIn K (.ref C) (.type "BaseException") = some true
  tyC : PySem.W.typeIn K (.ref C) = some (.type "type")
  kC : PySem.W.keepIn K (.ref C) = true
section
variable {X : Cx} {pins : List (Addr × Obj)} {σ : L2.St} {H : Hp} {s : Shared} {a C dx : Addr} {f : Str} {y : V} {u : Value} {fs : List (Str × V)} {Q : Unit → Shared → Prop} {E : Value → Shared → Prop} {A : Around} {B newId initId : String} {t : List Value}
theorem OexG.more (T : OexG X.K C newId t) (BX : BaseX B newId initId t) : ∃ cd, PySem.W.clsIn X.K C = some cd ∧ cd.mro.isEmpty = false ∧ cd.mro.contains (.type "object") = true ∧ (∀ self : Value, refuseLoop self "__setattr__" cd.mro = pure ()) ∧ cd.hasDict = true := by
  obtain ⟨nm, q, N, bs, bm, sn, sub, ab, col, dd, k0, k1, k2, k3, k5, hC, hbm⟩ := T.cls
  refine ⟨_, by unfold PySem.W.clsIn; rw [hC] <;> rfl, rfl, ?_, fun self => ?_, rfl⟩
  · show (Value.ref C :: bm).contains (.type "object") = true
    rw [List.contains_cons, refsT_has "object" bm hbm, BX.obj, Bool.or_true]
  · show refuseLoop self "__setattr__" (Value.ref C :: bm) = pure ()
    rw [refuseLoop_ref]
    exact refsT_pass BX.pass self bm hbm
end
end Xm
namespace Xm
open PySem PySem.Spec PySem.Calls PyProof.Rows L2 Ev
def xcB (K : PySem.W.Frag) (c : Str) : Bool :=
  xfB K (He.ga K c) && ((PySem.W.clsIn K (He.ga K c)).isSome && (decide (PySem.W.findIn K (.ref (He.ga K c)) "__class__" = some (some (.builtin "object.__class__"))) && (decide (PySem.W.specialIn K (.builtin "object.__class__") "__get__" = some (some (.builtin "getset_descriptor.__get__"))) &&
    (decide (PySem.W.takesIn K (.builtin "object.__class__") = some true) && decide (PySem.W.mroIn K (He.ga K c) (.type "object") = some true)))))
end Xm
namespace Ev
open PySem PySem.Spec PyProof.Rows L2
abbrev Ex : Type := PySem.W.Frag → Bool
def kitB (tab : List (Ty × Ty × Bool)) : Ex := fun K => tab.all fun x => decide (PySem.W.kitOne K (x.1.val K) (x.2.1.val K) = some x.2.2)
def ownB (cs : List Str) : Ex := fun K => cs.all fun c => (He.Fa.cls c).ok K && (decide (PySem.W.findIn K (.ref (He.ga K c)) "__class__" = some (some (.builtin "object.__class__"))) &&
  (decide (PySem.W.specialIn K (.builtin "object.__class__") "__get__" = some (some (.builtin "getset_descriptor.__get__"))) && (decide (PySem.W.takesIn K (.builtin "object.__class__") = some true) && decide (PySem.W.mroIn K (He.ga K c) (.type "object") = some true))))
end Ev
namespace Xm
open PySem PySem.Spec PySem.Calls PyProof.Rows L2 Ev
open LamX (TabB LamS lamEnv lamSB lamS_by)
def exB (l : List (Str × Str × Bool)) (K : PySem.W.Frag) : Bool := l.all fun p => decide (PySem.W.exmOne K (.ref (He.ga K p.1)) (.ref (He.ga K p.2.1)) = some p.2.2)
def flB (t : List (Str × Str)) (K : PySem.W.Frag) : Bool := t.all fun p => xcB K p.1 && decide (PySem.W.findIn K (.ref (He.ga K p.1)) p.2 = some none)
def kxB (t : List (Str × Ty × Bool)) (K : PySem.W.Frag) : Bool := t.all fun p => xcB K p.1 && decide (PySem.W.kitOne K (.ref (He.ga K p.1)) (p.2.1.val K) = some p.2.2)
def oexB (c : Str) (newId : String) (t : List Value) (fl : List Str) (K : PySem.W.Frag) : Bool :=
  (match K.lookup (He.ga K c) with
    | some ⟨.type "type", _, .cls cd, sl⟩ => (match cd.mro, sl.toList with
      | .ref C' :: bm, [_, _, _, _, some (.builtin n), _] => C' == He.ga K c && (n == newId && (!cd.hasDel && (cd.hasDict && refsT t bm)))
      | _, _ => false)
    | _ => false) && (decide (PySem.W.findIn K (.ref (He.ga K c)) "__setattr__" = some (some (.builtin "object.__setattr__"))) && (decide (PySem.W.subIn K (.ref (He.ga K c)) (.type "BaseException") = some true) && (decide (PySem.W.typeIn K (.ref (He.ga K c)) = some (.type "type")) && (PySem.W.keepIn K (.ref (He.ga K c)) &&
    (decide (PySem.W.findIn K (.ref (He.ga K c)) "__init__" = some (some (.ref (He.ma K (He.ga K c) "__init__")))) && (decide (PySem.W.typeIn K (.ref (He.ma K (He.ga K c) "__init__")) = some (.type "function")) && fl.all fun f => decide (PySem.W.findIn K (.ref (He.ga K c)) f = some none)))))))
def ownXB (c : Str) (bmB : List Value) (newId : String) (K : PySem.W.Frag) : Bool := PySem.W.excIn K (He.ga K c) bmB newId && (PySem.W.keepIn K (.ref (He.ga K c)) && (decide (PySem.W.subIn K (.ref (He.ga K c)) (.type "BaseException") = some true) && decide (PySem.W.typeIn K (.ref (He.ga K c)) = some (.type "type"))))
end Xm
namespace Xm
open PySem PySem.Spec PySem.Calls PyProof.Rows L2 Ev
open LamX (TabB)
def tabsB (lams : List Str) (K : PySem.W.Frag) : Bool := decide (lams.map fun x => (tabK K x).2).Nodup && lams.all fun x => (K.lookup (tabK K x).2).isNone && PySem.W.codeHdIn K (tabK K x).1 (tabK K x).2
def sysB (g : Addr → Option Obj) : Bool := match g sysModules with
  | some o => (match o.data with
    | .dict _ _ => true
    | _ => false)
  | none => false
def SysAt (h : Heap) : Prop := ∃ o es n, h.get? sysModules = some o ∧ o.data = .dict es n
theorem sysB_ok {h : Heap} (e : sysB h.get? = true) : SysAt h := by
  unfold sysB at e
  split at e
  · rename_i o ho
    split at e
    · rename_i es n hd
      exact ⟨o, es, n, ho, hd⟩
    · cases e
  · cases e
abbrev AlT : Type := He.AlD × (Bool × List (Option Obj))
structure SaysT (fa : List He.Fa) (fn : List He.DefD) (ex : List Ex) (lams : List Str) (K : PySem.W.Frag) (h : Heap) : Prop where
  kin : K.In h
  facts : He.SaysD fa fn K
  more : (ex.all fun f => f K) = true
  tabs : tabsB lams K = true
  empty : ∀ x ∈ lams, h.get? (tabK K x).2 = some (PySem.W.tabObj #[])
  sys : SysAt h
end Xm
namespace Xm
open PySem PySem.Spec PySem.Calls PyProof.Rows L2 Ev
structure XT where
  kit : List (Str × Ty × Bool)
  fl : List (Str × Str)
  ex : List (Str × Str × Bool)
def kitOf (c : Str) (up tys : List Ty) : List (Str × Ty × Bool) := tys.map fun t => (c, t, decide (t ∈ up))
end Xm
namespace Xm
open PySem PySem.Spec PyProof.Rows L2 Ev HandSHeadRun PySem.W
section
variable {r : OpenRow} {q : Program} {M : Nat} {loose : List PySem.Str} {w : World} {n : Nat} {fa : List He.Fa} {fn : List He.DefD} {ex ex1 ex2 : List Ex} {lams : List PySem.Str}
def RunP {α : Type} (r : OpenRow) (M : Nat) (w : World) (f : SharedT → α) (v : α) : Prop := ∀ os : OsState, (endF (stepQ (denQ tabQ) r.prog w) M r.prog w os).map f = some v
noncomputable def loP (r : OpenRow) (q : Program) (loose : List PySem.Str) (w : World) := fun s : SharedT => (looksF r.prog (boot_heap w.params) s.abs, HandSHeadRun.seenQ q loose (importedModules r.prog.main.body) (fun s => xlAt q [] s && recOk r.toRowW.records s) s.abs)
abbrev loV (q : Program) (loose : List PySem.Str) := (true, openGood q loose)
end
end Xm
namespace Xm
open PySem PySem.Spec PyProof.Rows L2 Ev HandSHeadRun PySem.W
section
variable {r : OpenRow} {q : Program} {M : Nat} {loose : List PySem.Str} {w : World} {n : Nat} {fa : List He.Fa} {fn fn1 fn2 : List He.DefD} {ex ex1 ex2 : List Ex} {lams : List PySem.Str}
theorem RunP.two {α β γ : Type} {f : SharedT → α} {g : SharedT → β} {h : SharedT → γ} {x : α} {y : β} {z : γ} (h1 : RunP r M w f x) (h2 : RunP r M w g y) (e : ∀ s, f s = x → g s = y → h s = z) : RunP r M w h z := fun os => by
  have a := h1 os
  have b := h2 os
  cases k : endF (stepQ (denQ tabQ) r.prog w) M r.prog w os with
  | none => rw [k] at a; cases a
  | some s =>
    rw [k] at a b
    show some (h s) = some z
    rw [e s (Option.some.inj a) (Option.some.inj b)]
end
end Xm
namespace Ob
open PySem PySem.Spec PyProof.Rows L2 Ev Xm HandSHeadRun
structure GtD where
  cls : Str
  f : Str
  qual : Str
  params : Arguments
  body : List Stmt
  scope : Scope
def gtP (K : PySem.W.Frag) (d : GtD) : Addr := match PySem.W.findIn K (.ref (He.ga K d.cls)) d.f with
  | some (some (.ref p)) => p
  | _ => 0
def gtA (K : PySem.W.Frag) (d : GtD) : Addr := match PySem.W.recIn K (gtP K d) "property" with
  | some (.ref g :: _) => g
  | _ => 0
def gtW (K : PySem.W.Frag) (d : GtD) : He.FnW := match K.lookup (gtA K d) with
  | some ⟨_, _, .func fd, _⟩ => some (fd.name, fd.qualname, fd.params, fd.body, fd.scope, fd.globals, fd.closure, fd.builtins)
  | _ => none
def GtD.val (d : GtD) : He.FnW := some (d.f, d.qual, d.params, .stmts d.body, d.scope, mainGlobals, [], builtinsNs)
def GtD.ok (K : PySem.W.Frag) (d : GtD) : Bool :=
  decide (PySem.W.findIn K (.ref (He.ga K d.cls)) d.f = some (some (.ref (gtP K d)))) && (decide (PySem.W.specialIn K (.ref (gtP K d)) "__get__" = some (some (.builtin "property.__get__"))) && (decide (PySem.W.takesIn K (.ref (gtP K d)) = some true) && ((match PySem.W.recIn K (gtP K d) "property" with
    | some (.ref _ :: _) => true
    | _ => false) && (PySem.W.keepIn K (.ref (gtA K d)) && (match K.lookup (gtA K d) with
    | some ⟨_, _, .func fd, _⟩ => PySem.W.codeIn K fd.code d.qual && (He.dflB K fd.defaults [] && He.kwdB K fd.kwdefaults [])
    | _ => false)))))
theorem GtD.is {K : PySem.W.Frag} {d : GtD} (e : gtW K d = d.val) (c : d.ok K = true) : ∃ p g fd, PropOf K (He.ga K d.cls) d.f p g ∧ FunD K d.f d.qual d.params d.body d.scope [] [] g fd := by
  unfold GtD.ok at c
  simp only [Bool.and_eq_true, decide_eq_true_eq] at c
  obtain ⟨c1, c2, c3, c4, kp, c6⟩ := c
  have hrec : ∃ rest, PySem.W.recIn K (gtP K d) "property" = some (.ref (gtA K d) :: rest) := by
    unfold gtA
    split at c4
    · rename_i g rest h
      rw [h]
      exact ⟨rest, rfl⟩
    · cases c4
  refine ⟨gtP K d, gtA K d, ?_⟩
  unfold gtW at e
  cases q : K.lookup (gtA K d) with
  | none =>
    rw [q] at c6
    cases c6
  | some o =>
    obtain ⟨oc, od, dt, osl⟩ := o
    rw [q] at c6 e
    cases dt with
    | func fd =>
      obtain ⟨n1, n2, n3, n4, n5, n6, n7, n8, n9, n10, n11, n12, n13, n14, n15⟩ := fd
      have e2 : (some (n1, n2, n3, n4, n5, n6, n7, n15) : He.FnW) = some (d.f, d.qual, d.params, .stmts d.body, d.scope, mainGlobals, [], builtinsNs) := e
      simp only [Option.some.injEq, Prod.mk.injEq] at e2
      obtain ⟨h1, h2, h3, h4, h5, h6, h7, h8⟩ := e2
      subst h1 h2 h3 h4 h5 h6 h7 h8
      have c7 : (PySem.W.codeIn K n13 d.qual && (He.dflB K n8 [] && He.kwdB K n9 [])) = true := c6
      simp only [Bool.and_eq_true] at c7
      obtain ⟨k1, k3, k4⟩ := c7
      exact ⟨_, ⟨c1, c2, c3, hrec⟩, ⟨oc, od, n8, n9, n10, n11, n12, n13, n14, osl, rfl, q, k1, He.dflB_ok k3, He.kwdB_ok k4⟩, kp⟩
    | _ => cases c6
abbrev AlP : Type := AlT × (Bool × List He.FnW)
def gsO (gs : List GtD) (K : PySem.W.Frag) : Bool × List He.FnW := (gs.all fun d => d.ok K, gs.map fun d => gtW K d)
def gsV (gs : List GtD) : Bool × List He.FnW := (true, gs.map GtD.val)
open PySem.W
end Ob
namespace Ob
open PySem PySem.Spec PyProof.Rows L2 Ev Xm HandSHeadRun
abbrev KyL : Type := List (Option (List (Option (Str × Int))))
abbrev AlQ : Type := AlP × KyL
def tsO (ts : List (Str × List Str)) (K : PySem.W.Frag) : KyL := ts.map fun t => He.dicW K (He.ga K t.1)
def tsV (w : World) (ts : List (Str × List Str)) : KyL := ts.map fun t => some (He.keysIn w.params t.2)
open PySem.W
end Ob
namespace Ob
open PySem PySem.Spec PyProof.Rows L2 Ev Xm HandSHeadRun
abbrev frA (as : List Addr) (g : Addr → Option Obj) : PySem.W.Frag := He.frG g as
def obsA (as : List Addr) (fa : List He.Fa) (fn : List He.DefD) (ex : List Ex) (lams : List Str) (gs : List GtD) (ts : List (Str × List Str)) (g : Addr → Option Obj) : AlQ :=
  (((He.obsD fa fn (frA as g), (ex.all fun f => f (frA as g)) && (tabsB lams (frA as g) && sysB g), lams.map fun x => g (tabK (frA as g) x).2), gsO gs (frA as g)), tsO ts (frA as g))
def hookA (as : List Addr) (fa : List He.Fa) (fn : List He.DefD) (ex : List Ex) (lams : List Str) (gs : List GtD) (ts : List (Str × List Str)) : PySem.W.Hook where
  α := AlQ
  obs := fun s => obsA as fa fn ex lams gs ts s.heap.get?
  val := fun w => (((He.valD fn, true, lams.map fun _ => some (PySem.W.tabObj #[])), gsV gs), tsV w ts)
  says := fun w h => ∃ K : PySem.W.Frag, SaysT fa fn ex lams K h ∧ gsO gs K = gsV gs ∧ tsO ts K = tsV w ts
  of := fun w s e => by
    have e9 := congrArg (fun z : AlQ => z.1) e
    have e8 : tsO ts (frA as s.heap.get?) = tsV w ts := congrArg (fun z : AlQ => z.2) e
    have e0 := congrArg (fun z : AlP => z.1) e9
    have e5 : gsO gs (frA as s.heap.get?) = gsV gs := congrArg (fun z : AlP => z.2) e9
    have e1 : (He.obsD fa fn (frA as s.heap.get?)) = He.valD fn := congrArg (fun z : AlT => z.1) e0
    have e2 : ((ex.all fun f => f (frA as s.heap.get?)) && (tabsB lams (frA as s.heap.get?) && sysB s.heap.get?)) = true := congrArg (fun z : AlT => z.2.1) e0
    have e3 : (lams.map fun x => s.heap.get? (tabK (frA as s.heap.get?) x).2) = lams.map fun _ => some (PySem.W.tabObj #[]) := congrArg (fun z : AlT => z.2.2) e0
    have e4 := Bool.and_eq_true_iff.mp (Bool.and_eq_true_iff.mp e2).2
    exact ⟨_, ⟨He.frG_in, e1, (Bool.and_eq_true_iff.mp e2).1, e4.1, List.map_inj_left.mp e3, sysB_ok e4.2⟩, e5, e8⟩
  keeps := fun _ _ _ ⟨K, S, e⟩ k => ⟨K, ⟨PySem.W.Frag.In.keeps S.kin k, S.facts, S.more, S.tabs, fun x hx => k _ _ (S.empty x hx), let ⟨o, es, m, e, d⟩ := S.sys; ⟨o, es, m, k _ _ e, d⟩⟩, e⟩
open PySem.W
section
variable {r : PySem.W.OpenRow} {q : Program} {M : Nat} {loose : List PySem.Str} {w : World} {as : List Addr} {fa : List He.Fa} {fn : List He.DefD} {ex : List Ex} {lams : List PySem.Str} {gs : List GtD} {ts : List (PySem.Str × List PySem.Str)}
def exA (as : List Addr) (ex : List Ex) : SharedT → Bool := fun s => ex.all fun f => f (frA as (getT s))
def tbA (as : List Addr) (lams : List PySem.Str) : SharedT → Bool × List (Option Obj) := fun s => (tabsB lams (frA as (getT s)) && sysB (getT s), lams.map fun x => getT s (tabK (frA as (getT s)) x).2)
def gsA (as : List Addr) (gs : List GtD) : SharedT → Bool × List He.FnW := fun s => gsO gs (frA as (getT s))
def tsA (as : List Addr) (ts : List (PySem.Str × List PySem.Str)) : SharedT → KyL := fun s => tsO ts (frA as (getT s))
def faA (as : List Addr) (fa : List He.Fa) : SharedT → Bool := fun s => fa.all fun f => f.ok (frA as (getT s))
def fnA (as : List Addr) (fn : List He.DefD) : SharedT → Bool := fun s => fn.all fun d => d.ok (frA as (getT s))
def mpA (as : List Addr) (fn : List He.DefD) : SharedT → List He.FnW := fun s => fn.map fun d => He.fnW (frA as (getT s)) d.at_
theorem runP_l {α β : Type} {f : SharedT → α} {g : SharedT → β} {x : α} {y : β} (h : RunP r M w (fun s => (f s, g s)) (x, y)) : RunP r M w f x := h.two h fun s a _ => congrArg Prod.fst a
theorem runP_r {α β : Type} {f : SharedT → α} {g : SharedT → β} {x : α} {y : β} (h : RunP r M w (fun s => (f s, g s)) (x, y)) : RunP r M w g y := h.two h fun s a _ => congrArg Prod.snd a
theorem run_partsA (h0 : RunP r M w (loP r q loose w) (true, openGood q loose)) (ha : RunP r M w (faA as fa) true) (hb : RunP r M w (fnA as fn) true) (hc : RunP r M w (mpA as fn) (fn.map He.DefD.val)) (h2 : RunP r M w (exA as ex) true) (h3 : RunP r M w (tbA as lams) (true, lams.map fun _ => some (PySem.W.tabObj #[]))) (h4 : RunP r M w (gsA as gs) (gsV gs)) (h5 : RunP r M w (tsA as ts) (tsV w ts)) :
    RunEq r q (hookA as fa fn ex lams gs ts) (fun s => obsA as fa fn ex lams gs ts (getT s)) M loose w := fun os => by
  have a := h0 os
  have b1 := ha os
  have b2 := hb os
  have b3 := hc os
  have c := h2 os
  have d := h3 os
  have g := h4 os
  have t := h5 os
  cases e : endF (stepQ (denQ tabQ) r.prog w) M r.prog w os with
  | none => rw [e] at a; cases a
  | some s =>
    rw [e] at a b1 b2 b3 c d g t
    have a' : loP r q loose w s = (true, openGood q loose) := Option.some.inj a
    have b1' : faA as fa s = true := Option.some.inj b1
    have b2' : fnA as fn s = true := Option.some.inj b2
    have b3' : mpA as fn s = fn.map He.DefD.val := Option.some.inj b3
    have c' : exA as ex s = true := Option.some.inj c
    have d' : tbA as lams s = (true, lams.map fun _ => some (PySem.W.tabObj #[])) := Option.some.inj d
    have g' : gsA as gs s = gsV gs := Option.some.inj g
    have t' : tsA as ts s = tsV w ts := Option.some.inj t
    have a1 := congrArg Prod.fst a'
    have a2 := congrArg Prod.snd a'
    have d1 := congrArg Prod.fst d'
    have d2 := congrArg Prod.snd d'
    show some (_, _, (((((faA as fa s && fnA as fn s), mpA as fn s), exA as ex s && (tbA as lams s).1, (tbA as lams s).2), gsA as gs s), tsA as ts s)) = _
    rw [b1', b2', b3', c', d1, d2, g', t']
    show some ((loP r q loose w s).1, (loP r q loose w s).2, _) = _
    rw [a1, a2]
    rfl
end
end Ob
namespace Bd
open PySem L2 Ev Xm
def kty : List Ty := [.blt "ValueError", .blt "LookupError", .blt "ArithmeticError", .own "BadValue", .own "BadName", .own "NoAnswer", .own "InvalidText", .own "InvalidNumber", .own "InvalidLot", .own "InvalidPart", .own "InvalidRow", .own "InvalidName", .own "InvalidIndex", .own "InvalidClaim", .own "InvalidCommand", .own "NotATable", .own "InvalidPrices", .own "InvalidGains", .own "InvalidShares", .own "InvalidStretches", .own "UnknownName", .own "InUse", .own "Empty", .own "NotThePrice", .own "TooMany", .own "OddRing", .own "NothingToUndo", .own "Broken"]
end Bd
namespace Ev
open PySem PySem.Spec L2 PyProof.Rows
section
variable {X : Cx} {Wx : WX} {K : PySem.W.Frag} {W : Wd} {S : Store} {H : Hp} {pos pos' p : Pos} {c e o i value : Expr}
def valD (kvs : List (Key × D)) (k : Key) : Option D := (kvs.find? fun kv => decide (kv.1 = k)).map (·.2)
end
end Ev
namespace Bd
open PySem L2 Ev Xm
def xt_v17 : XT := ⟨kitOf "InvalidText" [.own "InvalidText", .own "BadValue", .blt "ValueError"] kty ++ kitOf "InvalidNumber" [.own "InvalidNumber", .own "BadValue", .blt "ValueError"] kty ++ kitOf "InvalidLot" [.own "InvalidLot", .own "BadValue", .blt "ValueError"] kty ++ kitOf "InvalidPart" [.own "InvalidPart", .own "BadValue", .blt "ValueError"] kty ++ kitOf "InvalidRow" [.own "InvalidRow", .own "BadValue", .blt "ValueError"] kty ++ kitOf "InvalidName" [.own "InvalidName", .own "BadValue", .blt "ValueError"] kty ++ kitOf "InvalidIndex" [.own "InvalidIndex", .own "BadValue", .blt "ValueError"] kty ++ kitOf "InvalidClaim" [.own "InvalidClaim", .own "BadValue", .blt "ValueError"] kty ++ kitOf "InvalidCommand" [.own "InvalidCommand", .own "BadValue", .blt "ValueError"] kty ++ kitOf "NotATable" [.own "NotATable", .own "BadValue", .blt "ValueError"] kty ++ kitOf "InvalidPrices" [.own "InvalidPrices", .own "BadValue", .blt "ValueError"] kty ++ kitOf "InvalidGains" [.own "InvalidGains", .own "BadValue", .blt "ValueError"] kty ++ kitOf "InvalidShares" [.own "InvalidShares", .own "BadValue", .blt "ValueError"] kty ++ kitOf "InvalidStretches" [.own "InvalidStretches", .own "BadValue", .blt "ValueError"] kty ++ kitOf "UnknownName" [.own "UnknownName", .own "BadName", .blt "LookupError"] kty ++ kitOf "InUse" [.own "InUse", .own "BadName", .blt "LookupError"] kty ++ kitOf "Empty" [.own "Empty", .own "NoAnswer", .blt "ArithmeticError"] kty ++ kitOf "NotThePrice" [.own "NotThePrice", .own "NoAnswer", .blt "ArithmeticError"] kty ++ kitOf "TooMany" [.own "TooMany", .own "NoAnswer", .blt "ArithmeticError"] kty ++ kitOf "OddRing" [.own "OddRing", .own "NoAnswer", .blt "ArithmeticError"] kty ++ kitOf "NothingToUndo" [.own "NothingToUndo", .own "NoAnswer", .blt "ArithmeticError"] kty ++ kitOf "Broken" [.own "Broken", .own "NoAnswer", .blt "ArithmeticError"] kty ++ [], [("InvalidText", "given"), ("InvalidNumber", "given"), ("InvalidLot", "given"), ("InvalidPart", "given"), ("InvalidRow", "given"), ("InvalidName", "given"), ("InvalidIndex", "given"), ("InvalidClaim", "given"), ("InvalidCommand", "given"), ("NotATable", "given"), ("InvalidPrices", "index"), ("InvalidGains", "index"), ("InvalidShares", "index"), ("InvalidStretches", "index"), ("UnknownName", "given"), ("InUse", "index"), ("TooMany", "limit"), ("OddRing", "ring"), ("Broken", "index"), ("Broken", "shown")], []⟩
def isi_v2 : List (Ty × Ty × Bool) := [(.blt "NoneType", .blt "str", false), (.blt "NoneType", .blt "tuple", false), (.blt "NoneType", .blt "int", false), (.blt "NoneType", .blt "list", false), (.blt "NoneType", .blt "bool", false), (.blt "bool", .blt "str", false), (.blt "bool", .blt "tuple", false), (.blt "bool", .blt "int", true), (.blt "bool", .blt "list", false), (.blt "bool", .blt "bool", true), (.blt "int", .blt "str", false), (.blt "int", .blt "tuple", false), (.blt "int", .blt "int", true), (.blt "int", .blt "list", false), (.blt "int", .blt "bool", false), (.blt "str", .blt "str", true), (.blt "str", .blt "tuple", false), (.blt "str", .blt "int", false), (.blt "str", .blt "list", false), (.blt "str", .blt "bool", false), (.blt "tuple", .blt "str", false), (.blt "tuple", .blt "tuple", true), (.blt "tuple", .blt "int", false), (.blt "tuple", .blt "list", false), (.blt "tuple", .blt "bool", false), (.blt "list", .blt "str", false), (.blt "list", .blt "tuple", false), (.blt "list", .blt "int", false), (.blt "list", .blt "list", true), (.blt "list", .blt "bool", false), (.blt "dict", .blt "str", false), (.blt "dict", .blt "tuple", false), (.blt "dict", .blt "int", false), (.blt "dict", .blt "list", false), (.blt "dict", .blt "bool", false)]
end Bd
namespace Lw
open PySem PySem.Spec PyProof.Rows L2 Ev Bd Xm
def top (i : Nat) : Stmt := PySem.Challenge.pw_oddrings_k01_limits_and_errors.main.body.getD i (.Pass ⟨0, 0, 0, 0⟩)
def lams : List Str := []
def dd_law : He.DefD := ⟨("law", none), "law", "law", defArgs (top 40), defBody (top 40), defScope (top 40), [], []⟩
def dd__law_right : He.DefD := ⟨("_law_right", none), "_law_right", "_law_right", defArgs (top 39), defBody (top 39), defScope (top 39), [], []⟩
def dd__law_tray : He.DefD := ⟨("_law_tray", none), "_law_tray", "_law_tray", defArgs (top 32), defBody (top 32), defScope (top 32), [], []⟩
def dd__law_tale : He.DefD := ⟨("_law_tale", none), "_law_tale", "_law_tale", defArgs (top 35), defBody (top 35), defScope (top 35), [], []⟩
def dd__law_by_place : He.DefD := ⟨("_law_by_place", none), "_law_by_place", "_law_by_place", defArgs (top 37), defBody (top 37), defScope (top 37), [], []⟩
def dd__law_by_name : He.DefD := ⟨("_law_by_name", none), "_law_by_name", "_law_by_name", defArgs (top 38), defBody (top 38), defScope (top 38), [], []⟩
def dd__law_odd : He.DefD := ⟨("_law_odd", none), "_law_odd", "_law_odd", defArgs (top 36), defBody (top 36), defScope (top 36), [], []⟩
def dd__law_kin : He.DefD := ⟨("_law_kin", none), "_law_kin", "_law_kin", defArgs (top 34), defBody (top 34), defScope (top 34), [], []⟩
def dd__law_take : He.DefD := ⟨("_law_take", none), "_law_take", "_law_take", defArgs (top 33), defBody (top 33), defScope (top 33), [], []⟩
def dd_InvalidText___init__ : He.DefD := ⟨("InvalidText", some "__init__"), "__init__", "InvalidText.__init__", defArgs (inClass (top 2) 0), defBody (inClass (top 2) 0), defScope (inClass (top 2) 0), [], []⟩
def dd_InvalidNumber___init__ : He.DefD := ⟨("InvalidNumber", some "__init__"), "__init__", "InvalidNumber.__init__", defArgs (inClass (top 3) 0), defBody (inClass (top 3) 0), defScope (inClass (top 3) 0), [], []⟩
def dd_InvalidLot___init__ : He.DefD := ⟨("InvalidLot", some "__init__"), "__init__", "InvalidLot.__init__", defArgs (inClass (top 4) 0), defBody (inClass (top 4) 0), defScope (inClass (top 4) 0), [], []⟩
def dd_InvalidPart___init__ : He.DefD := ⟨("InvalidPart", some "__init__"), "__init__", "InvalidPart.__init__", defArgs (inClass (top 5) 0), defBody (inClass (top 5) 0), defScope (inClass (top 5) 0), [], []⟩
def dd_InvalidRow___init__ : He.DefD := ⟨("InvalidRow", some "__init__"), "__init__", "InvalidRow.__init__", defArgs (inClass (top 6) 0), defBody (inClass (top 6) 0), defScope (inClass (top 6) 0), [], []⟩
def dd_InvalidName___init__ : He.DefD := ⟨("InvalidName", some "__init__"), "__init__", "InvalidName.__init__", defArgs (inClass (top 7) 0), defBody (inClass (top 7) 0), defScope (inClass (top 7) 0), [], []⟩
def dd_InvalidIndex___init__ : He.DefD := ⟨("InvalidIndex", some "__init__"), "__init__", "InvalidIndex.__init__", defArgs (inClass (top 8) 0), defBody (inClass (top 8) 0), defScope (inClass (top 8) 0), [], []⟩
def dd_InvalidClaim___init__ : He.DefD := ⟨("InvalidClaim", some "__init__"), "__init__", "InvalidClaim.__init__", defArgs (inClass (top 9) 0), defBody (inClass (top 9) 0), defScope (inClass (top 9) 0), [], []⟩
def dd_InvalidCommand___init__ : He.DefD := ⟨("InvalidCommand", some "__init__"), "__init__", "InvalidCommand.__init__", defArgs (inClass (top 10) 0), defBody (inClass (top 10) 0), defScope (inClass (top 10) 0), [], []⟩
def dd_NotATable___init__ : He.DefD := ⟨("NotATable", some "__init__"), "__init__", "NotATable.__init__", defArgs (inClass (top 11) 0), defBody (inClass (top 11) 0), defScope (inClass (top 11) 0), [], []⟩
def dd_InvalidPrices___init__ : He.DefD := ⟨("InvalidPrices", some "__init__"), "__init__", "InvalidPrices.__init__", defArgs (inClass (top 12) 0), defBody (inClass (top 12) 0), defScope (inClass (top 12) 0), [], []⟩
def dd_InvalidGains___init__ : He.DefD := ⟨("InvalidGains", some "__init__"), "__init__", "InvalidGains.__init__", defArgs (inClass (top 13) 0), defBody (inClass (top 13) 0), defScope (inClass (top 13) 0), [], []⟩
def dd_InvalidShares___init__ : He.DefD := ⟨("InvalidShares", some "__init__"), "__init__", "InvalidShares.__init__", defArgs (inClass (top 14) 0), defBody (inClass (top 14) 0), defScope (inClass (top 14) 0), [], []⟩
def dd_InvalidStretches___init__ : He.DefD := ⟨("InvalidStretches", some "__init__"), "__init__", "InvalidStretches.__init__", defArgs (inClass (top 15) 0), defBody (inClass (top 15) 0), defScope (inClass (top 15) 0), [], []⟩
def dd_UnknownName___init__ : He.DefD := ⟨("UnknownName", some "__init__"), "__init__", "UnknownName.__init__", defArgs (inClass (top 17) 0), defBody (inClass (top 17) 0), defScope (inClass (top 17) 0), [], []⟩
def dd_InUse___init__ : He.DefD := ⟨("InUse", some "__init__"), "__init__", "InUse.__init__", defArgs (inClass (top 18) 0), defBody (inClass (top 18) 0), defScope (inClass (top 18) 0), [], []⟩
def dd_TooMany___init__ : He.DefD := ⟨("TooMany", some "__init__"), "__init__", "TooMany.__init__", defArgs (inClass (top 22) 0), defBody (inClass (top 22) 0), defScope (inClass (top 22) 0), [], []⟩
def dd_OddRing___init__ : He.DefD := ⟨("OddRing", some "__init__"), "__init__", "OddRing.__init__", defArgs (inClass (top 23) 0), defBody (inClass (top 23) 0), defScope (inClass (top 23) 0), [], []⟩
def dd_Broken___init__ : He.DefD := ⟨("Broken", some "__init__"), "__init__", "Broken.__init__", defArgs (inClass (top 25) 0), defBody (inClass (top 25) 0), defScope (inClass (top 25) 0), [], []⟩
def fn : List He.DefD := dd_law :: dd__law_right :: dd__law_tray :: dd__law_tale :: dd__law_by_place :: dd__law_by_name :: dd__law_odd :: dd__law_kin :: dd__law_take :: dd_InvalidText___init__ :: dd_InvalidNumber___init__ :: dd_InvalidLot___init__ :: dd_InvalidPart___init__ :: dd_InvalidRow___init__ :: dd_InvalidName___init__ :: dd_InvalidIndex___init__ :: dd_InvalidClaim___init__ :: dd_InvalidCommand___init__ :: dd_NotATable___init__ :: dd_InvalidPrices___init__ :: dd_InvalidGains___init__ :: dd_InvalidShares___init__ :: dd_InvalidStretches___init__ :: dd_UnknownName___init__ :: dd_InUse___init__ :: dd_TooMany___init__ :: dd_OddRing___init__ :: dd_Broken___init__ :: []
def fa : List He.Fa := .free "ArithmeticError" :: .free "LookupError" :: .free "ValueError" :: .free "abs" :: .free "all" :: .free "divmod" :: .free "int" :: .free "isinstance" :: .free "len" :: .free "max" :: .free "min" :: .free "range" :: .free "repr" :: .int "MOST_COLUMNS" 8 :: .int "MOST_KNOTS" 9 :: .int "MOST_PRICE" 1000000000000000000000000000000 :: .int "MOST_ROWS" 8 :: .int "MOST_STRIKES" 3 :: .glo "BadName" :: .glo "BadValue" :: .glo "Broken" :: .glo "Empty" :: .glo "InUse" :: .glo "InvalidClaim" :: .glo "InvalidCommand" :: .glo "InvalidGains" :: .glo "InvalidIndex" :: .glo "InvalidLot" :: .glo "InvalidName" :: .glo "InvalidNumber" :: .glo "InvalidPart" :: .glo "InvalidPrices" :: .glo "InvalidRow" :: .glo "InvalidShares" :: .glo "InvalidStretches" :: .glo "InvalidText" :: .glo "NoAnswer" :: .glo "NotATable" :: .glo "NotThePrice" :: .glo "NothingToUndo" :: .glo "OddRing" :: .glo "TooMany" :: .glo "UnknownName" :: .glo "law" :: .keep "law" :: .glo "_law_right" :: .keep "_law_right" :: .glo "_law_tray" :: .keep "_law_tray" :: .glo "_law_tale" :: .keep "_law_tale" :: .glo "_law_by_place" :: .keep "_law_by_place" :: .glo "_law_by_name" :: .keep "_law_by_name" :: .glo "_law_odd" :: .keep "_law_odd" :: .glo "_law_kin" :: .keep "_law_kin" :: .glo "_law_take" :: .keep "_law_take" :: []
def ex : List Ex := [oexB "InvalidText" "ValueError.__new__" [.type "ValueError", .type "Exception", .type "BaseException", .type "object"] ["given"], oexB "InvalidNumber" "ValueError.__new__" [.type "ValueError", .type "Exception", .type "BaseException", .type "object"] ["given"], oexB "InvalidLot" "ValueError.__new__" [.type "ValueError", .type "Exception", .type "BaseException", .type "object"] ["given"], oexB "InvalidPart" "ValueError.__new__" [.type "ValueError", .type "Exception", .type "BaseException", .type "object"] ["given"], oexB "InvalidRow" "ValueError.__new__" [.type "ValueError", .type "Exception", .type "BaseException", .type "object"] ["given"], oexB "InvalidName" "ValueError.__new__" [.type "ValueError", .type "Exception", .type "BaseException", .type "object"] ["given"], oexB "InvalidIndex" "ValueError.__new__" [.type "ValueError", .type "Exception", .type "BaseException", .type "object"] ["given"], oexB "InvalidClaim" "ValueError.__new__" [.type "ValueError", .type "Exception", .type "BaseException", .type "object"] ["given"], oexB "InvalidCommand" "ValueError.__new__" [.type "ValueError", .type "Exception", .type "BaseException", .type "object"] ["given"], oexB "NotATable" "ValueError.__new__" [.type "ValueError", .type "Exception", .type "BaseException", .type "object"] ["given"], oexB "InvalidPrices" "ValueError.__new__" [.type "ValueError", .type "Exception", .type "BaseException", .type "object"] ["index"], oexB "InvalidGains" "ValueError.__new__" [.type "ValueError", .type "Exception", .type "BaseException", .type "object"] ["index"], oexB "InvalidShares" "ValueError.__new__" [.type "ValueError", .type "Exception", .type "BaseException", .type "object"] ["index"], oexB "InvalidStretches" "ValueError.__new__" [.type "ValueError", .type "Exception", .type "BaseException", .type "object"] ["index"], oexB "UnknownName" "LookupError.__new__" [.type "LookupError", .type "Exception", .type "BaseException", .type "object"] ["given"], oexB "InUse" "LookupError.__new__" [.type "LookupError", .type "Exception", .type "BaseException", .type "object"] ["index"], ownXB "Empty" [.type "ArithmeticError", .type "Exception", .type "BaseException", .type "object"] "ArithmeticError.__new__", ownXB "NotThePrice" [.type "ArithmeticError", .type "Exception", .type "BaseException", .type "object"] "ArithmeticError.__new__", oexB "TooMany" "ArithmeticError.__new__" [.type "ArithmeticError", .type "Exception", .type "BaseException", .type "object"] ["limit"], oexB "OddRing" "ArithmeticError.__new__" [.type "ArithmeticError", .type "Exception", .type "BaseException", .type "object"] ["ring"], ownXB "NothingToUndo" [.type "ArithmeticError", .type "Exception", .type "BaseException", .type "object"] "ArithmeticError.__new__", oexB "Broken" "ArithmeticError.__new__" [.type "ArithmeticError", .type "Exception", .type "BaseException", .type "object"] ["index", "shown"], kxB xt_v17.kit, flB xt_v17.fl, exB xt_v17.ex, kitB isi_v2, ownB []]
def gs : List Ob.GtD := []
def ts : List (PySem.Str × List PySem.Str) := []
def names : List PySem.Str := "BadValue" :: "InvalidText" :: "InvalidNumber" :: "InvalidLot" :: "InvalidPart" :: "InvalidRow" :: "InvalidName" :: "InvalidIndex" :: "InvalidClaim" :: "InvalidCommand" :: "NotATable" :: "InvalidPrices" :: "InvalidGains" :: "InvalidShares" :: "InvalidStretches" :: "BadName" :: "UnknownName" :: "InUse" :: "NoAnswer" :: "Empty" :: "NotThePrice" :: "TooMany" :: "OddRing" :: "NothingToUndo" :: "Broken" :: "MOST_ROWS" :: "MOST_COLUMNS" :: "MOST_PRICE" :: "MOST_STRIKES" :: "MOST_KNOTS" :: "_law_tray" :: "_law_take" :: "_law_kin" :: "_law_tale" :: "_law_odd" :: "_law_by_place" :: "_law_by_name" :: "_law_right" :: []
abbrev R : PySem.W.OpenRow := PySem.W.OpenLaw.row PySem.Challenge.rw_oddrings_k01_limits_and_errors
def adrs : List PySem.Addr := 3 :: 6 :: 4 :: 24 :: 44 :: 63 :: 82 :: 101 :: 120 :: 139 :: 158 :: 177 :: 196 :: 215 :: 234 :: 253 :: 272 :: 291 :: 303 :: 323 :: 342 :: 354 :: 367 :: 379 :: 398 :: 417 :: 429 :: 448 :: 457 :: 464 :: 469 :: 476 :: 483 :: 490 :: 497 :: 504 :: 509 :: 0 :: 23 :: 43 :: 62 :: 81 :: 100 :: 119 :: 138 :: 157 :: 176 :: 195 :: 214 :: 233 :: 252 :: 271 :: 290 :: 302 :: 322 :: 341 :: 353 :: 366 :: 378 :: 397 :: 416 :: 428 :: 447 :: 456 :: 463 :: 468 :: 475 :: 482 :: 489 :: 496 :: 503 :: 508 :: 22 :: 25 :: 41 :: 42 :: 60 :: 61 :: 79 :: 80 :: 98 :: 99 :: 117 :: 118 :: 136 :: 137 :: 155 :: 156 :: 174 :: 175 :: 193 :: 194 :: 212 :: 213 :: 231 :: 232 :: 250 :: 251 :: 269 :: 270 :: 288 :: 289 :: 301 :: 304 :: 320 :: 321 :: 339 :: 340 :: 352 :: 355 :: 365 :: 377 :: 395 :: 396 :: 414 :: 415 :: 427 :: 445 :: 446 :: 451 :: 452 :: 453 :: 454 :: 455 :: 458 :: 459 :: 460 :: 461 :: 462 :: 465 :: 466 :: 467 :: 470 :: 471 :: 472 :: 473 :: 474 :: 477 :: 478 :: 479 :: 480 :: 481 :: 484 :: 485 :: 486 :: 487 :: 488 :: 491 :: 492 :: 493 :: 494 :: 495 :: 498 :: 499 :: 500 :: 501 :: 502 :: 505 :: 506 :: 507 :: 40 :: 59 :: 78 :: 97 :: 116 :: 135 :: 154 :: 173 :: 192 :: 211 :: 230 :: 249 :: 268 :: 287 :: 319 :: 338 :: 394 :: 413 :: 444 :: []
abbrev hk : PySem.W.Hook := Ob.hookA adrs fa fn ex lams gs ts
def ob (s : PySem.W.SharedT) : Ob.AlQ := Ob.obsA adrs fa fn ex lams gs ts (HandSHeadRun.getT s)
theorem run0 (w : World) : RunP R 40000 w (fun s => (loP R (PySem.W.view R.prog [40]) names w s, (Ob.exA adrs ex s, (Ob.tbA adrs lams s, (Ob.gsA adrs gs s, (Ob.tsA adrs ts s, Ob.mpA adrs fn s)))))) ((loV (PySem.W.view R.prog [40]) names), (true, ((true, lams.map fun _ => some (PySem.W.tabObj #[])), (Ob.gsV gs, (Ob.tsV w ts, fn.map He.DefD.val))))) := by
  intro os
  kernel_rfl
theorem run1 (w : World) : RunP R 40000 w (fun s => (Ob.faA adrs fa s, Ob.fnA adrs fn s)) (true, true) := by
  intro os
  kernel_rfl
theorem run (w : World) : HandSHeadRun.RunEq R (PySem.W.view R.prog [40]) hk ob 40000 names w := Ob.run_partsA (Ob.runP_l (run0 w)) (Ob.runP_l (run1 w)) (Ob.runP_r (run1 w)) (Ob.runP_r (Ob.runP_r (Ob.runP_r (Ob.runP_r (Ob.runP_r (run0 w)))))) (Ob.runP_l (Ob.runP_r (run0 w))) (Ob.runP_l (Ob.runP_r (Ob.runP_r (run0 w)))) (Ob.runP_l (Ob.runP_r (Ob.runP_r (Ob.runP_r (run0 w))))) (Ob.runP_l (Ob.runP_r (Ob.runP_r (Ob.runP_r (Ob.runP_r (run0 w))))))
end Lw
set_option Elab.async false
set_option linter.all false
set_option maxRecDepth 100000
set_option maxHeartbeats 0
namespace Ev
open PySem L2
def M.bind {α β : Type} (m : M α) (f : α → M β) : M β := fun S => match m S with
  | .ok a S' => f a S'
  | .exc x S' => .exc x S'
  | .bad => .bad
instance : Monad M where
  pure := M.pure
  bind := M.bind
abbrev MT := En → M Bool
inductive Fl where
  | nx (δ : En) (S : Store)
  | rt (d : D) (S : Store)
  | bk (δ : En) (S : Store)
  | ct (δ : En) (S : Store)
  | exc (x : Xc) (δ : En) (S : Store)
  | bad
abbrev MS := En → Store → Fl
theorem Wd.lf.trans {A B C : Wd} (h : A.lf B) (g : B.lf C) : A.lf C := by
  obtain ⟨h1, h0, t, h2⟩ := h
  obtain ⟨g1, g0, u, g2⟩ := g
  exact ⟨fun a o e => g1 a o (h1 a o e), g0.trans h0, t ++ u, by rw [g2, h2, List.append_assoc]⟩
theorem Wd.le.trans {A B C : Wd} (h : A.le B) (g : B.le C) : A.le C := ⟨h.toLf.trans g.toLf, g.pp.trans h.pp⟩
theorem Wd.lf.get {A B : Wd} (h : A.lf B) {i : Nat} {a : Addr} (e : A.m[i]? = some a) : B.m[i]? = some a := by
  obtain ⟨_, _, t, h2⟩ := h
  rw [h2, List.getElem?_append_left (List.getElem?_eq_some_iff.mp e).1]
  exact e
theorem exH_ok {P : Program} {w : World} {H : Hp} {h : Heap} {a : Addr} {cls : Value} {d : Option Addr} {oe : Obj} {vs : Array Value} (e : h.get? a = some oe) (z : L2N.Zn cls d oe) (q : oe.data = .fields vs) : ObjOk P w H h a (exH a cls d) :=
  ⟨⟨oe, vs, e, z, q⟩, ⟨oe, e⟩, fun _ _ ⟨o, v, q, r⟩ k => ⟨o, v, k o q, r⟩⟩
theorem XdOf.mono {F F' : Hp} (h : ∀ a o, F a = some o → F' a = some o) : ∀ {d : Option Addr} {vfs : List (Str × V)}, XdOf F d vfs → XdOf F' d vfs
  | none, _, x => x
  | some _, _, x => h _ _ x
section
variable {K : PySem.W.Frag} {W W' : Wd}
theorem rd_mono (h : W.lf W') {a : Addr} {u : HO} (r : Rd W.F a u) : Rd W'.F a u := by
  rcases r with r | ⟨o, r⟩
  · exact .inl (h.f _ _ r)
  · exact .inr ⟨o, h.f _ _ r⟩
theorem sqL_mono (h : W.lf W') {a : Addr} {xs : List V} (r : SqL K W.F a xs) : SqL K W'.F a xs := by
  rcases r with r | r
  · exact .inl (rd_mono h r)
  · exact .inr r
theorem sqT_mono (h : W.lf W') {a : Addr} {xs : List V} (r : SqT K W.F a xs) : SqT K W'.F a xs := by
  rcases r with r | r
  · exact .inl (rd_mono h r)
  · exact .inr r
mutual
theorem Rep.mono (h : W.lf W') : ∀ {d : D} {v : V}, Rep K W d v → Rep K W' d v
  | _, _, .non => .non
  | _, _, .bl b => .bl b
  | _, _, .int i => .int i
  | _, _, .str x => .str x
  | _, _, .tup q r => .tup (sqT_mono h q) (Reps.mono h r)
  | _, _, .lst q r => .lst (h.f _ _ q) (Reps.mono h r)
  | _, _, .scr q => .scr (sqL_mono h q)
  | _, _, .ins e k r => .ins (h.f _ _ e) k (Reps.mono h r)
  | _, _, .ref e => .ref (h.get e)
  | _, _, .fn x => .fn x
  | _, _, .dic e k r => .dic (h.f _ _ e) k (Reps.mono h r)
  | _, _, .dlk e k r => .dlk (h.f _ _ e) k (Reps.mono h r)
  | _, _, .tpx e k r => .tpx (h.f _ _ e) k (Reps.mono h r)
  | _, _, .exv e x k r => .exv (h.f _ _ e) (x.mono h.f) k (Reps.mono h r)
  | _, _, .exn0 => .exn0
  | _, _, .exn1 e k r => .exn1 (h.f _ _ e) k (Reps.mono h r)
  | _, _, .lam e r => .lam (h.f _ _ e) (Reps.mono h r)
theorem Reps.mono (h : W.lf W') : ∀ {ds : List D} {vs : List V}, Reps K W ds vs → Reps K W' ds vs
  | _, _, .nil => .nil
  | _, _, .cons r t => .cons (Rep.mono h r) (Reps.mono h t)
end
theorem Reps.get : ∀ {ds : List D} {vs : List V} {i : Nat} {d : D}, Reps K W ds vs → ds[i]? = some d → ∃ v, vs[i]? = some v ∧ Rep K W d v
  | _, _, _, _, .nil, e => by simp at e
  | _, _, 0, _, .cons r _, e => by simp at e; subst e; exact ⟨_, rfl, r⟩
  | _, _, i + 1, _, .cons _ t, e => by
    obtain ⟨v, e1, r⟩ := Reps.get (i := i) t (by simpa using e)
    exact ⟨v, by simpa using e1, r⟩
theorem Reps.append : ∀ {ds es : List D} {vs us : List V}, Reps K W ds vs → Reps K W es us → Reps K W (ds ++ es) (vs ++ us)
  | _, _, _, _, .nil, s => s
  | _, _, _, _, .cons r t, s => .cons r (Reps.append t s)
theorem Reps.set {d : D} {v : V} (r : Rep K W d v) : ∀ {ds : List D} {vs : List V} (i : Nat), Reps K W ds vs → Reps K W (ds.set i d) (vs.set i v)
  | _, _, _, .nil => .nil
  | _, _, 0, .cons _ t => .cons r t
  | _, _, i + 1, .cons q t => .cons q (Reps.set r i t)
theorem Reps.take : ∀ {ds : List D} {vs : List V} (n : Nat), Reps K W ds vs → Reps K W (ds.take n) (vs.take n)
  | _, _, 0, _ => .nil
  | _, _, _ + 1, .nil => .nil
  | _, _, n + 1, .cons r t => .cons r (Reps.take n t)
theorem Reps.drop : ∀ {ds : List D} {vs : List V} (n : Nat), Reps K W ds vs → Reps K W (ds.drop n) (vs.drop n)
  | _, _, 0, r => r
  | _, _, _ + 1, .nil => .nil
  | _, _, n + 1, .cons _ t => Reps.drop n t
theorem Reps.reverse {ds : List D} {vs : List V} (r : Reps K W ds vs) : Reps K W ds.reverse vs.reverse := by
  induction ds generalizing vs with
  | nil => cases r; exact .nil
  | cons d ds ih =>
    cases r with
    | cons a b =>
      rw [List.reverse_cons, List.reverse_cons]
      exact (ih b).append (.cons a .nil)
end
theorem CellAt.mono {K : PySem.W.Frag} {W W' : Wd} {H : Hp} {a : Addr} (h : W.lf W') : ∀ {c : Cell}, CellAt K W H a c → CellAt K W' H a c
  | .lst _, ⟨vs, e, r⟩ => ⟨vs, e, r.mono h⟩
  | .ins _ _, ⟨dx, vfs, e, k, r⟩ => ⟨dx, vfs, e, k, r.mono h⟩
  | .dT _, ⟨vk, e, k, r⟩ => ⟨vk, e, k, r.mono h⟩
  | .dK _, ⟨vk, e, k, r⟩ => ⟨vk, e, k, r.mono h⟩
  | .tab _, ⟨ps, e, k, r⟩ => ⟨ps, e, k, fun p v z => (r p v z).imp fun c ⟨z1, z2⟩ => ⟨z1, h.f _ _ z2⟩⟩
theorem CellAt.there {K : PySem.W.Frag} {W : Wd} {H : Hp} {a : Addr} : ∀ {c : Cell}, CellAt K W H a c → ∃ o, H a = some o
  | .lst _, ⟨vs, e, r⟩ => ⟨_, e⟩
  | .ins _ _, ⟨dx, vfs, e, k, r⟩ => ⟨_, e⟩
  | .dT _, ⟨vk, e, k, r⟩ => ⟨_, e⟩
  | .dK _, ⟨vk, e, k, r⟩ => ⟨_, e⟩
  | .tab _, ⟨ps, e, k, r⟩ => ⟨_, e⟩
theorem CellAt.eqH {K : PySem.W.Frag} {W : Wd} {H H' : Hp} {a : Addr} (h : H' a = H a) : ∀ {c : Cell}, CellAt K W H a c → CellAt K W H' a c
  | .lst _, ⟨vs, e, r⟩ => ⟨vs, h.trans e, r⟩
  | .ins _ _, ⟨dx, vfs, e, k, r⟩ => ⟨dx, vfs, h.trans e, k, r⟩
  | .dT _, ⟨vk, e, k, r⟩ => ⟨vk, h.trans e, k, r⟩
  | .dK _, ⟨vk, e, k, r⟩ => ⟨vk, h.trans e, k, r⟩
  | .tab _, ⟨ps, e, k, r⟩ => ⟨ps, h.trans e, k, r⟩
section
variable {K : PySem.W.Frag} {W : Wd} {S : Store} {H : Hp}
theorem rd_sub {F H : Hp} (s : ∀ a o, F a = some o → H a = some o) {a : Addr} {u : HO} (r : Rd F a u) : Rd H a u := by
  rcases r with r | ⟨o, r⟩
  · exact .inl (s _ _ r)
  · exact .inr ⟨o, s _ _ r⟩
theorem Good.sqL (g : Good K W S H) {a : Addr} {xs : List V} (r : SqL K W.F a xs) : SqL K H a xs := by
  rcases r with r | r
  · exact .inl (rd_sub g.sub r)
  · exact .inr r
theorem Good.sqT (g : Good K W S H) {a : Addr} {xs : List V} (r : SqT K W.F a xs) : SqT K H a xs := by
  rcases r with r | r
  · exact .inl (rd_sub g.sub r)
  · exact .inr r
def Wd.add (W : Wd) (p : Addr) (o : HO) : Wd := ⟨upd W.F p o, W.m, W.P, W.sf⟩
theorem Good.freeP (g : Good K W S H) {p : Addr} (n : H p = none) : W.P p = none := by
  cases e : W.P p with
  | none => rfl
  | some o => rw [(g.prv p o e).1] at n; cases n
theorem Good.add_le (g : Good K W S H) {p : Addr} {o : HO} (n : H p = none) : W.le (W.add p o) :=
  ⟨⟨fun a u e => by show upd W.F p o a = _; rw [upd_ne (ne_of_none e (g.free n))]; exact e, rfl, [], by simp [Wd.add]⟩, rfl⟩
theorem Good.add (g : Good K W S H) {p : Addr} {o : HO} (n : H p = none) : Good K (W.add p o) S (upd H p o) where
  sub := fun a u e => by
    have e1 : upd W.F p o a = some u := e
    by_cases h : a = p
    · subst h; rw [upd_same] at e1 ⊢; exact e1
    · rw [upd_ne h] at e1 ⊢; exact g.sub a u e1
  len := g.len
  cell := fun i c e => by
    obtain ⟨a, e1, e2, e2', e3⟩ := g.cell i c e
    obtain ⟨u, e4⟩ := e3.there
    have ne : a ≠ p := ne_of_none e4 n
    exact ⟨a, e1, by show upd W.F p o a = _; rw [upd_ne ne]; exact e2, e2', (e3.eqH (upd_ne ne)).mono (g.add_le n).toLf⟩
  inj := g.inj
  prv := fun a u e => by
    obtain ⟨h1, h2⟩ := g.prv a u e
    have ne : a ≠ p := ne_of_none h1 n
    exact ⟨by rw [upd_ne ne]; exact h1, by show upd W.F p o a = _; rw [upd_ne ne]; exact h2⟩
  ptup := g.ptup
def Wd.addC (W : Wd) (p : Addr) : Wd := ⟨W.F, W.m ++ [p], W.P, W.sf⟩
theorem Wd.addC_le (W : Wd) (p : Addr) : W.le (W.addC p) := ⟨⟨fun _ _ h => h, rfl, [p], rfl⟩, rfl⟩
theorem Good.addC (g : Good K W S H) {p : Addr} {o : HO} {c : Cell} (n : H p = none) (hc : CellAt K (W.addC p) (upd H p o) p c) : Good K (W.addC p) (S ++ [some c]) (upd H p o) where
  sub := fun a u e => by
    rw [upd_ne (ne_of_none (g.sub a u e) n)]
    exact g.sub a u e
  len := by simp [Wd.addC, g.len]
  cell := fun i c' e => by
    by_cases h : i < S.length
    · rw [List.getElem?_append_left h] at e
      obtain ⟨a, e1, e2, e2', e3⟩ := g.cell i c' e
      obtain ⟨u, e4⟩ := e3.there
      exact ⟨a, (Wd.addC_le W p).get e1, e2, e2', (e3.eqH (upd_ne (ne_of_none e4 n))).mono (Wd.addC_le W p).toLf⟩
    · have hi : i = S.length := by
        have := (List.getElem?_eq_some_iff.mp e).1
        simp at this; omega
      subst hi
      simp at e
      subst e
      exact ⟨p, by simp [Wd.addC, ← g.len], g.free n, g.freeP n, hc⟩
  inj := fun i j a c1 c2 e1 e2 h1 h2 => by
    have old : ∀ {i : Nat} {a : Addr} {c' : Cell}, i < S.length → (S ++ [some c])[i]? = some (some c') → (W.addC p).m[i]? = some a → W.m[i]? = some a ∧ S[i]? = some (some c') ∧ a ≠ p := fun {i a c'} hi e h => by
      rw [List.getElem?_append_left hi] at e
      obtain ⟨a', q1, q2, _, q3⟩ := g.cell i _ e
      have : (W.addC p).m[i]? = some a' := (Wd.addC_le W p).get q1
      rw [h] at this
      cases this
      obtain ⟨u, q4⟩ := q3.there
      exact ⟨q1, e, ne_of_none q4 n⟩
    have last : ∀ {i : Nat} {a : Addr} {c' : Cell}, ¬ i < S.length → (S ++ [some c])[i]? = some (some c') → (W.addC p).m[i]? = some a → i = S.length ∧ a = p := fun {i a c'} hi e h => by
      have hi' : i = S.length := by
        have := (List.getElem?_eq_some_iff.mp e).1
        simp at this; omega
      subst hi'
      refine ⟨rfl, ?_⟩
      simp [Wd.addC, ← g.len] at h
      exact h.symm
    by_cases hi : i < S.length
    · obtain ⟨a1, a2, a3⟩ := old hi e1 h1
      by_cases hj : j < S.length
      · obtain ⟨b1, b2, b3⟩ := old hj e2 h2
        exact g.inj i j a _ _ a2 b2 a1 b1
      · obtain ⟨b1, b2⟩ := last hj e2 h2
        exact absurd b2 a3
    · obtain ⟨a1, a2⟩ := last hi e1 h1
      by_cases hj : j < S.length
      · obtain ⟨b1, b2, b3⟩ := old hj e2 h2
        exact absurd a2 b3
      · obtain ⟨b1, b2⟩ := last hj e2 h2
        rw [a1, b1]
  prv := fun a u e => by
    obtain ⟨h1, h2⟩ := g.prv a u e
    exact ⟨by rw [upd_ne (ne_of_none h1 n)]; exact h1, h2⟩
  ptup := g.ptup
theorem Good.put (g : Good K W S H) {i : Nat} {a : Addr} {c c' : Cell} {o : HO} (e : S[i]? = some (some c)) (h : W.m[i]? = some a) (hc : CellAt K W (upd H a o) a c') : Good K W (S.set i (some c')) (upd H a o) := by
  obtain ⟨a', z1, z2, z3, z4⟩ := g.cell i c e
  rw [h] at z1; cases z1
  refine ⟨fun b u q => ?_, by rw [List.length_set]; exact g.len, fun j c1 q => ?_, fun j k b c1 c2 q1 q2 h1 h2 => ?_, fun b u q => ?_, g.ptup⟩
  · have ne : b ≠ a := fun z => by subst z; rw [q] at z2; cases z2
    rw [upd_ne ne]
    exact g.sub b u q
  · by_cases hj : i = j
    · subst hj
      rw [List.getElem?_set_self (List.getElem?_eq_some_iff.mp e).1] at q
      cases q
      exact ⟨a, h, z2, z3, hc⟩
    · rw [List.getElem?_set_ne hj] at q
      obtain ⟨b, q1, q2, q2', q3⟩ := g.cell j c1 q
      have ne : b ≠ a := fun z => by subst z; exact hj (g.inj i j b _ _ e q h q1)
      exact ⟨b, q1, q2, q2', q3.eqH (upd_ne ne)⟩
  · have old : ∀ {j : Nat} {c1 : Cell}, (S.set i (some c'))[j]? = some (some c1) → ∃ c2, S[j]? = some (some c2) := fun {j c1} q => by
      by_cases hj : i = j
      · subst hj; exact ⟨c, e⟩
      · rw [List.getElem?_set_ne hj] at q; exact ⟨_, q⟩
    obtain ⟨d1, p1⟩ := old q1
    obtain ⟨d2, p2⟩ := old q2
    exact g.inj j k b d1 d2 p1 p2 h1 h2
  · have ne : b ≠ a := fun z => by subst z; rw [q] at z3; cases z3
    obtain ⟨h1, h2⟩ := g.prv b u q
    exact ⟨by rw [upd_ne ne]; exact h1, h2⟩
theorem Wd.prv_lf (W : Wd) (p : Addr) (o : HO) : W.lf (W.prv p o) := ⟨fun _ _ h => h, rfl, [], by simp [Wd.prv]⟩
theorem Good.toPrv (g : Good K W S H) {p : Addr} {o : HO} (hf : W.F p = none) (hxt : ∀ xs, o ≠ .tup xs) (hm : ∀ (i : Nat) c, S[i]? = some (some c) → W.m[i]? ≠ some p) : Good K (W.prv p o) S (upd H p o) where
  sub := fun a u e => by
    have ne : a ≠ p := fun z => by subst z; have e' : W.F a = some u := e; rw [e'] at hf; cases hf
    rw [upd_ne ne]; exact g.sub a u e
  len := g.len
  cell := fun i c e => by
    obtain ⟨a, e1, e2, e3, e4⟩ := g.cell i c e
    have ne : a ≠ p := fun z => by subst z; exact hm i c e e1
    exact ⟨a, e1, e2, by show upd W.P p o a = _; rw [upd_ne ne]; exact e3, (e4.eqH (upd_ne ne)).mono (W.prv_lf p o)⟩
  inj := g.inj
  prv := fun a u e => by
    have e' : upd W.P p o a = some u := e
    by_cases h : a = p
    · subst h; rw [upd_same] at e'; cases e'; exact ⟨upd_same, hf⟩
    · rw [upd_ne h] at e' ⊢; exact g.prv a u e'
  ptup := fun a xs e => by
    have e' : upd W.P p o a = some (.tup xs) := e
    by_cases h : a = p
    · subst h; rw [upd_same] at e'; cases e'; exact hxt _ rfl
    · rw [upd_ne h] at e'; exact g.ptup a xs e'
theorem Good.newPrv (g : Good K W S H) {p : Addr} {o : HO} (n : H p = none) (hxt : ∀ xs, o ≠ .tup xs := by intro xs z; cases z) : Good K (W.prv p o) S (upd H p o) := g.toPrv (g.free n) hxt fun i c e h => by
  obtain ⟨a, e1, _, _, e4⟩ := g.cell i c e
  rw [h] at e1; cases e1
  obtain ⟨u, q⟩ := e4.there
  rw [n] at q; cases q
theorem Good.updPrv (g : Good K W S H) {p : Addr} {o u : HO} (n : W.P p = some u) (hxt : ∀ xs, o ≠ .tup xs := by intro xs z; cases z) : Good K (W.prv p o) S (upd H p o) := g.toPrv (g.prv p u n).2 hxt fun i c e h => by
  obtain ⟨a, e1, _, e3, _⟩ := g.cell i c e
  rw [h] at e1; cases e1
  rw [n] at e3; cases e3
theorem Good.unPrv_lf (g : Good K W S H) {p : Addr} {o : HO} {P : Hp} (e : W.P = upd P p o) : W.lf ⟨upd W.F p o, W.m, P, W.sf⟩ := ⟨fun b u q => by
    have nb : b ≠ p := fun z => by subst z; rw [(g.prv b _ (by rw [e, upd_same])).2] at q; cases q
    show upd W.F p o b = _; rw [upd_ne nb]; exact q, rfl, [], by simp⟩
theorem Good.unPrv (g : Good K W S H) {p : Addr} {o : HO} {P : Hp} (e : W.P = upd P p o) (n : P p = none) : Good K ⟨upd W.F p o, W.m, P, W.sf⟩ S H where
  sub := fun a u q => by
    have q' : upd W.F p o a = some u := q
    by_cases h : a = p
    · subst h; rw [upd_same] at q'; cases q'; exact (g.prv a _ (by rw [e, upd_same])).1
    · rw [upd_ne h] at q'; exact g.sub a u q'
  len := g.len
  cell := fun i c q => by
    obtain ⟨a, e1, e2, e3, e4⟩ := g.cell i c q
    have ne : a ≠ p := fun z => by subst z; rw [e, upd_same] at e3; cases e3
    rw [e, upd_ne ne] at e3
    exact ⟨a, e1, by show upd W.F p o a = _; rw [upd_ne ne]; exact e2, e3, e4.mono (g.unPrv_lf e)⟩
  inj := g.inj
  prv := fun a u q => by
    have ne : a ≠ p := fun z => by subst z; have q' : P a = some u := q; rw [q'] at n; cases n
    obtain ⟨h1, h2⟩ := g.prv a u (by rw [e, upd_ne ne]; exact q)
    exact ⟨h1, by show upd W.F p o a = _; rw [upd_ne ne]; exact h2⟩
  ptup := fun a xs q => by
    have q' : P a = some (.tup xs) := q
    have ne : a ≠ p := fun z => by subst z; rw [q'] at n; cases n
    exact g.ptup a xs (by rw [e, upd_ne ne]; exact q')
end
def Slt (K : PySem.W.Frag) (W : Wd) (d : D) (v : V) : Prop := Rep K W d v ∨ (d = .slf ∧ ∃ a, W.sf = some a ∧ v = .ref a)
theorem Slt.mono {K : PySem.W.Frag} {W W' : Wd} {d : D} {v : V} (h : W.lf W') (r : Slt K W d v) : Slt K W' d v := by
  rcases r with r | ⟨e, a, h1, h2⟩
  · exact .inl (r.mono h)
  · exact .inr ⟨e, a, h.sq.trans h1, h2⟩
def REnv (K : PySem.W.Frag) (W : Wd) (δ : En) (σ : St) : Prop := δ.length = σ.length ∧ ∀ (i : Nat) (d : D), δ[i]? = some (some d) → ∃ v, σ[i]? = some (some v) ∧ Slt K W d v
theorem REnv.mono {K : PySem.W.Frag} {W W' : Wd} {δ : En} {σ : St} (h : W.lf W') (r : REnv K W δ σ) : REnv K W' δ σ := ⟨r.1, fun i d e => by
  obtain ⟨v, e1, e2⟩ := r.2 i d e
  exact ⟨v, e1, e2.mono h⟩⟩
theorem REnv.set {K : PySem.W.Frag} {W : Wd} {δ : En} {σ : St} {d : D} {v : V} (r : REnv K W δ σ) (i : Nat) (q : Rep K W d v) : REnv K W (δ.set i (some d)) (σ.set i (some v)) := by
  refine ⟨by simp [r.1], fun j d' e => ?_⟩
  by_cases hj : i = j
  · subst hj
    have hi : i < δ.length := by
      have := (List.getElem?_eq_some_iff.mp e).1
      simpa using this
    rw [List.getElem?_set_self hi] at e
    cases e
    exact ⟨v, List.getElem?_set_self (by rw [← r.1]; exact hi), .inl q⟩
  · rw [List.getElem?_set_ne hj] at e
    obtain ⟨v', e1, e2⟩ := r.2 j d' e
    exact ⟨v', by rw [List.getElem?_set_ne hj]; exact e1, e2⟩
theorem okP.mono {α β : Type} {K : PySem.W.Frag} {R : Wd → α → β → Prop} {W W1 : Wd} {r : Res α} {σ : St} {Wx : WX} {Q : β → Hp → Prop} (h : W.le W1) (p : okP K R W r σ Wx Q) : okP K R W1 r σ Wx Q := by
  cases r with
  | ok d S' => exact fun W' H' v l => p W' H' v (h.trans l)
  | exc x S' => exact fun W' H' cls d l => p W' H' cls d (h.trans l)
  | bad => exact p
def tD (K : PySem.W.Frag) (Wx : WX) (m : ME) : TE := fun σ H Q => ∃ W S δ, Good K W S H ∧ REnv K W δ σ ∧ okP K (Rep K) W (m δ S) σ Wx Q
def tDT (K : PySem.W.Frag) (Wx : WX) (m : MT) : TT := fun σ H Q => ∃ W S δ, Good K W S H ∧ REnv K W δ σ ∧ okP K (fun _ (b c : Bool) => b = c) W (m δ S) σ Wx Q
def tDA (K : PySem.W.Frag) (Wx : WX) (m : MA) : TA := fun σ H Q => ∃ W S δ, Good K W S H ∧ REnv K W δ σ ∧ okP K (Reps K) W (m δ S) σ Wx Q
def flP (K : PySem.W.Frag) (W : Wd) (r : Fl) (Wx : WX) (E : Ends) : Prop := match r with
  | .nx δ S => ∀ W' H' σ, W.le W' → Good K W' S H' → REnv K W' δ σ → E.nx σ H'
  | .rt d S => ∀ W' H' v, W.le W' → Good K W' S H' → Rep K W' d v → E.rt v H'
  | .bk δ S => ∀ W' H' σ, W.le W' → Good K W' S H' → REnv K W' δ σ → E.bk σ H'
  | .ct δ S => ∀ W' H' σ, W.le W' → Good K W' S H' → REnv K W' δ σ → E.ct σ H'
  | .exc x δ S => ∀ W' H' σ cls d, W.le W' → Good K W' S H' → REnv K W' δ σ → XRep K W' x cls d → Wx cls d σ H'
  | .bad => False
theorem flP.mono {K : PySem.W.Frag} {W W1 : Wd} {r : Fl} {Wx : WX} {E : Ends} (h : W.le W1) (p : flP K W r Wx E) : flP K W1 r Wx E := by
  cases r with
  | nx δ S => exact fun W' H' σ l => p W' H' σ (h.trans l)
  | rt d S => exact fun W' H' σ l => p W' H' σ (h.trans l)
  | bk δ S => exact fun W' H' σ l => p W' H' σ (h.trans l)
  | ct δ S => exact fun W' H' σ l => p W' H' σ (h.trans l)
  | exc x δ S => exact fun W' H' σ cls d l => p W' H' σ cls d (h.trans l)
  | bad => exact p
def tDS (K : PySem.W.Frag) (Wx : WX) (m : MS) : TS := fun E σ H => ∃ W S δ, Good K W S H ∧ REnv K W δ σ ∧ flP K W (m δ S) Wx E
theorem PE.imp {X : Cx} {e : Expr} {t t' : TE} (p : PE X e t) (h : ∀ σ H Q, t' σ H Q → t σ H Q) : PE X e t' := ⟨fun pins s σ H Q I q => p.run pins s σ H Q I (h σ H Q q)⟩
theorem PT.imp {X : Cx} {e : Expr} {t t' : TT} (p : PT X e t) (h : ∀ σ H Q, t' σ H Q → t σ H Q) : PT X e t' := ⟨fun pins s σ H Q I q => p.run pins s σ H Q I (h σ H Q q)⟩
theorem PW.imp {X : Cx} {e : Expr} {t t' : TT} (p : PW X e t) (h : ∀ σ H Q, t' σ H Q → t σ H Q) : PW X e t' := ⟨fun w pins s σ H Q I q => p.run w pins s σ H Q I (h σ H Q q)⟩
theorem PA.imp {X : Cx} {e : List Expr} {t t' : TA} (p : PA X e t) (h : ∀ σ H Q, t' σ H Q → t σ H Q) : PA X e t' := ⟨fun pos pins s σ H Q I q => p.run pos pins s σ H Q I (h σ H Q q)⟩
theorem PS.imp {X : Cx} {e : Stmt} {t t' : TS} (p : PS X e t) (h : ∀ D σ H, t' D σ H → t D σ H) : PS X e t' := ⟨fun pins s σ H D I q => p.run pins s σ H D I (h D σ H q)⟩
theorem PSs.imp {X : Cx} {e : List Stmt} {t t' : TS} (p : PSs X e t) (h : ∀ D σ H, t' D σ H → t D σ H) : PSs X e t' := ⟨fun pins s σ H D I q => p.run pins s σ H D I (h D σ H q)⟩
theorem PG.imp {X : Cx} {e : Expr} {t t' : TG} (p : PG X e t) (h : ∀ v σ H Q, t' v σ H Q → t v σ H Q) : PG X e t' := ⟨fun pins s σ H v u Q I r q => p.run pins s σ H v u Q I r (h v σ H Q q)⟩
end Ev
namespace Ev
open PySem L2
theorem okP.imp {α β : Type} {K : PySem.W.Frag} {R : Wd → α → β → Prop} {W : Wd} {r : Res α} {σ : St} {Wx : WX} {Q Q' : β → Hp → Prop} (p : okP K R W r σ Wx Q) (h : ∀ v H, Q v H → Q' v H) : okP K R W r σ Wx Q' := by
  cases r with
  | ok d S' => exact fun W' H' v l g r => h _ _ (p W' H' v l g r)
  | exc x S' => exact p
  | bad => exact p
theorem okP.bind {α β γ ε : Type} {K : PySem.W.Frag} {R : Wd → α → β → Prop} {R' : Wd → γ → ε → Prop} {W : Wd} {m : M α} {f : α → M γ} {S : Store} {σ : St} {Wx : WX} {Q : ε → Hp → Prop}
    (h : okP K R' W (M.bind m f S) σ Wx Q) : okP K R W (m S) σ Wx (fun v H' => ∃ W' S' a, W.le W' ∧ Good K W' S' H' ∧ R W' a v ∧ okP K R' W' (f a S') σ Wx Q) := by
  unfold M.bind at h
  cases e : m S with
  | ok a S' =>
    rw [e] at h
    exact fun W' H' v l g r => ⟨W', S', a, l, g, r, h.mono l⟩
  | exc x S' =>
    rw [e] at h
    exact h
  | bad =>
    rw [e] at h
    exact h
abbrev PO := Store → Option (D × Store)
def lft (p : PO) : M D := fun S => match p S with
  | some (d, S') => .ok d S'
  | none => .bad
theorem okP.lft {K : PySem.W.Frag} {W : Wd} {p : PO} {S : Store} {σ : St} {Wx : WX} {Q : VK} (h : okP K (Rep K) W (lft p S) σ Wx Q) : oV K W (p S) Q := by
  unfold Ev.lft at h
  cases e : p S with
  | none =>
    rw [e] at h
    exact h
  | some r =>
    rw [e] at h
    exact h
theorem oV.new {K : PySem.W.Frag} {W : Wd} {S : Store} {d : D} {Q : VK} {H : Hp} {p : Addr} {o : HO} (h : oV K W (some (d, S)) Q) (g : Good K W S H) (n : H p = none) (r : Rep K (W.add p o) d (.ref p)) : Q (.ref p) (upd H p o) :=
  h _ _ _ (g.add_le n) (g.add n) r
def rD2 (K : PySem.W.Frag) (f : D → D → PO) : R2 := fun x y H Q => ∃ W S dx dy, Good K W S H ∧ Rep K W dx x ∧ Rep K W dy y ∧ oV K W (f dx dy S) Q
def rD1 (K : PySem.W.Frag) (f : D → PO) : V → Hp → VK → Prop := fun x H Q => ∃ W S dx, Good K W S H ∧ Rep K W dx x ∧ oV K W (f dx S) Q
def rDC (K : PySem.W.Frag) (f : List D → PO) : List V → Hp → VK → Prop := fun xs H Q => ∃ W S ds, Good K W S H ∧ Reps K W ds xs ∧ oV K W (f ds S) Q
section
variable {X : Cx} {Wx : WX} {a b c e : Expr} {ma mb mc m : ME} {pos : Pos}
abbrev SE (X : Cx) (Wx : WX) (e : Expr) (m : ME) : Prop := PE X e (tD X.K Wx m)
abbrev ST (X : Cx) (Wx : WX) (e : Expr) (m : MT) : Prop := PT X e (tDT X.K Wx m)
abbrev SW (X : Cx) (Wx : WX) (e : Expr) (m : MT) : Prop := PW X e (tDT X.K Wx m)
abbrev SA (X : Cx) (Wx : WX) (e : List Expr) (m : MA) : Prop := PA X e (tDA X.K Wx m)
abbrev SS (X : Cx) (Wx : WX) (e : Stmt) (m : MS) : Prop := PS X e (tDS X.K Wx m)
abbrev SB (X : Cx) (Wx : WX) (e : List Stmt) (m : MS) : Prop := PSs X e (tDS X.K Wx m)
def eVar (i : Nat) : ME := fun δ => match δ[i]? with
  | some (some .slf) => M.bad
  | some (some d) => M.pure d
  | _ => M.bad
theorem se_var {i : Nat} {x : Str} (hN : X.N[i]? = some x) (hv : Vis X.env.scope x) (hd : (x == ("__debug__" : Str)) = false) (hcd : (x == ("__classdict__" : Str)) = false) : SE X Wx (.Name x pos) (eVar i) :=
  PE.imp (pe_var hN hv hd hcd) fun σ H Q ⟨W, S, δ, g, r, p⟩ => by
    unfold eVar at p
    cases q : δ[i]? with
    | none => rw [q] at p; exact p.elim
    | some o =>
      cases o with
      | none => rw [q] at p; exact p.elim
      | some d =>
        rw [q] at p
        obtain ⟨v, e1, e2⟩ := r.2 i d q
        rcases e2 with e2 | ⟨rfl, _⟩
        · exact ⟨v, e1, okP.pure (a := d) (by cases d <;> first | exact p | exact p.elim) g e2⟩
        · exact p.elim
def eC (d : D) : ME := fun _ => M.pure d
theorem se_c {d : D} {v : V} (h : PE X e (tC v)) (r : ∀ W, Rep X.K W d v) : SE X Wx e (eC d) := PE.imp h fun σ H Q ⟨W, S, δ, g, q, p⟩ => okP.pure p g (r W)
theorem se_int {i j} : SE X Wx (.Constant (.int i) j pos) (eC (.int i)) := se_c pe_int fun _ => .int i
theorem se_bl {i j} : SE X Wx (.Constant (.bool i) j pos) (eC (.bl i)) := se_c pe_bl fun _ => .bl i
theorem se_non {j} : SE X Wx (.Constant .none j pos) (eC .non) := se_c pe_non fun _ => .non
theorem se_str {i j} : SE X Wx (.Constant (.str i) j pos) (eC (.str i)) := se_c pe_str fun _ => .str i
def eOp (f : D → D → PO) (ma mb : ME) : ME := fun δ => M.bind (ma δ) fun x => M.bind (mb δ) fun y => lft (f x y)
theorem tOp_of {f : D → D → PO} (σ : St) (H : Hp) (Q : VK) (h : tD X.K Wx (eOp f ma mb) σ H Q) : tOp (rD2 X.K f) (tD X.K Wx ma) (tD X.K Wx mb) σ H Q := by
  obtain ⟨W, S, δ, g, r, p⟩ := h
  refine ⟨W, S, δ, g, r, p.bind.imp fun v H1 ⟨W1, S1, x, l1, g1, r1, p1⟩ => ⟨W1, S1, δ, g1, r.mono l1, p1.bind.imp fun v2 H2 ⟨W2, S2, y, l2, g2, r2, p2⟩ => ⟨W2, S2, x, y, g2, r1.mono l2, r2, p2.lft⟩⟩⟩
theorem se_op {op : Operator} {f : D → D → PO} (ho : OpR X (binaryOp op) (rD2 X.K f)) (ha : SE X Wx a ma) (hb : SE X Wx b mb) : SE X Wx (.BinOp a op b pos) (eOp f ma mb) := PE.imp (pe_op ho ha hb) tOp_of
theorem se_cmp {op : CmpOp} {f : D → D → PO} (ho : OpR X (compareOp op) (rD2 X.K f)) (ha : SE X Wx a ma) (hb : SE X Wx b mb) (hm : behindInMarks op b = false) : SE X Wx (.Compare a [op] [b] pos) (eOp f ma mb) := PE.imp (pe_cmpR ho ha hb hm) tOp_of
def asB (m : M D) : M Bool := M.bind m fun d => match d with
  | .bl b => M.pure b
  | _ => M.bad
theorem okP.asB {K : PySem.W.Frag} {W : Wd} {S : Store} {m : M D} {σ : St} {Q : Bool → Hp → Prop} (h : okP K (fun _ (b c : Bool) => b = c) W (asB m S) σ Wx Q) : okP K (Rep K) W (m S) σ Wx (fun v H' => ∃ k, v = .bl k ∧ Q k H') :=
  (okP.bind (R := Rep K) h).imp fun v H1 ⟨W1, S1, d, l1, g1, r1, p1⟩ => by
    cases r1 with
    | bl b => exact ⟨b, rfl, okP.pure p1 g1 rfl⟩
    | _ => exact p1.elim
theorem okP.assoc {α β γ δ' : Type} {K : PySem.W.Frag} {R : Wd → γ → δ' → Prop} {W : Wd} {S : Store} {m : M α} {f : α → M β} {g : β → M γ} {σ : St} {Q : δ' → Hp → Prop} (h : okP K R W (M.bind (M.bind m f) g S) σ Wx Q) : okP K R W (M.bind m (fun a => M.bind (f a) g) S) σ Wx Q := by
  unfold M.bind at h ⊢
  cases e : m S with
  | ok a S' => rw [e] at h; exact h
  | exc x S' => rw [e] at h; exact h
  | bad => rw [e] at h; exact h
theorem st_cmp {op : CmpOp} {f : D → D → PO} (ho : OpR X (compareOp op) (rD2 X.K f)) (ha : SE X Wx a ma) (hb : SE X Wx b mb) (hm : behindInMarks op b = false) : ST X Wx (.Compare a [op] [b] pos) (fun δ => asB (eOp f ma mb δ)) :=
  PT.imp (pt_cmpR ho ha hb hm) fun σ H Q ⟨W, S, δ, g, r, p⟩ => tOp_of σ H _ ⟨W, S, δ, g, r, p.asB⟩
def eChain (f f' : D → D → PO) (ma mb mc : ME) : ME := fun δ => M.bind (ma δ) fun x => M.bind (mb δ) fun y => M.bind (lft (f x y)) fun z => match z with
  | .bl true => M.bind (mc δ) fun w => lft (f' y w)
  | .bl false => M.pure (.bl false)
  | _ => M.bad
theorem reps_ints {K : PySem.W.Frag} {W : Wd} : ∀ ns : List Int, Reps K W (ns.map D.int) (ns.map V.int)
  | [] => .nil
  | n :: ns => .cons (.int n) (reps_ints ns)
def plstOf (S : Store) (d : D) : Option (List D) := match d with
  | .lst ds => some ds
  | .ref i => (match S[i]? with
    | some (some (.lst ds)) => some ds
    | _ => none)
  | _ => none
theorem plstOf_ok {K : PySem.W.Frag} {W : Wd} {S : Store} {H : Hp} {d : D} {v : V} {ds : List D} (e : plstOf S d = some ds) (g : Good K W S H) (r : Rep K W d v) : ∃ a vs, v = .ref a ∧ H a = some (.lst vs) ∧ Reps K W ds vs := by
  cases r with
  | lst q r =>
    cases e
    exact ⟨_, _, rfl, g.sub _ _ q, r⟩
  | @ref i a h =>
    simp only [plstOf] at e
    split at e
    · rename_i c hc
      cases e
      obtain ⟨a', e1, e2, _, vs, e3, e4⟩ := g.cell i _ hc
      rw [h] at e1; cases e1
      exact ⟨a, vs, rfl, e3, e4⟩
    · cases e
  | _ => cases e
def lstOf (S : Store) (d : D) : Option (List D) := match d with
  | .lst ds => some ds
  | .scr ns => some (ns.map D.int)
  | .ref i => (match S[i]? with
    | some (some (.lst ds)) => some ds
    | _ => none)
  | _ => none
theorem lstOf_ok {K : PySem.W.Frag} {W : Wd} {S : Store} {H : Hp} {d : D} {v : V} {ds : List D} (e : lstOf S d = some ds) (g : Good K W S H) (r : Rep K W d v) : ∃ a vs, v = .ref a ∧ SqL K H a vs ∧ Reps K W ds vs := by
  cases r with
  | lst q r =>
    cases e
    exact ⟨_, _, rfl, SqL.of (g.sub _ _ q), r⟩
  | scr q =>
    cases e
    exact ⟨_, _, rfl, g.sqL q, reps_ints _⟩
  | @ref i a h =>
    simp only [lstOf] at e
    split at e
    · rename_i c hc
      cases e
      obtain ⟨a', e1, e2, _, vs, e3, e4⟩ := g.cell i _ hc
      rw [h] at e1; cases e1
      exact ⟨a, vs, rfl, SqL.of e3, e4⟩
    · cases e
  | _ => cases e
def seqOf (S : Store) (d : D) : Option (List D) := match d with
  | .tup ds => some ds
  | d => lstOf S d
theorem seqOf_ok {K : PySem.W.Frag} {W : Wd} {S : Store} {H : Hp} {d : D} {v : V} {ds : List D} (e : seqOf S d = some ds) (g : Good K W S H) (r : Rep K W d v) : ∃ a vs, v = .ref a ∧ (SqL K H a vs ∨ SqT K H a vs) ∧ Reps K W ds vs := by
  cases d with
  | tup xs =>
    cases r with
    | tup q r =>
      cases e
      exact ⟨_, _, rfl, .inr (g.sqT q), r⟩
  | lst xs => obtain ⟨a, vs, h1, h2, h3⟩ := lstOf_ok (show lstOf S (.lst xs) = some ds from e) g r; exact ⟨a, vs, h1, .inl h2, h3⟩
  | ref i => obtain ⟨a, vs, h1, h2, h3⟩ := lstOf_ok (show lstOf S (.ref i) = some ds from e) g r; exact ⟨a, vs, h1, .inl h2, h3⟩
  | scr ns => obtain ⟨a, vs, h1, h2, h3⟩ := lstOf_ok (show lstOf S (.scr ns) = some ds from e) g r; exact ⟨a, vs, h1, .inl h2, h3⟩
  | _ => cases e
def truD (S : Store) : D → Option Bool
  | .non => some false
  | .bl b => some b
  | .int i => some (i != 0)
  | .str x => if x.length ≤ sizeLine then some ((x.length : Int) != 0) else none
  | d => (seqOf S d).map fun ds => !ds.isEmpty
theorem reps_empty {K : PySem.W.Frag} {W : Wd} {ds : List D} {vs : List V} (r : Reps K W ds vs) : ds.isEmpty = vs.isEmpty := by
  cases r <;> rfl
theorem truD_ok {K : PySem.W.Frag} {W : Wd} {S : Store} {H : Hp} {d : D} {v : V} {k : Bool} (e : truD S d = some k) (g : Good K W S H) (r : Rep K W d v) : TruV K v H k := by
  have seq : ∀ {d : D}, (seqOf S d).map (fun ds => !ds.isEmpty) = some k → Rep K W d v → TruV K v H k := fun {d} e r => by
    obtain ⟨ds, e1, e2⟩ := Option.map_eq_some_iff.mp e
    obtain ⟨a, vs, rfl, h2, h3⟩ := seqOf_ok e1 g r
    rcases h2 with h2 | h2
    · exact .inl ⟨vs, h2, by rw [← reps_empty h3]; exact e2.symm⟩
    · exact .inr (.inl ⟨vs, h2, by rw [← reps_empty h3]; exact e2.symm⟩)
  cases r with
  | non => cases e; rfl
  | bl b => cases e; rfl
  | int i => cases e; rfl
  | str x =>
    simp only [truD] at e
    split at e
    · cases e; exact ⟨by assumption, rfl⟩
    · cases e
  | tup q r => exact seq (by rw [← e]; rfl) (.tup q r)
  | lst q r => exact seq (by rw [← e]; rfl) (.lst q r)
  | ref h => exact seq (by rw [← e]; rfl) (.ref h)
  | ins h1 h2 h3 => cases e
  | fn x => cases e
  | dic _ _ _ => cases e
  | dlk _ _ _ => cases e
  | tpx _ _ _ => cases e
  | exv _ _ _ _ => cases e
  | exn0 => cases e
  | exn1 _ _ _ => cases e
  | lam _ _ => cases e
  | scr h => exact seq (by rw [← e]; rfl) (.scr h)
def tru (m : M D) : M Bool := M.bind m fun d S => match truD S d with
  | some b => .ok b S
  | none => .bad
theorem okP.tru {K : PySem.W.Frag} {W : Wd} {S : Store} {m : M D} {σ : St} {Q : Bool → Hp → Prop} (h : okP K (fun _ (b c : Bool) => b = c) W (tru m S) σ Wx Q) : okP K (Rep K) W (m S) σ Wx (fun v H' => ∃ k, TruV K v H' k ∧ Q k H') :=
  (okP.bind (R := Rep K) h).imp fun v H1 ⟨W1, S1, d, l1, g1, r1, p1⟩ => by
    cases e : truD S1 d with
    | none => rw [e] at p1; exact p1.elim
    | some k => rw [e] at p1; exact ⟨k, truD_ok e g1 r1, p1 W1 H1 k W1.le_refl g1 rfl⟩
theorem st_truth (ha : SE X Wx a ma) (he : ∀ whole, isTrue a X.env whole = (do let v ← whole; standAt a.pos; holding [v] (truthy v))) : ST X Wx a (fun δ => tru (ma δ)) :=
  PT.imp (pt_truth ha he) fun σ H Q ⟨W, S, δ, g, r, p⟩ => ⟨W, S, δ, g, r, p.tru⟩
end
end Ev
namespace Ev
open PySem L2
section
variable {X : Cx} {Wx : WX} {a b c e : Expr} {ma mb mc m : ME} {pos : Pos} {rest : List Expr}
def eAnd (ma mb : ME) : ME := fun δ => M.bind (ma δ) fun x S => match truD S x with
  | some true => mb δ S
  | some false => .ok x S
  | none => .bad
def eOr (ma mb : ME) : ME := fun δ => M.bind (ma δ) fun x S => match truD S x with
  | some true => .ok x S
  | some false => mb δ S
  | none => .bad
def eNot (ma : ME) : ME := fun δ => M.bind (tru (ma δ)) fun k => M.pure (.bl (!k))
variable {ta tb tc : MT}
def tAndM (ta tb : MT) : MT := fun δ => M.bind (ta δ) fun c => cond c (tb δ) (M.pure false)
def tOrM (ta tb : MT) : MT := fun δ => M.bind (ta δ) fun c => cond c (M.pure true) (tb δ)
def tNotM (ta : MT) : MT := fun δ => M.bind (ta δ) fun c => M.pure (!c)
theorem sw_or1 (ha : ST X Wx a ta) : SW X Wx (.BoolOp .Or [a] pos) ta := pw_or1 ha
theorem sw_or (ha : ST X Wx a ta) (hb : SW X Wx (.BoolOp .Or (b :: rest) pos) tb) : SW X Wx (.BoolOp .Or (a :: b :: rest) pos) (tOrM ta tb) :=
  PW.imp (pw_or ha hb) fun σ H Q ⟨W, S, δ, g, r, p⟩ => ⟨W, S, δ, g, r, (okP.bind (R := fun _ (b c : Bool) => b = c) p).imp fun v H1 ⟨W1, S1, k, l1, g1, ek, p1⟩ => by
    subst ek
    cases k with
    | false => rw [if_neg Bool.false_ne_true]; exact ⟨W1, S1, δ, g1, r.mono l1, p1⟩
    | true => rw [if_pos rfl]; exact okP.pure p1 g1 rfl⟩
def eIf (tc : MT) (ma mb : ME) : ME := fun δ => M.bind (tc δ) fun k => cond k (ma δ) (mb δ)
theorem se_if (hc : ST X Wx c tc) (ha : SE X Wx a ma) (hb : SE X Wx b mb) : SE X Wx (.IfExp c a b pos) (eIf tc ma mb) :=
  PE.imp (pe_ifExp hc ha hb) fun σ H Q ⟨W, S, δ, g, r, p⟩ => ⟨W, S, δ, g, r, (okP.bind (R := fun _ (b c : Bool) => b = c) p).imp fun v H1 ⟨W1, S1, k, l1, g1, ek, p1⟩ => by
    subst ek
    cases k with
    | true => rw [if_pos rfl]; exact ⟨W1, S1, δ, g1, r.mono l1, p1⟩
    | false => rw [if_neg Bool.false_ne_true]; exact ⟨W1, S1, δ, g1, r.mono l1, p1⟩⟩
def eUn (f : D → PO) (ma : ME) : ME := fun δ => M.bind (ma δ) fun x => lft (f x)
theorem se_un {op : UnaryOp} {f : D → PO} (ho : UnR X (unaryOp op) (rD1 X.K f)) (ha : SE X Wx a ma) : SE X Wx (.UnaryOp op a pos) (eUn f ma) :=
  PE.imp (pe_un ho ha) fun σ H Q ⟨W, S, δ, g, r, p⟩ => ⟨W, S, δ, g, r, (okP.bind (R := Rep X.K) p).imp fun v H1 ⟨W1, S1, x, l1, g1, r1, p1⟩ => ⟨W1, S1, x, g1, r1, p1.lft⟩⟩
variable {es : List Expr} {mas : MA}
def aNil : MA := fun _ => M.pure []
def aCons (ma : ME) (mas : MA) : MA := fun δ => M.bind (ma δ) fun x => M.bind (mas δ) fun xs => M.pure (x :: xs)
def aStar (ma : ME) (mas : MA) : MA := fun δ => M.bind (ma δ) fun x S => match seqOf S x with
  | some xs => M.bind (mas δ) (fun ys => M.pure (xs ++ ys)) S
  | none => .bad
theorem sa_nil : SA X Wx [] aNil := PA.imp pa_nil fun σ H Q ⟨W, S, δ, g, r, p⟩ => okP.pure p g .nil
theorem sa_cons (ha : SE X Wx e ma) (hr : SA X Wx es mas) (hs : starEach (e :: es) X.env = (false, eval e X.env) :: starEach es X.env) : SA X Wx (e :: es) (aCons ma mas) :=
  PA.imp (pa_cons ha hr hs) fun σ H Q ⟨W, S, δ, g, r, p⟩ => ⟨W, S, δ, g, r, (okP.bind (R := Rep X.K) p).imp fun v H1 ⟨W1, S1, x, l1, g1, r1, p1⟩ =>
    ⟨W1, S1, δ, g1, r.mono l1, (okP.bind (R := Reps X.K) p1).imp fun vs H2 ⟨W2, S2, xs, l2, g2, r2, p2⟩ => okP.pure p2 g2 (.cons (r1.mono l2) r2)⟩⟩
def newT (xs : List D) : PO := fun S => if xs.length ≤ sizeLine then some (.tup xs, S) else none
def newL (xs : List D) : PO := fun S => if xs.length ≤ sizeLine then some (.lst xs, S) else none
def newC (xs : List D) : PO := fun S => if xs.length ≤ sizeLine then some (.ref S.length, S ++ [some (.lst xs)]) else none
theorem newT_ok {K : PySem.W.Frag} {W : Wd} {S : Store} {H : Hp} {xs : List D} {vs : List V} {Q : VK} (p : oV K W (newT xs S) Q) (g : Good K W S H) (r : Reps K W xs vs) : vs.length ≤ sizeLine ∧ ∀ a, H a = none → Q (.ref a) (upd H a (.tup vs)) := by
  unfold newT at p
  split at p
  · rename_i hl
    exact ⟨by rw [← r.length]; exact hl, fun a n => p.new g n (.tup (SqT.of upd_same) (r.mono (g.add_le n).toLf))⟩
  · exact p.elim
theorem newL_ok {K : PySem.W.Frag} {W : Wd} {S : Store} {H : Hp} {xs : List D} {vs : List V} {Q : VK} (p : oV K W (newL xs S) Q) (g : Good K W S H) (r : Reps K W xs vs) : vs.length ≤ sizeLine ∧ ∀ a, H a = none → Q (.ref a) (upd H a (.lst vs)) := by
  unfold newL at p
  split at p
  · rename_i hl
    exact ⟨by rw [← r.length]; exact hl, fun a n => p.new g n (.lst upd_same (r.mono (g.add_le n).toLf))⟩
  · exact p.elim
theorem newC_ok {K : PySem.W.Frag} {W : Wd} {S : Store} {H : Hp} {xs : List D} {vs : List V} {Q : VK} (p : oV K W (newC xs S) Q) (g : Good K W S H) (r : Reps K W xs vs) : vs.length ≤ sizeLine ∧ ∀ a, H a = none → Q (.ref a) (upd H a (.lst vs)) := by
  unfold newC at p
  split at p
  · rename_i hl
    refine ⟨by rw [← r.length]; exact hl, fun a n => p _ _ _ (Wd.addC_le W a) (g.addC n ⟨vs, upd_same, r.mono (Wd.addC_le W a)⟩) (.ref ?_)⟩
    simp [Wd.addC, ← g.len]
  · exact p.elim
def eTup (mas : MA) : ME := fun δ => M.bind (mas δ) fun xs => lft (newT xs)
def eLst (mas : MA) : ME := fun δ => M.bind (mas δ) fun xs => lft (newL xs)
def eLstC (mas : MA) : ME := fun δ => M.bind (mas δ) fun xs => lft (newC xs)
theorem se_tup {k : Nat} (h : SA X Wx es mas) : SE X Wx (.Tuple es k pos) (eTup mas) :=
  PE.imp (pe_tup h) fun σ H Q ⟨W, S, δ, g, r, p⟩ => ⟨W, S, δ, g, r, (okP.bind (R := Reps X.K) p).imp fun vs H1 ⟨W1, S1, xs, l1, g1, r1, p1⟩ => newT_ok p1.lft g1 r1⟩
theorem se_lst (h : SA X Wx es mas) : SE X Wx (.List es pos) (eLst mas) :=
  PE.imp (pe_lst h) fun σ H Q ⟨W, S, δ, g, r, p⟩ => ⟨W, S, δ, g, r, (okP.bind (R := Reps X.K) p).imp fun vs H1 ⟨W1, S1, xs, l1, g1, r1, p1⟩ => newL_ok p1.lft g1 r1⟩
theorem se_lstC (h : SA X Wx es mas) : SE X Wx (.List es pos) (eLstC mas) :=
  PE.imp (pe_lst h) fun σ H Q ⟨W, S, δ, g, r, p⟩ => ⟨W, S, δ, g, r, (okP.bind (R := Reps X.K) p).imp fun vs H1 ⟨W1, S1, xs, l1, g1, r1, p1⟩ => newC_ok p1.lft g1 r1⟩
def eCallV (f : List D → PO) (mas : MA) : ME := fun δ => M.bind (mas δ) fun xs => lft (f xs)
theorem tCB_of {f : List D → PO} (σ : St) (H : Hp) (Q : VK) (h : tD X.K Wx (eCallV f mas) σ H Q) : tCB (rDC X.K f) (tDA X.K Wx mas) σ H Q := by
  obtain ⟨W, S, δ, g, r, p⟩ := h
  exact ⟨W, S, δ, g, r, (okP.bind (R := Reps X.K) p).imp fun vs H1 ⟨W1, S1, xs, l1, g1, r1, p1⟩ => ⟨W1, S1, xs, g1, r1, p1.lft⟩⟩
variable {st : Stmt} {sts : List Stmt} {ms mt : MS}
def sNext : MS := fun δ S => .nx δ S
def sSeq (ms mt : MS) : MS := fun δ S => match ms δ S with
  | .nx δ' S' => mt δ' S'
  | r => r
theorem sb_nil : SB X Wx [] sNext := PSs.imp pss_nil fun D σ H ⟨W, S, δ, g, r, p⟩ => p W H σ W.le_refl g r
theorem flP_seq {K : PySem.W.Frag} {W : Wd} {δ : En} {S : Store} {D : Ends} (p : flP K W (sSeq ms mt δ S) Wx D) : flP K W (ms δ S) Wx { D with nx := tDS K Wx mt D } := by
  unfold sSeq at p
  cases e : ms δ S with
  | nx δ' S' =>
    rw [e] at p
    exact fun W' H' σ' l g' r' => ⟨W', S', δ', g', r', p.mono l⟩
  | rt d S' => rw [e] at p; exact p
  | bk δ' S' => rw [e] at p; exact p
  | ct δ' S' => rw [e] at p; exact p
  | exc x δ' S' => rw [e] at p; exact p
  | bad => rw [e] at p; exact p
theorem sb_cons (h1 : SS X Wx st ms) (h2 : SB X Wx sts mt) : SB X Wx (st :: sts) (sSeq ms mt) :=
  PSs.imp (pss_cons h1 h2) fun D σ H ⟨W, S, δ, g, r, p⟩ => ⟨W, S, δ, g, r, flP_seq p⟩
theorem sb_one (h1 : SS X Wx st ms) : SB X Wx [st] ms := pss_one h1
def ofE {α : Type} (m : M α) (δ : En) (k : α → Store → Fl) (S : Store) : Fl := match m S with
  | .ok a S' => k a S'
  | .exc x S' => .exc x δ S'
  | .bad => .bad
theorem flP_ofE {α β : Type} {K : PySem.W.Frag} {R : Wd → α → β → Prop} {W : Wd} {m : M α} {δ : En} {S : Store} {k : α → Store → Fl} {D : Ends} {σ : St} (r : REnv K W δ σ) (p : flP K W (ofE m δ k S) Wx D) :
    okP K R W (m S) σ Wx (fun v H' => ∃ W' S' a, W.le W' ∧ Good K W' S' H' ∧ R W' a v ∧ flP K W' (k a S') Wx D) := by
  unfold ofE at p
  cases e : m S with
  | ok a S' =>
    rw [e] at p
    exact fun W' H' v l g' r' => ⟨W', S', a, l, g', r', p.mono l⟩
  | exc x S' =>
    rw [e] at p
    exact fun W' H' cls d l g' x' => p W' H' σ cls d l g' (r.mono l) x'
  | bad => rw [e] at p; exact p
def sExpr (m : ME) : MS := fun δ => ofE (m δ) δ fun _ S => .nx δ S
def sRet (m : ME) : MS := fun δ => ofE (m δ) δ fun d S => .rt d S
theorem ss_ret (he : SE X Wx e m) : SS X Wx (.Return (some e) pos) (sRet m) :=
  PS.imp (ps_ret he) fun D σ H ⟨W, S, δ, g, r, p⟩ => ⟨W, S, δ, g, r, (flP_ofE (R := Rep X.K) r p).imp fun v H1 ⟨W1, S1, x, l1, g1, r1, p1⟩ => p1 W1 H1 v W1.le_refl g1 r1⟩
def sRetN : MS := fun _ S => .rt .non S
def sBrk : MS := fun δ S => .bk δ S
def sCnt : MS := fun δ S => .ct δ S
def sIf (tc : MT) (ms mt : MS) : MS := fun δ => ofE (tc δ) δ fun k S => cond k (ms δ S) (mt δ S)
theorem ss_if {sts' : List Stmt} (hc : ST X Wx c tc) (h1 : SB X Wx sts ms) (h2 : SB X Wx sts' mt) : SS X Wx (.If c sts sts' pos) (sIf tc ms mt) :=
  PS.imp (ps_if hc h1 h2) fun D σ H ⟨W, S, δ, g, r, p⟩ => ⟨W, S, δ, g, r, (flP_ofE (R := fun _ (b c : Bool) => b = c) r p).imp fun v H1 ⟨W1, S1, k, l1, g1, ek, p1⟩ => by
    subst ek
    cases k with
    | true => rw [if_pos rfl]; exact ⟨W1, S1, δ, g1, r.mono l1, p1⟩
    | false => rw [if_neg Bool.false_ne_true]; exact ⟨W1, S1, δ, g1, r.mono l1, p1⟩⟩
abbrev TGM := D → En → Store → Option (En × Store)
abbrev TGMs := List D → En → Store → Option (En × Store)
def oG (K : PySem.W.Frag) (W : Wd) (r : Option (En × Store)) (Q : St → Hp → Prop) : Prop := match r with
  | some (δ, S) => ∀ W' H' σ, W.le W' → Good K W' S H' → REnv K W' δ σ → Q σ H'
  | none => False
theorem oG.mono {K : PySem.W.Frag} {W W1 : Wd} {r : Option (En × Store)} {Q : St → Hp → Prop} (h : W.le W1) (p : oG K W r Q) : oG K W1 r Q := by
  cases r with
  | none => exact p
  | some q => exact fun W' H' σ l => p W' H' σ (h.trans l)
def tDG (K : PySem.W.Frag) (mg : TGM) : TG := fun v σ H Q => ∃ W S δ d, Good K W S H ∧ REnv K W δ σ ∧ Rep K W d v ∧ oG K W (mg d δ S) Q
def tDGs (K : PySem.W.Frag) (mg : TGMs) : TGs := fun vs σ H Q => ∃ W S δ ds, Good K W S H ∧ REnv K W δ σ ∧ Reps K W ds vs ∧ oG K W (mg ds δ S) Q
abbrev SG (X : Cx) (e : Expr) (m : TGM) : Prop := PG X e (tDG X.K m)
abbrev SGs (X : Cx) (e : List Expr) (m : TGMs) : Prop := PGs X e (tDGs X.K m)
theorem PGs.imp {X : Cx} {e : List Expr} {t t' : TGs} (p : PGs X e t) (h : ∀ v σ H Q, t' v σ H Q → t v σ H Q) : PGs X e t' := ⟨fun pins s σ H v u Q I r q => p.run pins s σ H v u Q I r (h v σ H Q q)⟩
def gNm (i : Nat) : TGM := fun d δ S => some (δ.set i (some d), S)
theorem sg_name {i : Nat} {x : Str} (hN : X.N.Nodup) (hi : X.N[i]? = some x) (hx : Loc X.env.scope x) (hf : X.fn x = true ∨ X.env.scope.names.lookup x = some .local) : SG X (.Name x pos) (gNm i) :=
  PG.imp (pg_name hN hi hx hf) fun v σ H Q ⟨W, S, δ, d, g, r, q, p⟩ => p W H _ W.le_refl g (r.set i q)
def gNl : TGMs := fun ds δ S => match ds with
  | [] => some (δ, S)
  | _ => none
def gCs (m : TGM) (ms : TGMs) : TGMs := fun ds δ S => match ds with
  | d :: ds => (m d δ S).bind fun r => ms ds r.1 r.2
  | [] => none
theorem sgs_nil : SGs X [] gNl := PGs.imp pgs_nil fun v σ H Q ⟨W, S, δ, ds, g, r, q, p⟩ => by
  cases q with
  | nil => exact ⟨rfl, p W H σ W.le_refl g r⟩
  | cons _ _ => exact p.elim
theorem sgs_cons {m : TGM} {ms : TGMs} (h1 : SG X e m) (h2 : SGs X es ms) (hs : (assignEach (e :: es) X.env).map (·.2) = assign e X.env :: (assignEach es X.env).map (·.2)) : SGs X (e :: es) (gCs m ms) :=
  PGs.imp (pgs_cons h1 h2 hs) fun v σ H Q ⟨W, S, δ, ds, g, r, q, p⟩ => by
    cases q with
    | nil => exact p.elim
    | @cons d v ds vs q1 q2 =>
      refine ⟨v, vs, rfl, W, S, δ, d, g, r, q1, ?_⟩
      have p' : oG X.K W ((m d δ S).bind fun r => ms ds r.1 r.2) Q := p
      cases e1 : m d δ S with
      | none => rw [e1] at p'; exact p'.elim
      | some z =>
        rw [e1] at p'
        exact fun W1 H1 σ1 l1 g1 r1 => ⟨W1, z.2, z.1, ds, g1, r1, q2.mono l1, p'.mono l1⟩
def gTp (n : Nat) (ms : TGMs) : TGM := fun d δ S => match d with
  | .tup ds => if ds.length = n then ms ds δ S else none
  | _ => none
theorem sg_tup {k n : Nat} {ms : TGMs} (hc : X.calm = true) (h : SGs X es ms) (hn : (assignEach es X.env).length = n) (hst : (assignEach es X.env).findIdx? (·.1) = none) : SG X (.Tuple es k pos) (gTp n ms) :=
  PG.imp (pg_tup hc h hn hst) fun v σ H Q ⟨W, S, δ, d, g, r, q, p⟩ => by
    cases q with
    | @tup a vs ds q1 q2 =>
      have p' : oG X.K W (if ds.length = n then ms ds δ S else none) Q := p
      split at p'
      · rename_i hl
        exact ⟨a, vs, rfl, g.sqT q1, by rw [← q2.length]; exact hl, W, S, δ, ds, g, r, q2, p'⟩
      · exact p'.elim
    | _ => exact p.elim
def toO {α : Type} (m : M α) (S : Store) : Option (α × Store) := match m S with
  | .ok a S' => some (a, S')
  | _ => none
abbrev PSt := D → D → D → Store → Option Store
def tDSet (K : PySem.W.Frag) (f : PSt) : TSet := fun o i v H Q => ∃ W S do_ di dv, Good K W S H ∧ Rep K W do_ o ∧ Rep K W di i ∧ Rep K W dv v ∧ (match f do_ di dv S with
  | some S' => ∀ W' H', W.le W' → Good K W' S' H' → Q H'
  | none => False)
def gSb (f : PSt) (mo mi : ME) : TGM := fun d δ S => (toO (mo δ) S).bind fun o => (toO (mi δ) o.2).bind fun i => (f o.1 i.1 d i.2).map fun S' => (δ, S')
theorem toO_ok {α β γ : Type} {K : PySem.W.Frag} {R : Wd → α → β → Prop} {W : Wd} {m : M α} {S : Store} {σ : St} {f : α × Store → Option γ} {P : Option γ → Prop} {Q : β → Hp → Prop} (h0 : P none → False) (p : P ((toO m S).bind f))
    (k : ∀ a S', P (f (a, S')) → ∀ W' H' v, W.le W' → Good K W' S' H' → R W' a v → Q v H') : okP K R W (m S) σ Wx Q := by
  unfold toO at p
  cases e : m S with
  | ok a S' =>
    rw [e] at p
    exact fun W' H' v l g r => k a S' p W' H' v l g r
  | exc x S' => rw [e] at p; exact (h0 p).elim
  | bad => rw [e] at p; exact h0 p
theorem sg_sub {o i : Expr} {mo mi : ME} {f : PSt} (ho : SE X Wx o mo) (hi : SE X Wx i mi) (hs : PSet X (tDSet X.K f))
    (ha : ∀ v, assign (.Subscript o i pos) X.env v = (do
      let ov ← holding [v] (eval o X.env)
      let iv ← holding [v, ov] (eval i X.env)
      standAt pos
      holding [v, ov, iv] (setItem ov iv v)
      release [v, ov, iv] [])) : SG X (.Subscript o i pos) (gSb f mo mi) :=
  PG.imp (pg_sub ho hi hs ha) fun v σ H Q ⟨W, S, δ, d, g, r, q, p⟩ => by
    refine ⟨W, S, δ, g, r, toO_ok (P := fun r => oG X.K W r Q) (fun z => z) p fun o1 S1 p1 W1 H1 v1 l1 g1 r1 => ?_⟩
    refine ⟨W1, S1, δ, g1, r.mono l1, toO_ok (P := fun r => oG X.K W r Q) (fun z => z) p1 fun i1 S2 p2 W2 H2 v2 l2 g2 r2 => ?_⟩
    refine ⟨W2, S2, o1, i1, d, g2, r1.mono l2, r2, q.mono (l1.trans l2), ?_⟩
    have p3 : oG X.K W ((f o1 i1 d S2).map fun S' => (δ, S')) Q := p2
    cases e1 : f o1 i1 d S2 with
    | none => rw [e1] at p3; exact p3.elim
    | some S' =>
      rw [e1] at p3
      exact fun W3 H3 l3 g3 => p3 W3 H3 σ ((l1.trans l2).trans l3) g3 (r.mono ((l1.trans l2).trans l3))
def sAsg (m : ME) (mg : TGM) : MS := fun δ => ofE (m δ) δ fun d S => match mg d δ S with
  | some (δ', S') => .nx δ' S'
  | none => .bad
theorem flP_oG {K : PySem.W.Frag} {W : Wd} {r : Option (En × Store)} {D : Ends} (p : flP K W (match r with
  | some (δ', S') => .nx δ' S'
  | none => .bad) Wx D) : oG K W r D.nx := by
  cases r with
  | none => exact p
  | some q => exact p
theorem tAsg_of {mg : TGM} (D : Ends) (σ : St) (H : Hp) (h : tDS X.K Wx (sAsg m mg) D σ H) : tAsg (tD X.K Wx m) (tDG X.K mg) D σ H := by
  obtain ⟨W, S, δ, g, r, p⟩ := h
  exact ⟨W, S, δ, g, r, (flP_ofE (R := Rep X.K) r p).imp fun v H1 ⟨W1, S1, d, l1, g1, r1, p1⟩ => ⟨W1, S1, δ, d, g1, r.mono l1, r1, flP_oG p1⟩⟩
theorem ss_asg {tg : Expr} {mg : TGM} (he : SE X Wx e m) (hg : SG X tg mg) (hs : swapsWithSole [tg] e pos.line X.env = pure false) (hw : swappedStores [tg] e X.env = pure none) (h1 : (assignEach [tg] X.env).map (·.2) = [assign tg X.env]) : SS X Wx (.Assign [tg] e pos) (sAsg m mg) :=
  PS.imp (ps_asg he hg hs hw h1) tAsg_of
theorem ss_set {i : Nat} {x : Str} {pos' : Pos} (hN : X.N.Nodup) (hi : X.N[i]? = some x) (hx : Loc X.env.scope x) (he : SE X Wx e m) (hs : swapsWith e (some (.Name x pos')) pos.line X.env = pure false) (hf : X.fn x = true ∨ X.env.scope.names.lookup x = some .local) : SS X Wx (.Assign [.Name x pos'] e pos) (sAsg m (gNm i)) :=
  PS.imp (ps_set hN hi hx he hs hf) fun D σ H ⟨W, S, δ, g, r, p⟩ => ⟨W, S, δ, g, r, (flP_ofE (R := Rep X.K) r p).imp fun v H1 ⟨W1, S1, d, l1, g1, r1, p1⟩ => p1 W1 H1 _ W1.le_refl g1 ((r.mono l1).set i r1)⟩
def sPar2 (i j : Nat) (mas : MA) : MS := fun δ => ofE (mas δ) δ fun ds S => match ds with
  | [x, y] => .nx ((δ.set i (some x)).set j (some y)) S
  | _ => .bad
theorem ss_par2 {i j : Nat} {x y : Str} {px py pt : Pos} {kt k2 : Nat} {pt2 : Pos} (hc : X.calm = true) (hN : X.N.Nodup) (hi : X.N[i]? = some x) (hj : X.N[j]? = some y) (hij : i ≠ j)
    (hx : X.env.scope.names.lookup x = some .local) (hy : X.env.scope.names.lookup y = some .local) (ha : SA X Wx [a, b] mas)
    (hw : swappedStores [.Tuple [.Name x px, .Name y py] kt pt] (.Tuple [a, b] k2 pt2) X.env = pure (some [x, y])) :
    SS X Wx (.Assign [.Tuple [.Name x px, .Name y py] kt pt] (.Tuple [a, b] k2 pt2) pos) (sPar2 i j mas) :=
  PS.imp (ps_par hc hN hi hj hij hx hy ha hw) fun D σ H ⟨W, S, δ, g, r, p⟩ => ⟨W, S, δ, g, r, (flP_ofE (R := Reps X.K) r p).imp fun vs H1 ⟨W1, S1, ds, l1, g1, r1, p1⟩ => by
    cases r1 with
    | nil => exact p1.elim
    | cons q1 r1 =>
      cases r1 with
      | nil => exact p1.elim
      | cons q2 r1 =>
        cases r1 with
        | nil => exact ⟨_, _, rfl, p1 W1 H1 _ W1.le_refl g1 (((r.mono l1).set i q1).set j q2)⟩
        | cons _ _ => exact p1.elim⟩
end
end Ev
namespace Ev
open PySem L2
def WalkD (K : PySem.W.Frag) (W : Wd) (ds : List D) (J : It) : Prop :=
  Walk J ds.length (fun H => ∀ a o, W.F a = some o → H a = some o) (fun i H x H' => ∀ d, ds[i]? = some d → ∀ W2 S2, W.lf W2 → Good K W2 S2 H → ∃ W3, W2.le W3 ∧ Good K W3 S2 H' ∧ Rep K W3 d x)
def tDI (K : PySem.W.Frag) (Wx : WX) (mi : MA) : TI := fun σ H R => ∃ W S δ, Good K W S H ∧ REnv K W δ σ ∧ okP K (WalkD K) W (mi δ S) σ Wx R
abbrev SI (X : Cx) (Wx : WX) (tg e : Expr) (m : MA) : Prop := PI X tg e (tDI X.K Wx m)
theorem PI.imp {X : Cx} {tg e : Expr} {t t' : TI} (p : PI X tg e t) (h : ∀ σ H R, t' σ H R → t σ H R) : PI X tg e t' := ⟨fun pins s σ H R I q => p.run pins s σ H R I (h σ H R q)⟩
section
variable {X : Cx} {Wx : WX} {a b c e tg : Expr} {ma mb mc m : ME} {pos : Pos} {K : PySem.W.Frag} {W : Wd}
theorem walkD_at {J : It} {ds : List D} {vs : List V} (r : Reps K W ds vs) (w : Walk J ds.length (fun H => ∀ a o, W.F a = some o → H a = some o) (YAt vs)) : WalkD K W ds J :=
  w.mono (fun _ h => h) fun i H x H' hi hG y d hd W2 S2 l g => by
    obtain ⟨rfl, hx⟩ := y
    obtain ⟨v, e1, e2⟩ := r.get hd
    rw [hx] at e1; cases e1
    exact ⟨W2, W2.le_refl, g, e2.mono l⟩
def signs (z : Str) : List D := z.cps.toList.map fun c => .str ⟨#[c]⟩
theorem PI.or {t t' : TI} (h1 : PI X tg e t) (h2 : PI X tg e t') : PI X tg e (fun σ H R => t σ H R ∨ t' σ H R) := ⟨fun pins s σ H R I q => by
  rcases q with q | q
  · exact h1.run pins s σ H R I q
  · exact h2.run pins s σ H R I q⟩
def rngD (lo : Int) (n : Nat) : List D := (List.range n).map fun (i : Nat) => .int (lo + i)
theorem walkD_range (lo : Int) (n : Nat) : WalkD K W (rngD lo n) (Itr lo n) := by
  have w := walk_range (lo := lo) (n := n)
  have e : (rngD lo n).length = n := by simp [rngD]
  unfold WalkD
  rw [e]
  refine w.mono (fun _ _ => trivial) fun i H x H' hi hG y d hd W2 S2 l g => ?_
  obtain ⟨rfl, rfl⟩ := y
  refine ⟨W2, W2.le_refl, g, ?_⟩
  simp [rngD, hi] at hd
  subst hd
  exact .int _
theorem si_range1 {mas : MA} {p : Pos} (hg : Gl X "range") (hm : X.mg "range" = none) (ha : SA X Wx [a] mas) (hs : starEach [a] X.env = [(false, eval a X.env)]) : SI X Wx tg (.Call (.Name "range" p) [a] [] pos) (fun δ => M.bind (mas δ) fun ds => match ds with
    | [.int j] => if -(2 ^ 62) ≤ j ∧ j < 2 ^ 62 then M.pure (rngD 0 j.toNat) else M.bad
    | _ => M.bad) :=
  PI.imp (pi_range1 hg hm ha hs) fun σ H R ⟨W, S, δ, g, r, p⟩ => ⟨W, S, δ, g, r, (okP.bind (R := Reps X.K) p).imp fun v H1 ⟨W1, S1, ds, l1, g1, r1, p1⟩ => by
    cases r1 with
    | nil => exact p1.elim
    | cons q r1 =>
      cases r1 with
      | cons _ _ => cases q <;> exact p1.elim
      | nil =>
        cases q with
        | int j =>
          dsimp only at p1
          split at p1
          · rename_i h
            exact ⟨j, rfl, h.1, h.2, okP.pure p1 g1 (walkD_range 0 _)⟩
          · exact p1.elim
        | _ => exact p1.elim⟩
def loopF (mg : TGM) (mb : MS) : List D → MS
  | [] => fun δ S => .nx δ S
  | d :: ds => fun δ S => match mg d δ S with
    | none => .bad
    | some (δ', S') => match mb δ' S' with
      | .nx δ2 S2 => loopF mg mb ds δ2 S2
      | .ct δ2 S2 => loopF mg mb ds δ2 S2
      | .bk δ2 S2 => .nx δ2 S2
      | r => r
def sFor (mi : MA) (mg : TGM) (mb : MS) : MS := fun δ => ofE (mi δ) δ fun ds S => loopF mg mb ds δ S
theorem ss_for {iter : Expr} {body : List Stmt} {mi : MA} {mg : TGM} {mb : MS} (hp : PassesOwn (model X.prog X.w) X.A X.env X.xe) (hc : X.calm = true) (hi : SI X Wx tg iter mi) (hg : SG X tg mg) (hb : SB X Wx body mb)
    (hs : ∀ x, foldedSetIterable iter X.env x = pure x) : SS X Wx (.For tg iter body [] pos) (sFor mi mg mb) :=
  PS.imp (ps_for hp hc hi hg hb hs) fun E σ H ⟨W, S, δ, g, r, p⟩ => ⟨W, S, δ, g, r, (flP_ofE (R := WalkD X.K) r p).imp fun J H1 ⟨W1, S1, ds, l1, g1, w1, p1⟩ => by
    refine for_it (w1 : Walk J ds.length _ _) (fun i σ2 H2 => ∃ W2 S2 δ2, W1.le W2 ∧ Good X.K W2 S2 H2 ∧ REnv X.K W2 δ2 σ2 ∧ flP X.K W2 (loopF mg mb (ds.drop i) δ2 S2) Wx E) ⟨W1, S1, δ, W1.le_refl, g1, r.mono l1, p1⟩ ?_ ?_ ?_
    · rintro i σ2 H2 _ ⟨W2, S2, δ2, l2, g2, _, _⟩ a o ha
      exact g2.sub a o (l2.f a o ha)
    · rintro i x σ2 H2 H3 hi ⟨W2, S2, δ2, l2, g2, r2, p2⟩ y
      have hd : ds[i]? = some ds[i] := by simp [hi]
      obtain ⟨W3, l3, g3, q3⟩ := y ds[i] hd W2 S2 l2 g2
      rw [List.drop_eq_getElem_cons hi] at p2
      refine ⟨W3, S2, δ2, ds[i], g3, r2.mono l3, q3, ?_⟩
      simp only [loopF] at p2
      cases e1 : mg ds[i] δ2 S2 with
      | none => rw [e1] at p2; exact p2.elim
      | some z =>
        obtain ⟨δ4, S4⟩ := z
        rw [e1] at p2
        intro W4 H4 σ4 l4 g4 r4
        refine ⟨W4, S4, δ4, g4, r4, ?_⟩
        have l24 := l3.trans l4
        dsimp only at p2
        cases e2 : mb δ4 S4 with
        | nx δ5 S5 =>
          rw [e2] at p2
          exact fun W5 H5 σ5 l5 g5 r5 => ⟨W5, S5, δ5, (l2.trans l24).trans l5, g5, r5, p2.mono (l24.trans l5)⟩
        | ct δ5 S5 =>
          rw [e2] at p2
          exact fun W5 H5 σ5 l5 g5 r5 => ⟨W5, S5, δ5, (l2.trans l24).trans l5, g5, r5, p2.mono (l24.trans l5)⟩
        | bk δ5 S5 =>
          rw [e2] at p2
          exact fun W5 H5 σ5 l5 g5 r5 => p2 W5 H5 σ5 (l24.trans l5) g5 r5
        | rt d5 S5 =>
          rw [e2] at p2
          exact fun W5 H5 σ5 l5 g5 r5 => p2 W5 H5 σ5 (l24.trans l5) g5 r5
        | exc x5 δ5 S5 =>
          rw [e2] at p2
          exact fun W5 H5 σ5 cls dd l5 g5 r5 x6 => p2 W5 H5 σ5 cls dd (l24.trans l5) g5 r5 x6
        | bad => rw [e2] at p2; exact p2
    · rintro σ2 H2 ⟨W2, S2, δ2, l2, g2, r2, p2⟩
      rw [List.drop_length] at p2
      exact p2 W2 H2 σ2 W2.le_refl g2 r2⟩
end
end Ev
namespace Ev
open PySem L2
def noX {α : Type} (m : M α) : M α := fun S => match m S with
  | .ok a S' => .ok a S'
  | _ => .bad
theorem okP.bindN {α β γ ε : Type} {K : PySem.W.Frag} {R : Wd → α → β → Prop} {R' : Wd → γ → ε → Prop} {W : Wd} {m : M α} {f : α → M γ} {S : Store} {σ : St} {Wx : WX} {Q : ε → Hp → Prop}
    (h : okP K R' W (M.bind (noX m) f S) σ Wx Q) (W0 : Wd) (σ' : St) (Wx' : WX) : okP K R W0 (m S) σ' Wx' (fun v H' => ∃ W' S' a, W0.le W' ∧ Good K W' S' H' ∧ R W' a v ∧ okP K R' W (f a S') σ Wx Q) := by
  unfold M.bind noX at h
  cases e : m S with
  | ok a S' =>
    rw [e] at h
    exact fun W' H' v l g r => ⟨W', S', a, l, g, r, h⟩
  | exc x S' =>
    rw [e] at h
    exact h.elim
  | bad =>
    rw [e] at h
    exact h
abbrev UpD := D → Option (List (Nat × D))
def setsV : St → List (Nat × V) → St
  | σ, [] => σ
  | σ, (i, v) :: r => setsV (σ.set i (some v)) r
def setsD : En → List (Nat × D) → En
  | δ, [] => δ
  | δ, (i, v) :: r => setsD (δ.set i (some v)) r
theorem REnv.sets {K : PySem.W.Frag} {W : Wd} : ∀ {us : List (Nat × D)} {us' : List (Nat × V)} {δ : En} {σ : St}, REnv K W δ σ → us'.map (·.1) = us.map (·.1) → Reps K W (us.map (·.2)) (us'.map (·.2)) → REnv K W (setsD δ us) (setsV σ us')
  | [], [], _, _, r, _, _ => r
  | [], _ :: _, _, _, _, e, _ => by cases e
  | _ :: _, [], _, _, _, e, _ => by cases e
  | (i, d) :: us, (j, v) :: us', δ, σ, r, e, q => by
    simp only [List.map_cons, List.cons.injEq] at e
    obtain ⟨rfl, e⟩ := e
    cases q with
    | cons q1 q2 => exact REnv.sets (us := us) (us' := us') (δ := δ.set j (some d)) (σ := σ.set j (some v)) (r.set j q1) e q2
theorem wipe_get (σ : St) (j : Nat) : ∀ vs : List Nat, (wipe σ vs)[j]? = if j ∈ vs then (if j < σ.length then some none else none) else σ[j]?
  | [] => by simp [wipe]
  | v :: vs => by
    unfold wipe
    rw [List.getElem?_set, wipe_get σ j vs, wipe_length]
    by_cases h1 : v = j
    · subst h1; simp
    · rw [if_neg h1]
      have : (j ∈ v :: vs) ↔ j ∈ vs := by simp [Ne.symm h1]
      simp only [this]
theorem wipe_set {σ : St} {i : Nat} {x : Option V} {vs : List Nat} (h : i ∈ vs) : wipe (σ.set i x) vs = wipe σ vs := by
  apply List.ext_getElem?
  intro j
  rw [wipe_get, wipe_get]
  by_cases hj : j ∈ vs
  · rw [if_pos hj, if_pos hj, List.length_set]
  · rw [if_neg hj, if_neg hj, List.getElem?_set_ne]
    rintro rfl
    exact hj h
theorem wipe_sets : ∀ {us : List (Nat × V)} {σ : St} {vs : List Nat}, (∀ p ∈ us, p.1 ∈ vs) → wipe (setsV σ us) vs = wipe σ vs
  | [], _, _, _ => rfl
  | (i, v) :: r, σ, vs, h => by
    show wipe (setsV (σ.set i (some v)) r) vs = _
    rw [wipe_sets fun p hp => h p (List.mem_cons_of_mem _ hp)]
    exact wipe_set (h (i, v) List.mem_cons_self)
theorem wipe_wipe (σ : St) (vs : List Nat) : wipe (wipe σ vs) vs = wipe σ vs := by
  apply List.ext_getElem?
  intro j
  rw [wipe_get, wipe_get, wipe_length]
  by_cases hj : j ∈ vs
  · rw [if_pos hj, if_pos hj]
  · rw [if_neg hj, if_neg hj]
def wipeD (δ : En) : List Nat → En
  | [] => δ
  | v :: vs => (wipeD δ vs).set v none
theorem REnv.wipe {K : PySem.W.Frag} {W : Wd} {δ : En} {σ : St} (r : REnv K W δ σ) : ∀ vs : List Nat, REnv K W (wipeD δ vs) (L2.wipe σ vs)
  | [] => r
  | v :: vs => by
    have ih := REnv.wipe r vs
    refine ⟨by simp [wipeD, L2.wipe, ih.1], fun i d e => ?_⟩
    simp only [wipeD, L2.wipe] at e ⊢
    by_cases h : v = i
    · subst h
      by_cases hv : v < (wipeD δ vs).length
      · rw [List.getElem?_set_self hv] at e; cases e
      · rw [List.getElem?_eq_none (by simpa using hv)] at e; cases e
    · rw [List.getElem?_set_ne h] at e ⊢
      exact ih.2 i d e
def tDU (K : PySem.W.Frag) (up : UpD) : TG := fun v σ H Q => ∃ W S d, Good K W S H ∧ Rep K W d v ∧ (match up d with
  | some us => ∀ us' : List (Nat × V), us'.map (·.1) = us.map (·.1) → Reps K W (us.map (·.2)) (us'.map (·.2)) → Q (setsV σ us') H
  | none => False)
section
variable {X : Cx} {Wx : WX} {a b c e tg : Expr} {es : List Expr} {ma mb mc m : ME} {pos : Pos}
def uNm (i : Nat) : UpD := fun d => some [(i, d)]
theorem su_name {i : Nat} {x : Str} (hN : X.N.Nodup) (hi : X.N[i]? = some x) (hx : Loc X.env.scope x) (hf : X.fn x = true ∨ X.env.scope.names.lookup x = some .local) : PG X (.Name x pos) (tDU X.K (uNm i)) :=
  PG.imp (pg_name hN hi hx hf) fun v σ H Q ⟨W, S, d, g, r, p⟩ => p [(i, v)] rfl (.cons r .nil)
def loopC (up : UpD) (mt : MT) (me : ME) (δ0 : En) : List D → List D → M (List D)
  | [], acc => M.pure acc
  | d :: ds, acc => match up d with
    | none => M.bad
    | some us => M.bind (noX (mt (setsD δ0 us))) fun k => match k with
      | false => loopC up mt me δ0 ds acc
      | true => M.bind (noX (me (setsD δ0 us))) fun y => if acc.length < sizeLine then loopC up mt me δ0 ds (acc ++ [y]) else M.bad
def eLc (fin : List D → PO) (mi : MA) (up : UpD) (mt : MT) (me : ME) (vs : List Nat) : ME := fun δ => M.bind (mi δ) fun ds => M.bind (loopC up mt me (wipeD δ vs) ds []) fun ys => lft (fin ys)
def FinOk (K : PySem.W.Frag) (fin : List D → PO) : Prop := ∀ (W : Wd) (S : Store) (H : Hp) (p : Addr) (P : Hp) (acc : List D) (vacc : List V) (Q : VK), Good K W S H → W.P = upd P p (.lst vacc) → P p = none → Reps K W acc vacc → oV K ⟨W.F, W.m, P, W.sf⟩ (fin acc S) Q → Q (.ref p) H
theorem fin_newL {K : PySem.W.Frag} : FinOk K newL := fun W S H p P acc vacc Q g e n r o => by
  unfold newL at o
  split at o
  · refine o _ _ _ ⟨⟨(g.unPrv_lf e).f, rfl, [], by simp⟩, rfl⟩ (g.unPrv e n) (.lst upd_same (r.mono (g.unPrv_lf e)))
  · exact o.elim
theorem tLc_of {mi : MA} {up : UpD} {mt : MT} {me : ME} {vs : List Nat} {fin : List D → PO} (hf : FinOk X.K fin) (hu : ∀ d us, up d = some us → ∀ p ∈ us, p.1 ∈ vs) (σ : St) (H : Hp) (Q : VK) (h : tD X.K Wx (eLc fin mi up mt me vs) σ H Q) :
    tLc (tDI X.K Wx mi) (tDU X.K up) (tDT X.K (fun _ _ _ _ => False) mt) (tD X.K (fun _ _ _ _ => False) me) vs σ H Q := by
  obtain ⟨W, S, δ, g, r, p⟩ := h
  refine ⟨W, S, δ, g, r, (okP.bind (R := WalkD X.K) p).imp fun J H1 ⟨W1, S1, ds, l1, g1, w1, p1⟩ => fun Dd nD => ?_⟩
  have pD : W1.P Dd = none := g1.freeP nD
  refine lc_it (w1 : Walk J ds.length _ _) (fun i H2 => ∃ W2 S2 acc vacc, W1.lf W2 ∧ W2.P = upd W1.P Dd (.lst vacc) ∧ Good X.K W2 S2 H2 ∧ Reps X.K W2 acc vacc ∧
    okP X.K (Rep X.K) ⟨W2.F, W2.m, W1.P, W2.sf⟩ (M.bind (loopC up mt me (wipeD δ vs) (ds.drop i) acc) (fun ys => lft (fin ys)) S2) σ Wx Q) ?_ ?_ ?_ ?_
  · exact ⟨W1.prv Dd (.lst []), S1, [], [], W1.prv_lf _ _, rfl, g1.newPrv nD, .nil, p1⟩
  · rintro i H2 _ ⟨W2, S2, acc, vacc, l2, _, g2, _⟩ a o ha
    exact g2.sub a o (l2.f a o ha)
  · rintro i x H2 H3 hi ⟨W2, S2, acc, vacc, l2, e2, g2, ra, p2⟩ y
    have hd : ds[i]? = some ds[i] := by simp [hi]
    obtain ⟨W3, l3, g3, q3⟩ := y ds[i] hd W2 S2 l2 g2
    rw [List.drop_eq_getElem_cons hi] at p2
    refine ⟨W3, S2, ds[i], g3, q3, ?_⟩
    simp only [loopC] at p2
    cases e1 : up ds[i] with
    | none => rw [e1] at p2; exact p2.elim
    | some us =>
      rw [e1] at p2
      intro us' k1 r1
      have hus : ∀ p ∈ us', p.1 ∈ vs := fun p hp => by
        have : p.1 ∈ us'.map (·.1) := List.mem_map_of_mem hp
        rw [k1] at this
        obtain ⟨q, hq, eq⟩ := List.mem_map.mp this
        rw [← eq]
        exact hu _ _ e1 q hq
      refine ⟨by rw [wipe_sets hus, wipe_wipe], ?_⟩
      have rE : REnv X.K W3 (setsD (wipeD δ vs) us) (setsV (wipe σ vs) us') := ((r.mono (l1.toLf.trans (l2.trans l3))).wipe vs).sets k1 r1
      have p3 := okP.assoc p2
      refine ⟨W3, S2, setsD (wipeD δ vs) us, g3, rE, (okP.bindN p3 W3 _ _).imp fun k H4 ⟨W4, S4, k', l4, g4, ek, p4⟩ => ?_⟩
      subst ek
      cases k' with
      | false =>
        rw [if_neg Bool.false_ne_true]
        refine ⟨W4, S4, acc, vacc, l2.trans (l3.trans l4), by rw [l4.pp, l3.pp, e2], g4, ra.mono (l3.trans l4), ?_⟩
        exact okP.mono (W := ⟨W2.F, W2.m, W1.P, W2.sf⟩) ⟨⟨(l3.trans l4).f, (l3.trans l4).sq, (l3.trans l4).mm⟩, rfl⟩ p4
      | true =>
        rw [if_pos rfl]
        have p5 := okP.assoc p4
        refine ⟨W4, S4, setsD (wipeD δ vs) us, g4, rE.mono l4, (okP.bindN p5 W4 _ _).imp fun yv H5 ⟨W5, S5, y5, l5, g5, r5, p6⟩ => ?_⟩
        have eP : W5.P = upd W1.P Dd (.lst vacc) := by rw [l5.pp, l4.pp, l3.pp, e2]
        have hD : W5.P Dd = some (.lst vacc) := by rw [eP, upd_same]
        have l35 := (l3.trans l4).trans l5
        by_cases hz : acc.length < sizeLine
        · rw [if_pos hz] at p6
          refine ⟨vacc, (g5.prv Dd _ hD).1, by rw [← ra.length]; exact hz, W5.prv Dd (.lst (vacc ++ [yv])), S5, acc ++ [y5], vacc ++ [yv], l2.trans (l35.toLf.trans (W5.prv_lf _ _)), by show upd W5.P Dd _ = _; rw [eP, upd_upd], g5.updPrv hD, ?_, ?_⟩
          · exact ((ra.mono l35).append (.cons r5 .nil)).mono (W5.prv_lf _ _)
          · exact okP.mono (W := ⟨W2.F, W2.m, W1.P, W2.sf⟩) ⟨⟨l35.f, l35.sq, l35.mm⟩, rfl⟩ p6
        · rw [if_neg hz] at p6; exact p6.elim
  · rintro H2 ⟨W2, S2, acc, vacc, l2, e2, g2, ra, p2⟩
    rw [List.drop_length] at p2
    exact hf W2 S2 H2 Dd W1.P acc vacc Q g2 e2 pD ra (okP.lft p2)
theorem se_lc {elt tg iter : Expr} {ifs : List Expr} {scope : Scope} {own : List (Str × Nat)} {mi : MA} {up : UpD} {mt : MT} {me : ME} {fin : List D → PO} (hf : FinOk X.K fin) (hu : ∀ d us, up d = some us → ∀ p ∈ us, p.1 ∈ own.map (·.2))
    (hc : X.calm = true) (hN : X.N.Nodup) (hi : SI X Wx tg iter mi) (ok : BlkOk X.N X.env.scope scope own)
    (hg : ∀ (s : Shared) (H : Hp) (C : Addr) (cl : List (Str × Addr)) (fp : List Addr), PG (X.blk s H scope (compEnvC scope cl C X.env) fp) tg (tDU X.K up)) (ht : ∀ (s : Shared) (H : Hp) (C : Addr) (cl : List (Str × Addr)) (fp : List Addr), PTs (X.blk s H scope (compEnvC scope cl C X.env) fp) ifs (tDT X.K (fun _ _ _ _ => False) mt))
    (he : ∀ (s : Shared) (H : Hp) (C : Addr) (cl : List (Str × Addr)) (fp : List Addr), SE (X.blk s H scope (compEnvC scope cl C X.env) fp) (fun _ _ _ _ => False) elt me) (hs : ∀ x, foldedSetIterable iter X.env x = pure x) :
    SE X Wx (.ListComp elt [⟨tg, iter, ifs, 0⟩] scope pos) (eLc fin mi up mt me (own.map (·.2))) :=
  PE.imp (pe_lc hc hN hi ok hg ht he hs) (tLc_of hf hu)
end
end Ev
namespace Ev
open PySem PySem.SeqAt L2 PyProof.Rows
mutual
def toP : D → Option PyData
  | .non => some .none
  | .bl b => some (.bool b)
  | .int i => some (.int i)
  | .str s => some (.str s)
  | .tup xs => (toPs xs).map .tuple
  | .lst xs => (toPs xs).map .list
  | .ins _ _ => none
  | .ref _ => none
  | .fn _ => none
  | .scr _ => none
  | .slf => none
  | .dic _ => none
  | .dlk _ => none
  | .tpx _ => none
  | .exv _ _ => none
  | .exn _ _ _ _ => none
  | .lam _ _ _ _ _ => none
def toPs : List D → Option (List PyData)
  | [] => some []
  | x :: xs => (toP x).bind fun a => (toPs xs).map fun b => a :: b
end
mutual
def toPS (S : Store) : D → Option PyData
  | .non => some .none
  | .bl b => some (.bool b)
  | .int i => some (.int i)
  | .str s => some (.str s)
  | .tup xs => (toPSs S xs).map .tuple
  | .lst xs => (toPSs S xs).map .list
  | .ref i => (plstOf S (.ref i)).bind fun ds => (toPs ds).map .list
  | .ins _ _ => none
  | .fn _ => none
  | .scr _ => none
  | .slf => none
  | .dic _ => none
  | .dlk _ => none
  | .tpx _ => none
  | .exv _ _ => none
  | .exn _ _ _ _ => none
  | .lam _ _ _ _ _ => none
def toPSs (S : Store) : List D → Option (List PyData)
  | [] => some []
  | x :: xs => (toPS S x).bind fun a => (toPSs S xs).map fun b => a :: b
end
section
variable {X : Cx} {pins : List (Addr × Obj)} {σ : L2.St} {H : Hp} {s : Shared} {W : Wd} {S : Store}
mutual
theorem reads_of' (I : Inv X pins σ H s) (g : Good X.K W S H) : ∀ (d : D) (v : V) (u : Value) (p : PyData), toP d = some p → Rep X.K W d v → RelV v u → p.plain = true ∧ ∃ as, Reads s.heap u p as
  | .non, v, u, p, e, q, r => by cases e; cases q; cases r; exact ⟨rfl, _, .none⟩
  | .bl b, v, u, p, e, q, r => by cases e; cases q; cases r; exact ⟨rfl, _, .bool b⟩
  | .int i, v, u, p, e, q, r => by cases e; cases q; obtain ⟨t, rfl⟩ := r; exact ⟨rfl, _, .int i t⟩
  | .str i, v, u, p, e, q, r => by cases e; cases q; obtain ⟨t, rfl⟩ := r; exact ⟨rfl, _, .str i t⟩
  | .tup ds, v, u, p, e, q, r => by
    simp only [toP] at e
    obtain ⟨ps, e1, rfl⟩ := Option.map_eq_some_iff.mp e
    cases q with
    | tup q r' =>
      cases r
      obtain ⟨its, rv, ⟨o, ho, hc, n, hd⟩, hz⟩ := I.tuple (g.sqT q)
      obtain ⟨pl, as, ra⟩ := readsAll_of' I g ds _ _ _ e1 r' rv
      exact ⟨pl, as, .tuple ho hc hd (by simpa using ra)⟩
  | .lst ds, v, u, p, e, q, r => by
    simp only [toP] at e
    obtain ⟨ps, e1, rfl⟩ := Option.map_eq_some_iff.mp e
    cases q with
    | lst q r' =>
      cases r
      obtain ⟨its, rv, ⟨o, n, ho, hc, _, hd⟩, hz⟩ := I.list (SqL.of (K := X.K) (g.sub _ _ q))
      obtain ⟨pl, as, ra⟩ := readsAll_of' I g ds _ _ _ e1 r' rv
      exact ⟨pl, _, .list ho hc hd (by simpa using ra)⟩
  | .ins _ _, v, u, p, e, q, r => by cases e
  | .ref _, v, u, p, e, q, r => by cases e
  | .fn _, v, u, p, e, q, r => by cases e
  | .scr _, v, u, p, e, q, r => by cases e
  | .slf, v, u, p, e, q, r => by cases e
  | .dic _, v, u, p, e, q, r => by cases e
  | .dlk _, v, u, p, e, q, r => by cases e
  | .tpx _, v, u, p, e, q, r => by cases e
  | .exv _ _, v, u, p, e, q, r => by cases e
  | .exn _ _ _ _, v, u, p, e, q, r => by cases e
  | .lam _ _ _ _ _, v, u, p, e, q, r => by cases e
theorem readsAll_of' (I : Inv X pins σ H s) (g : Good X.K W S H) : ∀ (ds : List D) (vs : List V) (us : List Value) (ps : List PyData), toPs ds = some ps → Reps X.K W ds vs → Vals vs us → PyData.plainAll ps = true ∧ ∃ as, ReadsAll s.heap us ps as
  | [], vs, us, ps, e, q, r => by cases e; cases q; cases r; exact ⟨rfl, _, .nil⟩
  | d :: ds, vs, us, ps, e, q, r => by
    simp only [toPs] at e
    obtain ⟨p1, e1, e2⟩ := Option.bind_eq_some_iff.mp e
    obtain ⟨p2, e3, rfl⟩ := Option.map_eq_some_iff.mp e2
    cases q with
    | cons q r' =>
      cases r with
      | cons ra rb =>
        obtain ⟨pl, as, h1⟩ := reads_of' I g d _ _ _ e1 q ra
        obtain ⟨pl2, bs, h2⟩ := readsAll_of' I g ds _ _ _ e3 r' rb
        exact ⟨by simp [PyData.plainAll, pl, pl2], _, .cons h1 h2⟩
end
theorem readsAll_of (I : Inv X pins σ H s) (g : Good X.K W S H) {ds : List D} {vs : List V} {us : List Value} {ps : List PyData} (e : toPs ds = some ps) (q : Reps X.K W ds vs) (r : Vals vs us) : PyData.plainAll ps = true ∧ ∃ as, ReadsAll s.heap us ps as := readsAll_of' I g ds vs us ps e q r
mutual
theorem reads_ofS' (I : Inv X pins σ H s) (g : Good X.K W S H) : ∀ (d : D) (v : V) (u : Value) (p : PyData), toPS S d = some p → Rep X.K W d v → RelV v u → p.plain = true ∧ ∃ as, Reads s.heap u p as
  | .non, v, u, p, e, q, r => by simp only [toPS] at e; cases e; cases q; cases r; exact ⟨rfl, _, .none⟩
  | .bl b, v, u, p, e, q, r => by simp only [toPS] at e; cases e; cases q; cases r; exact ⟨rfl, _, .bool b⟩
  | .int i, v, u, p, e, q, r => by simp only [toPS] at e; cases e; cases q; obtain ⟨t, rfl⟩ := r; exact ⟨rfl, _, .int i t⟩
  | .str i, v, u, p, e, q, r => by simp only [toPS] at e; cases e; cases q; obtain ⟨t, rfl⟩ := r; exact ⟨rfl, _, .str i t⟩
  | .tup ds, v, u, p, e, q, r => by
    simp only [toPS] at e
    obtain ⟨ps, e1, rfl⟩ := Option.map_eq_some_iff.mp e
    cases q with
    | tup q r' =>
      cases r
      obtain ⟨its, rv, ⟨o, ho, hc, n, hd⟩, hz⟩ := I.tuple (g.sqT q)
      obtain ⟨pl, as, ra⟩ := readsAll_ofS' I g ds _ _ _ e1 r' rv
      exact ⟨pl, as, .tuple ho hc hd (by simpa using ra)⟩
  | .lst ds, v, u, p, e, q, r => by
    simp only [toPS] at e
    obtain ⟨ps, e1, rfl⟩ := Option.map_eq_some_iff.mp e
    cases q with
    | lst q r' =>
      cases r
      obtain ⟨its, rv, ⟨o, n, ho, hc, _, hd⟩, hz⟩ := I.list (SqL.of (K := X.K) (g.sub _ _ q))
      obtain ⟨pl, as, ra⟩ := readsAll_ofS' I g ds _ _ _ e1 r' rv
      exact ⟨pl, _, .list ho hc hd (by simpa using ra)⟩
  | .ref i, v, u, p, e, q, r => by
    simp only [toPS] at e
    obtain ⟨ds, e1, e2⟩ := Option.bind_eq_some_iff.mp e
    obtain ⟨ps, e3, rfl⟩ := Option.map_eq_some_iff.mp e2
    obtain ⟨a, vs, rfl, h1, h2⟩ := plstOf_ok e1 g q
    cases r
    obtain ⟨its, rv, ⟨o, n, ho, hc, _, hd⟩, hz⟩ := I.list (SqL.of (K := X.K) h1)
    obtain ⟨pl, as, ra⟩ := readsAll_of I g e3 h2 rv
    exact ⟨pl, _, .list ho hc hd (by simpa using ra)⟩
  | .ins _ _, v, u, p, e, q, r => by simp only [toPS] at e; cases e
  | .fn _, v, u, p, e, q, r => by simp only [toPS] at e; cases e
  | .scr _, v, u, p, e, q, r => by simp only [toPS] at e; cases e
  | .slf, v, u, p, e, q, r => by simp only [toPS] at e; cases e
  | .dic _, v, u, p, e, q, r => by simp only [toPS] at e; cases e
  | .dlk _, v, u, p, e, q, r => by simp only [toPS] at e; cases e
  | .tpx _, v, u, p, e, q, r => by simp only [toPS] at e; cases e
  | .exv _ _, v, u, p, e, q, r => by simp only [toPS] at e; cases e
  | .exn _ _ _ _, v, u, p, e, q, r => by simp only [toPS] at e; cases e
  | .lam _ _ _ _ _, v, u, p, e, q, r => by simp only [toPS] at e; cases e
theorem readsAll_ofS' (I : Inv X pins σ H s) (g : Good X.K W S H) : ∀ (ds : List D) (vs : List V) (us : List Value) (ps : List PyData), toPSs S ds = some ps → Reps X.K W ds vs → Vals vs us → PyData.plainAll ps = true ∧ ∃ as, ReadsAll s.heap us ps as
  | [], vs, us, ps, e, q, r => by simp only [toPSs] at e; cases e; cases q; cases r; exact ⟨rfl, _, .nil⟩
  | d :: ds, vs, us, ps, e, q, r => by
    simp only [toPSs] at e
    obtain ⟨p1, e1, e2⟩ := Option.bind_eq_some_iff.mp e
    obtain ⟨p2, e3, rfl⟩ := Option.map_eq_some_iff.mp e2
    cases q with
    | cons q r' =>
      cases r with
      | cons ra rb =>
        obtain ⟨pl, as, h1⟩ := reads_ofS' I g d _ _ _ e1 q ra
        obtain ⟨pl2, bs, h2⟩ := readsAll_ofS' I g ds _ _ _ e3 r' rb
        exact ⟨by simp [PyData.plainAll, pl, pl2], _, .cons h1 h2⟩
end
theorem reads_ofS (I : Inv X pins σ H s) (g : Good X.K W S H) {d : D} {v : V} {u : Value} {p : PyData} (e : toPS S d = some p) (q : Rep X.K W d v) (r : RelV v u) : p.plain = true ∧ ∃ as, Reads s.heap u p as := reads_ofS' I g d v u p e q r
end
section
variable {X : Cx}
theorem op_of {f : Value → Value → Sem Value} {r : R2} {g : D → D → PO} (h : OpR X f r) (k : ∀ W S H x y dx dy Q, Good X.K W S H → Rep X.K W dx x → Rep X.K W dy y → oV X.K W (g dx dy S) Q → r x y H Q) : OpR X f (rD2 X.K g) :=
  fun pins s σ H x y v u Q I rx ry ⟨W, S, dx, dy, gd, r1, r2, p⟩ => h pins s σ H x y v u Q I rx ry (k W S H x y dx dy Q gd r1 r2 p)
def pInt2 (ok : Int → Int → Bool) (f : Int → Int → D) : D → D → PO := fun x y S => match x, y with
  | .int i, .int j => if ok i j = true then some (f i j, S) else none
  | _, _ => none
theorem pInt2_inv {ok : Int → Int → Bool} {f : Int → Int → D} {K : PySem.W.Frag} {W : Wd} {S : Store} {x y : V} {dx dy : D} {Q : VK} (r1 : Rep K W dx x) (r2 : Rep K W dy y) (p : oV K W (pInt2 ok f dx dy S) Q) :
    ∃ i j, x = .int i ∧ y = .int j ∧ ok i j = true ∧ oV K W (some (f i j, S)) Q := by
  cases r1 with
  | int i =>
    cases r2 with
    | int j =>
      simp only [pInt2] at p
      split at p
      · exact ⟨i, j, rfl, rfl, by assumption, p⟩
      · exact p.elim
    | _ => exact p.elim
  | _ => cases r2 <;> exact p.elim
def pSub : D → D → PO := pInt2 (fun _ _ => true) fun i j => .int (i - j)
def mulOk (i j : Int) : Bool := decide (-(2 ^ 64) < i ∧ i < 2 ^ 64) || decide (-(2 ^ 64) < j ∧ j < 2 ^ 64)
theorem op_mulI : OpR X (binaryOp .Mult) (rD2 X.K (pInt2 mulOk fun i j => .int (i * j))) := op_of op_mul fun W S H x y dx dy Q g r1 r2 p => by
  obtain ⟨i, j, rfl, rfl, h, o⟩ := pInt2_inv r1 r2 p
  refine ⟨i, j, rfl, rfl, ?_, o.val g (.int _)⟩
  simp only [mulOk, Bool.or_eq_true, decide_eq_true_eq] at h
  exact h
def pFdiv : D → D → PO := pInt2 (fun _ j => decide (0 < j ∧ j < 1073741824)) fun i j => .int (i / j)
theorem op_pFdiv : OpR X (binaryOp .FloorDiv) (rD2 X.K pFdiv) := op_of op_fdiv fun W S H x y dx dy Q g r1 r2 p => by
  obtain ⟨i, j, rfl, rfl, h, o⟩ := pInt2_inv r1 r2 p
  exact ⟨i, j, rfl, rfl, of_decide_eq_true (p := 0 < j ∧ j < 1073741824) h, o.val g (.int _)⟩
def pMod : D → D → PO := pInt2 (fun _ j => decide (0 < j)) fun i j => .int (i % j)
theorem op_pMod : OpR X (binaryOp .Mod) (rD2 X.K pMod) := op_of op_mod fun W S H x y dx dy Q g r1 r2 p => by
  obtain ⟨i, j, rfl, rfl, h, o⟩ := pInt2_inv r1 r2 p
  exact ⟨i, j, rfl, rfl, of_decide_eq_true h, o.val g (.int _)⟩
def pPow : D → D → PO := pInt2 (fun i j => decide (0 ≤ j ∧ j ≤ 1000000 ∧ i.natAbs < 2 ^ 64)) fun i j => .int (i ^ j.toNat)
theorem op_pPow : OpR X (binaryOp .Pow) (rD2 X.K pPow) := op_of op_pow fun W S H x y dx dy Q g r1 r2 p => by
  obtain ⟨i, j, rfl, rfl, h, o⟩ := pInt2_inv r1 r2 p
  exact ⟨i, j, rfl, rfl, of_decide_eq_true (p := 0 ≤ j ∧ j ≤ 1000000 ∧ i.natAbs < 2 ^ 64) h, o.val g (.int _)⟩
def pNeg : D → PO := fun x S => match x with
  | .int i => some (.int (-i), S)
  | _ => none
theorem un_pNeg : UnR X (unaryOp .USub) (rD1 X.K pNeg) := fun pins s σ H x v Q I rx ⟨W, S, dx, g, r1, p⟩ => by
  cases r1 with
  | int i => exact un_neg pins s σ H _ v Q I rx ⟨i, rfl, p.val g (.int _)⟩
  | _ => exact p.elim
def pMul : D → D → PO := fun x y S => match x, y with
  | .int i, .int j => if mulOk i j = true then some (.int (i * j), S) else none
  | x, .int k => (match plstOf S x with
    | some xs => if -(2 ^ 63) ≤ k ∧ k < 2 ^ 63 ∧ xs.length * k.toNat ≤ sizeLine then newL (List.replicate k.toNat xs).flatten S else none
    | none => none)
  | _, _ => none
theorem reps_repl {K : PySem.W.Frag} {W : Wd} {xs : List D} {vs : List V} (r : Reps K W xs vs) : ∀ n : Nat, Reps K W (List.replicate n xs).flatten (List.replicate n vs).flatten
  | 0 => .nil
  | n + 1 => by
    simp only [List.replicate_succ, List.flatten_cons]
    exact r.append (reps_repl r n)
theorem op_pMul : OpR X (binaryOp .Mult) (rD2 X.K pMul) := fun pins s σ H x y v u Q I rx ry ⟨W, S, dx, dy, g, r1, r2, p⟩ => by
  have lst : ∀ {k : Int} {xs : List D}, plstOf S dx = some xs → y = .int k → oV X.K W (if -(2 ^ 63) ≤ k ∧ k < 2 ^ 63 ∧ xs.length * k.toNat ≤ sizeLine then newL (List.replicate k.toNat xs).flatten S else none) Q → wpAny (model X.prog X.w) X.A (binaryOp .Mult v u) (EP X pins σ Q) X.xe s := by
    intro k xs e ey p
    subst ey
    split at p
    · rename_i h
      obtain ⟨a, vs, rfl, h1, h2⟩ := plstOf_ok e g r1
      refine op_rep pins s σ H _ _ v u Q I rx ry ⟨a, k, vs, rfl, rfl, h1, h.1, h.2.1, by rw [← h2.length]; exact h.2.2, (newL_ok p g (reps_repl h2 k.toNat)).2⟩
    · exact p.elim
  cases r2 with
  | int k =>
    cases r1 with
    | int i =>
      refine op_mulI pins s σ H _ _ v u Q I rx ry ⟨W, S, .int i, .int k, g, .int i, .int k, p⟩
    | lst q r => exact lst rfl rfl p
    | ref h =>
      simp only [pMul] at p
      split at p
      · rename_i xs e
        exact lst e rfl p
      · exact p.elim
    | _ => exact p.elim
  | _ => cases r1 <;> exact p.elim
def pAdd : D → D → PO := fun x y S => match x, y with
  | .int i, .int j => some (.int (i + j), S)
  | .str a, .str b => if a.length + b.length ≤ sizeLine then some (.str (a ++ b), S) else none
  | .tup a, .tup b => newT (a ++ b) S
  | x, y => (match plstOf S x, plstOf S y with
    | some a, some b => newL (a ++ b) S
    | _, _ => none)
theorem op_pAdd : OpR X (binaryOp .Add) (rD2 X.K pAdd) := fun pins s σ H x y v u Q I rx ry ⟨W, S, dx, dy, g, r1, r2, p⟩ => by
  have lst : ∀ {xs ys : List D}, plstOf S dx = some xs → plstOf S dy = some ys → oV X.K W (newL (xs ++ ys) S) Q → wpAny (model X.prog X.w) X.A (binaryOp .Add v u) (EP X pins σ Q) X.xe s := by
    intro xs ys e1 e2 p
    obtain ⟨a, vs, rfl, h1, h2⟩ := plstOf_ok e1 g r1
    obtain ⟨b, us, rfl, h3, h4⟩ := plstOf_ok e2 g r2
    obtain ⟨hl, k⟩ := newL_ok p g (h2.append h4)
    exact op_cat pins s σ H _ _ v u Q I rx ry ⟨a, b, vs, us, rfl, rfl, h1, h3, by rw [← List.length_append]; exact hl, k⟩
  cases r1 with
  | int i =>
    cases r2 with
    | int j => exact op_add pins s σ H _ _ v u Q I rx ry ⟨i, j, rfl, rfl, p.val g (.int _)⟩
    | _ => simp [pAdd, plstOf] at p; exact p.elim
  | str a =>
    cases r2 with
    | str b =>
      simp only [pAdd] at p
      split at p
      · exact op_add_str pins s σ H _ _ v u Q I rx ry ⟨a, b, rfl, rfl, by assumption, p.val g (.str _)⟩
      · exact p.elim
    | _ => simp [pAdd, plstOf] at p; exact p.elim
  | @tup a vs ds q r =>
    cases r2 with
    | @tup b us es q2 r2 =>
      simp only [pAdd] at p
      have hp := p
      unfold newT at hp
      split at hp
      · rename_i hl
        refine op_catA pins s σ H _ _ v u Q I rx ry ⟨a, b, vs, us, rfl, rfl, g.sqT q, g.sqT q2, by rw [← r.length, ← r2.length, ← List.length_append]; exact hl, ?_⟩
        have el : es.length = us.length := r2.length
        have dl : ds.length = vs.length := r.length
        refine ⟨fun z => ?_, fun z z2 => ?_, fun z z2 => (newT_ok p g (r.append r2)).2⟩
        · subst z
          have : ds = [] := List.eq_nil_of_length_eq_zero (by rw [dl]; rfl)
          subst this
          exact hp.val g (.tup q2 r2)
        · subst z2
          have : es = [] := List.eq_nil_of_length_eq_zero (by rw [el]; rfl)
          subst this
          rw [List.append_nil] at hp
          exact hp.val g (.tup q r)
      · exact hp.elim
    | _ => simp [pAdd, plstOf] at p; exact p.elim
  | lst q r =>
    simp only [pAdd] at p
    split at p
    · rename_i e1 e2; exact lst e1 e2 p
    · exact p.elim
  | ref h =>
    simp only [pAdd] at p
    split at p
    · rename_i e1 e2; exact lst e1 e2 p
    · exact p.elim
  | _ => cases r2 <;> (simp [pAdd, plstOf] at p; exact p.elim)
def pLt : D → D → PO := pInt2 (fun _ _ => true) fun i j => .bl (decide (i < j))
def pLe : D → D → PO := pInt2 (fun _ _ => true) fun i j => .bl (decide (i ≤ j))
def pGt : D → D → PO := pInt2 (fun _ _ => true) fun i j => .bl (decide (j < i))
def pGe : D → D → PO := pInt2 (fun _ _ => true) fun i j => .bl (decide (j ≤ i))
theorem op_pLt : OpR X (compareOp .Lt) (rD2 X.K pLt) := op_of op_lt fun W S H x y dx dy Q g r1 r2 p => by
  obtain ⟨i, j, rfl, rfl, _, o⟩ := pInt2_inv r1 r2 p
  exact ⟨i, j, rfl, rfl, o.val g (.bl _)⟩
theorem op_pGt : OpR X (compareOp .Gt) (rD2 X.K pGt) := op_of op_gt fun W S H x y dx dy Q g r1 r2 p => by
  obtain ⟨i, j, rfl, rfl, _, o⟩ := pInt2_inv r1 r2 p
  exact ⟨i, j, rfl, rfl, o.val g (.bl _)⟩
theorem op_pGe : OpR X (compareOp .GtE) (rD2 X.K pGe) := op_of op_ge fun W S H x y dx dy Q g r1 r2 p => by
  obtain ⟨i, j, rfl, rfl, _, o⟩ := pInt2_inv r1 r2 p
  exact ⟨i, j, rfl, rfl, o.val g (.bl _)⟩
def eqD (S : Store) (x y : D) : Option Bool := match toPS S x, toPS S y with
  | some a, some b => if a.depth ≤ 60 then some (PyData.eqv a b) else none
  | _, _ => none
def pEq : D → D → PO := fun x y S => (eqD S x y).map fun b => (.bl b, S)
def pNe : D → D → PO := fun x y S => (eqD S x y).map fun b => (.bl (!b), S)
theorem eqD_inv {S : Store} {x y : D} {b : Bool} (h : eqD S x y = some b) : ∃ p q, toPS S x = some p ∧ toPS S y = some q ∧ p.depth ≤ 60 ∧ PyData.eqv p q = b := by
  unfold eqD at h
  cases e1 : toPS S x with
  | none => rw [e1] at h; cases h
  | some p =>
    cases e2 : toPS S y with
    | none => rw [e1, e2] at h; cases h
    | some q =>
      rw [e1, e2] at h
      simp only at h
      split at h
      · exact ⟨p, q, rfl, rfl, by assumption, Option.some.inj h⟩
      · cases h
theorem op_pEq (hu : X.A.units + 64 < cLine) : OpR X (compareOp .Eq) (rD2 X.K pEq) := fun pins s σ H x y v u Q I rx ry ⟨W, S, dx, dy, g, r1, r2, p⟩ => by
  unfold pEq at p
  cases e : eqD S dx dy with
  | none => rw [e] at p; exact p.elim
  | some b =>
    rw [e] at p
    obtain ⟨a, c, e1, e2, hd, rfl⟩ := eqD_inv e
    obtain ⟨p1, as, ra⟩ := reads_ofS I g e1 r1 rx
    obtain ⟨p2, bs, rb⟩ := reads_ofS I g e2 r2 ry
    exact eq_plain ra rb p1 p2 (by omega) ⟨.bl _, H, I, rfl, p.val g (.bl _)⟩
theorem op_pNe (hu : X.A.units + 64 < cLine) : OpR X (compareOp .NotEq) (rD2 X.K pNe) := fun pins s σ H x y v u Q I rx ry ⟨W, S, dx, dy, g, r1, r2, p⟩ => by
  unfold pNe at p
  cases e : eqD S dx dy with
  | none => rw [e] at p; exact p.elim
  | some b =>
    rw [e] at p
    obtain ⟨a, c, e1, e2, hd, rfl⟩ := eqD_inv e
    obtain ⟨p1, as, ra⟩ := reads_ofS I g e1 r1 rx
    obtain ⟨p2, bs, rb⟩ := reads_ofS I g e2 r2 ry
    exact ne_plain ra rb p1 p2 (by omega) ⟨.bl _, H, I, rfl, p.val g (.bl _)⟩
def pIx : D → D → PO := fun x y S => match x, y with
  | .str z, .int i => if z.length ≤ sizeLine then (atI z.cps.toList i).map fun c => (.str ⟨#[c]⟩, S) else none
  | x, .int i => (seqOf S x).bind fun xs => (atI xs i).map fun d => (d, S)
  | _, _ => none
theorem atI_reps {K : PySem.W.Frag} {W : Wd} {ds : List D} {vs : List V} {i : Int} {d : D} (r : Reps K W ds vs) (e : atI ds i = some d) : ∃ v, atI vs i = some v ∧ Rep K W d v := by
  unfold atI at e ⊢
  rw [← r.length]
  obtain ⟨j, e1, e2⟩ := Option.bind_eq_some_iff.mp e
  obtain ⟨v, h1, h2⟩ := r.get e2
  exact ⟨v, Option.bind_eq_some_iff.mpr ⟨j, e1, h1⟩, h2⟩
theorem ix_pIx : IxR X (rD2 X.K pIx) := fun value slice pins s σ H x y v u Q I rx ry ⟨W, S, dx, dy, g, r1, r2, p⟩ hs => by
  have sq : ∀ {i : Int}, y = .int i → oV X.K W ((seqOf S dx).bind fun xs => (atI xs i).map fun d => (d, S)) Q → wpAny (model X.prog X.w) X.A (subscriptTail value slice v u) (EP X pins σ Q) X.xe s := by
    intro i ey p
    subst ey
    cases e : seqOf S dx with
    | none => rw [e] at p; exact p.elim
    | some xs =>
      rw [e] at p
      simp only [Option.bind_some] at p
      cases e2 : atI xs i with
      | none => rw [e2] at p; exact p.elim
      | some d =>
        rw [e2] at p
        obtain ⟨a, vs, rfl, h2, h3⟩ := seqOf_ok e g r1
        obtain ⟨w, h4, h5⟩ := atI_reps h3 e2
        refine ix_seq value slice pins s σ H _ _ v u Q I rx ry ?_ hs
        rcases h2 with h2 | h2
        · exact .inl ⟨a, vs, i, w, rfl, rfl, h2, h4, p.val g h5⟩
        · exact .inr (.inl ⟨a, vs, i, w, rfl, rfl, h2, h4, p.val g h5⟩)
  cases r2 with
  | int i =>
    cases r1 with
    | str z =>
      simp only [pIx] at p
      split at p
      · rename_i hl
        cases e : atI z.cps.toList i with
        | none => rw [e] at p; exact p.elim
        | some c =>
          rw [e] at p
          exact ix_seq value slice pins s σ H _ _ v u Q I rx ry (.inr (.inr ⟨z, i, c, rfl, rfl, hl, e, p.val g (.str _)⟩)) hs
      · exact p.elim
    | _ => exact sq rfl p
  | _ => cases r1 <;> exact p.elim
end
end Ev
namespace Ev
open PySem PySem.Spec PySem.SeqAt L2 PyProof.Rows
theorem FnG.mono {P : Program} {w : World} {K : PySem.W.Frag} {mg : Str → Option Value} {base : Heap} {j k : Nat} {f : Addr} {fd : FuncData} {ps : List Str} {sp : Sp} (F : FnG P w K mg base j f fd ps sp) (h : j ≤ k) : FnG P w K mg base k f fd ps sp :=
  ⟨F.len, fun A hg outer s H args us vs Q E r => F.run A hg outer s H args us vs Q E (r.mono h)⟩
theorem fnG_of {P : Program} {w : World} {K : PySem.W.Frag} {mg : Str → Option Value} {base : Heap} {k : Nat} {f : Addr} {name qual : Str} {params : Arguments} {body : List Stmt} {scope : Scope} {dvs : List V} {kws : List (Str × V)} {fd : FuncData} {N ps : List Str} {sp : Sp}
    (F : FunD K name qual params body scope dvs kws f fd) (Sc : FnScope N ps scope) (len : ∀ vs H Q E, sp vs H Q E → vs.length = ps.length)
    (bd : ∀ (cdv : Value) (A : Around) (outer : List Env) (s : Shared) (H : Hp) (vs : List V) (Q : VK) (E : XK), A.guards = some [] → Room k (A.deeper (envOfC qual scope s.heap.objs.size f cdv)) → sp vs H Q E →
      ∃ t, PSs (cxOf (L2N.CX P w) P w K mg base N qual scope f cdv A outer s H E) body t ∧ t { nx := fun _ H' => Q .non H', rt := Q } (start N vs) H) : FnG P w K mg base (k + 1) f fd ps sp := by
  obtain ⟨oc, od, dV, kV, doc, pm, an, cdv, ct, osl, rfl, lk, hcd, _, _⟩ := F.ex
  refine ⟨len, fun A hg outer s H args us vs Q E room e0 hb rel want => ?_⟩
  have eqn := len _ _ _ _ want
  have KX : K.In s.heap := e0.mod.kin.keeps (fun b o e => (e0.bs b o e).left)
  have lim : s.heap.NoLimit := e0.mod.nolimit.keeps (fun b o e => (e0.bs b o e).left)
  refine codeAny_call_function room.depth (KX _ _ lk) rfl Sc.co Sc.gen rfl (PySem.W.codeRec_of KX hcd) (hb _ _ _ _ ?_)
  refine wpAny_newFunctionEnv_cells Sc.kind (fun ⟨n, v⟩ hy => ?_) (fun env he s1 x => ?_)
  · rcases Sc.par n (List.of_mem_zip hy).left with q | q
    · exact Or.inl q
    · exact Or.inr ⟨q, PySem.W.cellsFrom_some _ _ _ (Or.inl q)⟩
  · subst he
    refine ⟨lim.keeps x.toInCall.keep, codeAny_func ?_⟩
    obtain ⟨t, ht, hq⟩ := bd cdv A outer s H vs Q E hg (room.deeper _) want
    have J := inv_start (CX := L2N.CX P w) (E := E) Sc room.hd e0 eqn rel x
    refine wpAny_mono (ht.run [] s1 (start N vs) H _ J hq) (fun fl s' hs => ?_) (fun _ _ hs => hs)
    cases fl with
    | ret u =>
      obtain ⟨v, _, H', J2, rv, q⟩ := hs
      exact ⟨v, H', J2.os, J2.bare, J2.base, J2.hok, rv, q⟩
    | next =>
      obtain ⟨_, H', J2, q⟩ := hs
      exact ⟨.non, H', J2.os, J2.bare, J2.base, J2.hok, rfl, q⟩
    | brk =>
      obtain ⟨_, _, _, q⟩ := hs
      exact q.elim
    | cont =>
      obtain ⟨_, _, _, q⟩ := hs
      exact q.elim
section
variable {X : Cx} {Wx : WX}
theorem reps_paired {K : PySem.W.Frag} {W : Wd} : ∀ {ds : List D} {vs : List V}, Reps K W ds vs → Paired (fun d v => Rep K W d v) ds vs
  | _, _, .nil => .nil
  | _, _, .cons r t => .cons r (reps_paired t)
theorem paired_reps {K : PySem.W.Frag} {W : Wd} : ∀ {ds : List D} {vs : List V}, Paired (fun d v => Rep K W d v) ds vs → Reps K W ds vs
  | _, _, .nil => .nil
  | _, _, .cons r t => .cons r (paired_reps t)
variable {x nm : Str} {p pos apos : Pos} {e o : Expr} {es : List Expr} {kws : List Keyword} {ks : List Str} {mas mks : MA} {mo : ME} {m : List D → List D → M D} {f : Addr}
def eCallF (m : List D → List D → M D) (mas mks : MA) : ME := fun δ => M.bind (mas δ) fun xs => M.bind (mks δ) fun ys => m xs ys
theorem se_call (hf : CallF X Wx (.ref f) [] m) (hgl : Gl X x) (hm : X.mg x = some (.ref f)) (hk : PySem.W.keepIn X.K (.ref f) = true) (hdb : (x == ("__debug__" : Str)) = false) (ha : SA X Wx (e :: es) mas)
    (he : starEach (e :: es) X.env = (false, eval e X.env) :: starEach es X.env) (hpl : (backTo pos (starEach es X.env)).any (·.1) = false) : SE X Wx (.Call (.Name x p) (e :: es) [] pos) (eCallF m mas aNil) :=
  ⟨fun pins s σ H Q I ⟨W, S, δ, g, r, pp⟩ => by
    refine wpAny_Call_Name_kw (ld_glob I hgl hm ?_ hdb)
    refine PySem.W.callWith_K (h₀ := X.base) I.ok.mod.kin hk (thn (ha.run pos pins s σ H _ I ⟨W, S, δ, g, r, okP.bind (R := Reps X.K) pp⟩) fun us s1 ⟨vs, H1, I1, rv, W1, S1, ds, l1, g1, r1, p1⟩ => ⟨I1.kIn, ?_⟩) he hpl
    exact hf pins s1 σ H1 vs [] us [] Q I1 rv .nil rfl ⟨W1, S1, ds, [], g1, r1, .nil, p1⟩⟩
theorem se_call0 (hf : CallF X Wx (.ref f) [] m) (hgl : Gl X x) (hm : X.mg x = some (.ref f)) (hk : PySem.W.keepIn X.K (.ref f) = true) (hdb : (x == ("__debug__" : Str)) = false) : SE X Wx (.Call (.Name x p) [] [] pos) (eCallF m aNil aNil) :=
  ⟨fun pins s σ H Q I ⟨W, S, δ, g, r, pp⟩ => by
    refine wpAny_Call_Name_kw (ld_glob I hgl hm ?_ hdb)
    exact PySem.W.callWith_K0 I.kIn hk (hf pins s σ H [] [] [] [] Q I .nil .nil rfl ⟨W, S, [], [], g, .nil, .nil, pp⟩)⟩
def clsOf (S : Store) : D → Option (Str × List (Str × D))
  | .ins c fs => some (c, fs)
  | .ref i => (match S[i]? with
    | some (some (.ins c fs)) => some (c, fs)
    | _ => none)
  | _ => none
theorem lookup_reps {K : PySem.W.Frag} {W : Wd} {x : Str} {d : D} : ∀ {fs : List (Str × D)} {gs : List (Str × V)}, gs.map (·.1) = fs.map (·.1) → Reps K W (fs.map (·.2)) (gs.map (·.2)) → fs.lookup x = some d → ∃ v, gs.lookup x = some v ∧ Rep K W d v
  | [], _, _, _, h => by cases h
  | _ :: _, [], e, _, _ => by cases e
  | (a, d1) :: fs, (b, v1) :: gs, e, r, h => by
    simp only [List.map_cons, List.cons.injEq] at e
    obtain ⟨rfl, e⟩ := e
    cases r with
    | cons r1 r2 =>
      simp only [List.lookup_cons] at h ⊢
      cases q : x == b with
      | true => rw [q] at h; cases h; exact ⟨v1, rfl, r1⟩
      | false => rw [q] at h; exact lookup_reps e r2 h
def eFld (ok : Str → Bool) (f : Str) (mo : ME) : ME := fun δ => M.bind (mo δ) fun x S => match clsOf S x with
  | some (c, fs) => if ok c = true then (match fs.lookup f with
    | some d => .ok d S
    | none => .bad) else .bad
  | none => .bad
end
end Ev
namespace Ev
open PySem PySem.Spec PySem.SeqAt L2 PyProof.Rows
section
variable {X : Cx}
theorem call_of {f : Value} {r : List V → Hp → VK → Prop} {g : List D → PO} (h : CallR X f r) (k : ∀ W S H vs ds Q, Good X.K W S H → Reps X.K W ds vs → oV X.K W (g ds S) Q → r vs H Q) : CallR X f (rDC X.K g) :=
  fun pins s σ H vs us Q I rv ⟨W, S, ds, gd, r1, p⟩ => h pins s σ H vs us Q I rv (k W S H vs ds Q gd r1 p)
theorem reps1 {K : PySem.W.Frag} {W : Wd} {d : D} {vs : List V} (r : Reps K W [d] vs) : ∃ v, vs = [v] ∧ Rep K W d v := by
  cases r with
  | cons r t => cases t; exact ⟨_, rfl, r⟩
theorem reps2 {K : PySem.W.Frag} {W : Wd} {d e : D} {vs : List V} (r : Reps K W [d, e] vs) : ∃ v u, vs = [v, u] ∧ Rep K W d v ∧ Rep K W e u := by
  cases r with
  | cons r t =>
    obtain ⟨u, rfl, q⟩ := reps1 t
    exact ⟨_, u, rfl, r, q⟩
def intsOf : List D → Option (List Int)
  | [] => some []
  | .int i :: ds => (intsOf ds).map fun l => i :: l
  | _ :: _ => none
theorem intsOf_ok {K : PySem.W.Frag} {W : Wd} : ∀ {ds : List D} {vs : List V} {ns : List Int}, intsOf ds = some ns → Reps K W ds vs → ds = ns.map D.int ∧ vs = ns.map V.int
  | [], _, _, e, .nil => by cases e; exact ⟨rfl, rfl⟩
  | .int i :: ds, _, _, e, .cons r t => by
    simp only [intsOf] at e
    obtain ⟨l, e1, rfl⟩ := Option.map_eq_some_iff.mp e
    cases r
    obtain ⟨h1, h2⟩ := intsOf_ok e1 t
    exact ⟨by rw [h1]; rfl, by rw [h2]; rfl⟩
  | .non :: _, _, _, e, _ | .bl _ :: _, _, _, e, _ | .str _ :: _, _, _, e, _ | .tup _ :: _, _, _, e, _ | .lst _ :: _, _, _, e, _ | .ins _ _ :: _, _, _, e, _ | .ref _ :: _, _, _, e, _ | .fn _ :: _, _, _, e, _ | .scr _ :: _, _, _, e, _ | .slf :: _, _, _, e, _ | .dic _ :: _, _, _, e, _ | .dlk _ :: _, _, _, e, _ | .tpx _ :: _, _, _, e, _ | .exv _ _ :: _, _, _, e, _ => by cases e
def blsOf : List D → Option (List Bool)
  | [] => some []
  | .bl i :: ds => (blsOf ds).map fun l => i :: l
  | _ :: _ => none
theorem blsOf_ok {K : PySem.W.Frag} {W : Wd} : ∀ {ds : List D} {vs : List V} {ns : List Bool}, blsOf ds = some ns → Reps K W ds vs → ds = ns.map D.bl ∧ vs = ns.map V.bl
  | [], _, _, e, .nil => by cases e; exact ⟨rfl, rfl⟩
  | .bl i :: ds, _, _, e, .cons r t => by
    simp only [blsOf] at e
    obtain ⟨l, e1, rfl⟩ := Option.map_eq_some_iff.mp e
    cases r
    obtain ⟨h1, h2⟩ := blsOf_ok e1 t
    exact ⟨by rw [h1]; rfl, by rw [h2]; rfl⟩
  | .non :: _, _, _, e, _ | .int _ :: _, _, _, e, _ | .str _ :: _, _, _, e, _ | .tup _ :: _, _, _, e, _ | .lst _ :: _, _, _, e, _ | .ins _ _ :: _, _, _, e, _ | .ref _ :: _, _, _, e, _ | .fn _ :: _, _, _, e, _ | .scr _ :: _, _, _, e, _ | .slf :: _, _, _, e, _ | .dic _ :: _, _, _, e, _ | .dlk _ :: _, _, _, e, _ | .tpx _ :: _, _, _, e, _ | .exv _ _ :: _, _, _, e, _ => by cases e
def strsOf : List D → Option (List Str)
  | [] => some []
  | .str i :: ds => (strsOf ds).map fun l => i :: l
  | _ :: _ => none
theorem strsOf_ok {K : PySem.W.Frag} {W : Wd} : ∀ {ds : List D} {vs : List V} {ns : List Str}, strsOf ds = some ns → Reps K W ds vs → ds = ns.map D.str ∧ vs = ns.map V.str
  | [], _, _, e, .nil => by cases e; exact ⟨rfl, rfl⟩
  | .str i :: ds, _, _, e, .cons r t => by
    simp only [strsOf] at e
    obtain ⟨l, e1, rfl⟩ := Option.map_eq_some_iff.mp e
    cases r
    obtain ⟨h1, h2⟩ := strsOf_ok e1 t
    exact ⟨by rw [h1]; rfl, by rw [h2]; rfl⟩
  | .non :: _, _, _, e, _ | .int _ :: _, _, _, e, _ | .bl _ :: _, _, _, e, _ | .tup _ :: _, _, _, e, _ | .lst _ :: _, _, _, e, _ | .ins _ _ :: _, _, _, e, _ | .ref _ :: _, _, _, e, _ | .fn _ :: _, _, _, e, _ | .scr _ :: _, _, _, e, _ | .slf :: _, _, _, e, _ | .dic _ :: _, _, _, e, _ | .dlk _ :: _, _, _, e, _ | .tpx _ :: _, _, _, e, _ | .exv _ _ :: _, _, _, e, _ => by cases e
def pLen : List D → PO := fun ds S => match ds with
  | [.str z] => if z.length ≤ sizeLine then some (.int z.length, S) else none
  | [x] => (seqOf S x).map fun xs => (.int xs.length, S)
  | _ => none
theorem cr_pLen : CallR X (.builtin "len") (rDC X.K pLen) := call_of call_len fun W S H vs ds Q g r p => by
  match ds, r, p with
  | [], _, p => exact p.elim
  | [d], r, p =>
    obtain ⟨v, rfl, q⟩ := reps1 r
    have sq : oV X.K W ((seqOf S d).map fun xs => (.int xs.length, S)) Q → ∃ x n, [v] = [x] ∧ LenV X.K x H n ∧ Q (.int n) H := fun p => by
      cases e : seqOf S d with
      | none => rw [e] at p; exact p.elim
      | some xs =>
        rw [e] at p
        obtain ⟨a, us, rfl, h2, h3⟩ := seqOf_ok e g q
        refine ⟨_, xs.length, rfl, ?_, p.val g (.int _)⟩
        rcases h2 with h2 | h2
        · exact .inl ⟨us, h2, h3.length⟩
        · exact .inr ⟨us, h2, h3.length⟩
    cases q with
    | str z =>
      simp only [pLen] at p
      split at p
      · exact ⟨_, z.length, rfl, ⟨by assumption, rfl⟩, p.val g (.int _)⟩
      · exact p.elim
    | _ => exact sq p
  | a :: _ :: _, _, p => cases a <;> exact p.elim
def pAbs : List D → PO := fun ds S => match ds with
  | [.int i] => some (.int (if i < 0 then -i else i), S)
  | _ => none
theorem cr_pAbs : CallR X (.builtin "abs") (rDC X.K pAbs) := call_of call_abs fun W S H vs ds Q g r p => by
  match ds, r, p with
  | [.int i], r, p =>
    obtain ⟨v, rfl, q⟩ := reps1 r
    cases q
    exact ⟨i, rfl, p.val g (.int _)⟩
def minL : List Int → Int
  | [] => 0
  | [x] => x
  | x :: y :: r => if x ≤ minL (y :: r) then x else minL (y :: r)
theorem minL_ok : ∀ l : List Int, l ≠ [] → minL l ∈ l ∧ ∀ y ∈ l, minL l ≤ y
  | [], h => (h rfl).elim
  | [x], _ => ⟨by simp [minL], by simp [minL]⟩
  | x :: y :: r, _ => by
    obtain ⟨h1, h2⟩ := minL_ok (y :: r) (by simp)
    unfold minL
    split
    · rename_i h
      refine ⟨by simp, fun z hz => ?_⟩
      rcases List.mem_cons.mp hz with rfl | hz
      · exact Int.le_refl _
      · exact Int.le_trans h (h2 z hz)
    · rename_i h
      refine ⟨List.mem_cons_of_mem _ h1, fun z hz => ?_⟩
      rcases List.mem_cons.mp hz with rfl | hz
      · omega
      · exact h2 z hz
def maxL : List Int → Int
  | [] => 0
  | [x] => x
  | x :: y :: r => if maxL (y :: r) ≤ x then x else maxL (y :: r)
theorem maxL_ok : ∀ l : List Int, l ≠ [] → maxL l ∈ l ∧ ∀ y ∈ l, y ≤ maxL l
  | [], h => (h rfl).elim
  | [x], _ => ⟨by simp [maxL], by simp [maxL]⟩
  | x :: y :: r, _ => by
    obtain ⟨h1, h2⟩ := maxL_ok (y :: r) (by simp)
    unfold maxL
    split
    · rename_i h
      refine ⟨by simp, fun z hz => ?_⟩
      rcases List.mem_cons.mp hz with rfl | hz
      · exact Int.le_refl _
      · exact Int.le_trans (h2 z hz) h
    · rename_i h
      refine ⟨List.mem_cons_of_mem _ h1, fun z hz => ?_⟩
      rcases List.mem_cons.mp hz with rfl | hz
      · omega
      · exact h2 z hz
def pMin : List D → PO := fun ds S => match ds with
  | [x, y] => (match x, y with
    | .int i, .int j => some (.int (if j < i then j else i), S)
    | _, _ => none)
  | [x] => ((lstOf S x).bind intsOf).bind fun ns => if ns = [] then none else some (.int (minL ns), S)
  | _ => none
def pMax : List D → PO := fun ds S => match ds with
  | [x, y] => (match x, y with
    | .int i, .int j => some (.int (if j > i then j else i), S)
    | _, _ => none)
  | [x] => ((lstOf S x).bind intsOf).bind fun ns => if ns = [] then none else some (.int (maxL ns), S)
  | _ => none
theorem ints_of_lst {W : Wd} {S : Store} {H : Hp} {d : D} {v : V} {ns : List Int} (g : Good X.K W S H) (q : Rep X.K W d v) (e : (lstOf S d).bind intsOf = some ns) : ∃ a, v = .ref a ∧ SqL X.K H a (ns.map V.int) := by
  obtain ⟨xs, e1, e2⟩ := Option.bind_eq_some_iff.mp e
  obtain ⟨a, us, rfl, h2, h3⟩ := lstOf_ok e1 g q
  obtain ⟨rfl, rfl⟩ := intsOf_ok e2 h3
  exact ⟨a, rfl, h2⟩
theorem cr_pMin (hc : X.calm = true) : CallR X (.builtin "min") (rDC X.K pMin) := fun pins s σ H vs us Q I rv ⟨W, S, ds, g, r, p⟩ => by
  have one : ∀ {d : D}, ds = [d] → oV X.K W (((lstOf S d).bind intsOf).bind fun ns => if ns = [] then none else some (.int (minL ns), S)) Q → wpAny (model X.prog X.w) X.A (call (.builtin "min") us) (EP X pins σ Q) X.xe s := by
    intro d ed p'
    clear p
    subst ed
    obtain ⟨v, rfl, q⟩ := reps1 r
    cases e : (lstOf S d).bind intsOf with
    | none => rw [e] at p'; exact p'.elim
    | some ns =>
      rw [e] at p'
      simp only [Option.bind_some] at p'
      split at p'
      · exact p'.elim
      · rename_i hn
        obtain ⟨a, rfl, h⟩ := ints_of_lst g q e
        obtain ⟨m1, m2⟩ := minL_ok ns hn
        refine cr_min hc pins s σ H _ us Q I rv ⟨a, ns, rfl, h, List.length_pos_iff.mpr hn, fun m h1 h2 => ?_⟩
        have : m = minL ns := Int.le_antisymm (h2 _ m1) (m2 _ h1)
        rw [this]
        exact p'.val g (.int _)
  match ds, r, p, @one with
  | [], _, p, _ => exact p.elim
  | [d], _, p, one => exact @one d rfl p
  | [d, e], r, p, _ =>
    obtain ⟨v, u, rfl, q1, q2⟩ := reps2 r
    cases q1 with
    | int i =>
      cases q2 with
      | int j => exact call_min2 hc pins s σ H _ us Q I rv ⟨i, j, rfl, p.val g (.int _)⟩
      | _ => exact p.elim
    | _ => cases q2 <;> exact p.elim
  | _ :: _ :: _ :: _, _, p, _ => exact p.elim
theorem cr_pMax (hc : X.calm = true) : CallR X (.builtin "max") (rDC X.K pMax) := fun pins s σ H vs us Q I rv ⟨W, S, ds, g, r, p⟩ => by
  have one : ∀ {d : D}, ds = [d] → oV X.K W (((lstOf S d).bind intsOf).bind fun ns => if ns = [] then none else some (.int (maxL ns), S)) Q → wpAny (model X.prog X.w) X.A (call (.builtin "max") us) (EP X pins σ Q) X.xe s := by
    intro d ed p'
    clear p
    subst ed
    obtain ⟨v, rfl, q⟩ := reps1 r
    cases e : (lstOf S d).bind intsOf with
    | none => rw [e] at p'; exact p'.elim
    | some ns =>
      rw [e] at p'
      simp only [Option.bind_some] at p'
      split at p'
      · exact p'.elim
      · rename_i hn
        obtain ⟨a, rfl, h⟩ := ints_of_lst g q e
        obtain ⟨m1, m2⟩ := maxL_ok ns hn
        refine cr_max hc pins s σ H _ us Q I rv ⟨a, ns, rfl, h, List.length_pos_iff.mpr hn, fun m h1 h2 => ?_⟩
        have : m = maxL ns := Int.le_antisymm (m2 _ h1) (h2 _ m1)
        rw [this]
        exact p'.val g (.int _)
  match ds, r, p, @one with
  | [], _, p, _ => exact p.elim
  | [d], _, p, one => exact @one d rfl p
  | [d, e], r, p, _ =>
    obtain ⟨v, u, rfl, q1, q2⟩ := reps2 r
    cases q1 with
    | int i =>
      cases q2 with
      | int j => exact call_max2 hc pins s σ H _ us Q I rv ⟨i, j, rfl, p.val g (.int _)⟩
      | _ => exact p.elim
    | _ => cases q2 <;> exact p.elim
  | _ :: _ :: _ :: _, _, p, _ => exact p.elim
def pSum : List D → PO := fun ds S => match ds with
  | [x] => ((lstOf S x).bind intsOf).map fun ns => (.int ns.sum, S)
  | _ => none
def pAll (b : Bool) : List D → PO := fun ds S => match ds with
  | [x] => ((lstOf S x).bind blsOf).map fun ns => (.bl (if b then ns.all id else ns.any id), S)
  | _ => none
theorem bls_of_lst {W : Wd} {S : Store} {H : Hp} {d : D} {v : V} {ns : List Bool} (g : Good X.K W S H) (q : Rep X.K W d v) (e : (lstOf S d).bind blsOf = some ns) : ∃ a, v = .ref a ∧ SqL X.K H a (ns.map V.bl) := by
  obtain ⟨xs, e1, e2⟩ := Option.bind_eq_some_iff.mp e
  obtain ⟨a, us, rfl, h2, h3⟩ := lstOf_ok e1 g q
  obtain ⟨rfl, rfl⟩ := blsOf_ok e2 h3
  exact ⟨a, rfl, h2⟩
theorem cr_pAll (hc : X.calm = true) : CallR X (.builtin "all") (rDC X.K (pAll true)) := call_of (cr_all hc) fun W S H vs ds Q g r p => by
  match ds, r, p with
  | [d], r, p =>
    obtain ⟨v, rfl, q⟩ := reps1 r
    simp only [pAll] at p
    cases e : (lstOf S d).bind blsOf with
    | none => rw [e] at p; exact p.elim
    | some ns =>
      rw [e] at p
      obtain ⟨a, rfl, h⟩ := bls_of_lst g q e
      exact ⟨a, ns, rfl, h, p.val g (.bl _)⟩
def pDivmod : List D → PO := fun ds S => match ds with
  | [.int i, .int j] => if 0 < j ∧ j < 1073741824 then some (.tup [.int (i / j), .int (i % j)], S) else none
  | _ => none
theorem cr_pDivmod : CallR X (.builtin "divmod") (rDC X.K pDivmod) := call_of call_divmod fun W S H vs ds Q g r p => by
  match ds, r, p with
  | [.int i, .int j], r, p =>
    obtain ⟨v, u, rfl, q1, q2⟩ := reps2 r
    cases q1; cases q2
    simp only [pDivmod] at p
    split at p
    · rename_i h
      exact ⟨i, j, rfl, h, fun a n => p.new g n (.tup (SqT.of upd_same) (.cons (.int _) (.cons (.int _) .nil)))⟩
    · exact p.elim
def pInt : List D → PO := fun ds S => match ds with
  | [.int i] => some (.int i, S)
  | [.bl b] => some (.int (if b then 1 else 0), S)
  | [.str a] => if a.length ≤ 640 then (PySem.intText? a).map fun n => (.int n, S) else none
  | _ => none
theorem cr_pInt : CallR X (.type "int") (rDC X.K pInt) := fun pins s σ H vs us Q I rv ⟨W, S, ds, g, r, p⟩ => by
  match ds, r, p with
  | [.int i], r, p =>
    obtain ⟨v, rfl, q⟩ := reps1 r
    cases q
    exact call_int1 pins s σ H _ us Q I rv (.inl ⟨i, rfl, p.val g (.int _)⟩)
  | [.bl i], r, p =>
    obtain ⟨v, rfl, q⟩ := reps1 r
    cases q
    exact call_int1 pins s σ H _ us Q I rv (.inr ⟨i, rfl, p.val g (.int _)⟩)
  | [.str a], r, p =>
    obtain ⟨v, rfl, q⟩ := reps1 r
    cases q
    simp only [pInt] at p
    split at p
    · rename_i h
      cases e : PySem.intText? a with
      | none => rw [e] at p; exact p.elim
      | some n =>
        rw [e] at p
        exact call_int_str pins s σ H _ us Q I rv ⟨a, n, rfl, e, h, p.val g (.int _)⟩
    · exact p.elim
mutual
theorem plain_hasDict : ∀ p : PyData, p.plain = true → p.hasDict = false
  | .none, _ => rfl
  | .bool _, _ => rfl
  | .int _, _ => rfl
  | .str _, _ => rfl
  | .list xs, h => by simp only [PyData.hasDict]; exact plain_hasDictAll xs (by simpa [PyData.plain] using h)
  | .tuple xs, h => by simp only [PyData.hasDict]; exact plain_hasDictAll xs (by simpa [PyData.plain] using h)
  | .dict _, h => by cases h
theorem plain_hasDictAll : ∀ ps : List PyData, PyData.plainAll ps = true → PyData.hasDictAll ps = false
  | [], _ => rfl
  | p :: ps, h => by
    simp only [PyData.plainAll, Bool.and_eq_true] at h
    simp only [PyData.hasDictAll, Bool.or_eq_false_iff]
    exact ⟨plain_hasDict p h.1, plain_hasDictAll ps h.2⟩
end
end
end Ev
namespace Ev
open PySem PySem.Spec PySem.SeqAt L2 PyProof.Rows
section
variable {X : Cx} {Wx : WX} {o e : Expr} {es : List Expr} {mo : ME} {mas : MA} {nm : Str} {apos cpos pos : Pos} {T id : String}
def rDM (K : PySem.W.Frag) (f : D → List D → PO) : V → List V → Hp → VK → Prop := fun x xs H Q => ∃ W S d ds, Good K W S H ∧ Rep K W d x ∧ Reps K W ds xs ∧ oV K W (f d ds S) Q
def tyD (T : String) (S : Store) : D → Bool
  | .str _ => T == "str"
  | d => T == "list" && (lstOf S d).isSome
theorem tyD_ok {K : PySem.W.Frag} {W : Wd} {S : Store} {H : Hp} {d : D} {v : V} (h : tyD T S d = true) (g : Good K W S H) (r : Rep K W d v) : tyV K T v H := by
  have ls : (T == "list" && (lstOf S d).isSome) = true → tyV K T v H := fun h => by
    simp only [Bool.and_eq_true, beq_iff_eq] at h
    obtain ⟨xs, e⟩ := Option.isSome_iff_exists.mp h.2
    obtain ⟨a, vs, rfl, h1, h2⟩ := lstOf_ok e g r
    exact .inl ⟨h.1, vs, h1⟩
  cases r with
  | str x => exact beq_iff_eq.mp h
  | _ => exact ls h
def eMB (T : String) (f : D → List D → PO) (mo : ME) (mas : MA) : ME := fun δ => M.bind (mo δ) fun x S => if tyD T S x = true then M.bind (mas δ) (fun xs => lft (f x xs)) S else .bad
theorem se_mb {f : D → List D → PO} (pa : PlainAttrs T) (slot : Slot T nm id) (hty : typeOf (.builtin id) = pure (.type "method_descriptor")) (hm : MtR X id (rDM X.K f)) (ho : SE X Wx o mo) (ha : SA X Wx (e :: es) mas)
    (hbase : attributeBase o nm X.env (eval o X.env) = eval o X.env)
    (hfew : ((backTo cpos (starEach (e :: es) X.env)).all (fun x => !x.1) && (backToKw cpos (keywordEach [] X.env)).all (fun x => x.1.isSome)
      && decide ((e :: es).length + ([] : List Keyword).length + (if ([] : List Keyword).isEmpty then 0 else 1) < 30)) = true)
    (hline : (apos.endLine == cpos.line) = true) (hs : starEach (e :: es) X.env = (false, eval e X.env) :: starEach es X.env) (hpl : (backTo cpos (starEach es X.env)).any (·.1) = false) :
    SE X Wx (.Call (.Attribute o nm apos) (e :: es) [] cpos) (eMB T f mo mas) :=
  PE.imp (pe_bm pa slot hty hm ho ha hbase hfew hline hs hpl) fun σ H Q ⟨W, S, δ, g, r, p⟩ => ⟨W, S, δ, g, r, (okP.bind (R := Rep X.K) p).imp fun v H1 ⟨W1, S1, x, l1, g1, r1, p1⟩ => by
    by_cases ht : tyD T S1 x = true
    · rw [if_pos ht] at p1
      exact ⟨tyD_ok ht g1 r1, W1, S1, δ, g1, r.mono l1, (okP.bind (R := Reps X.K) p1).imp fun vs H2 ⟨W2, S2, xs, l2, g2, r2, p2⟩ => ⟨W2, S2, x, xs, g2, r1.mono l2, r2, p2.lft⟩⟩
    · rw [if_neg ht] at p1; exact p1.elim⟩
def pJoin : D → List D → PO := fun x ds S => match x, ds with
  | .str a, [y] => ((seqOf S y).bind strsOf).bind fun ys => if (ys.map (·.length)).sum + ys.length * a.length ≤ 16777216 then some (.str (Txt.join a ys), S) else none
  | _, _ => none
theorem mt_pJoin : MtR X "str.join" (rDM X.K pJoin) := fun pins s σ H x xs v us Q I rx rv ⟨W, S, d, ds, g, r1, r2, p⟩ => by
  cases r1 with
  | str a =>
    match ds, r2, p with
    | [y], r2, p =>
      obtain ⟨w, rfl, q⟩ := reps1 r2
      simp only [pJoin] at p
      cases e : (seqOf S y).bind strsOf with
      | none => rw [e] at p; exact p.elim
      | some ys =>
        rw [e] at p
        simp only [Option.bind_some] at p
        split at p
        · rename_i h
          obtain ⟨zs, e1, e2⟩ := Option.bind_eq_some_iff.mp e
          obtain ⟨b, vs, rfl, h2, h3⟩ := seqOf_ok e1 g q
          obtain ⟨rfl, rfl⟩ := strsOf_ok e2 h3
          exact mt_join pins s σ H _ _ v us Q I rx rv ⟨a, b, ys, rfl, rfl, h2, h, p.val g (.str _)⟩
        · exact p.elim
  | _ => cases ds with
    | nil => exact p.elim
    | cons d ds => cases ds <;> exact p.elim
def pStore : PSt := fun o i v S => match o, i with
  | .ref n, .int k => (match S[n]? with
    | some (some (.lst xs)) => (ixN xs.length k).map fun j => S.set n (some (.lst (xs.set j v)))
    | _ => none)
  | _, _ => none
theorem set_pStore : PSet X (tDSet X.K pStore) := fun pins s σ H o i v ov iv u Q I r1 r2 r3 ⟨W, S, do_, di, dv, g, q1, q2, q3, p⟩ => by
  cases q1 with
  | @ref n a h =>
    cases q2 with
    | int k =>
      simp only [pStore] at p
      cases e : S[n]? with
      | none => rw [e] at p; exact p.elim
      | some c =>
        rw [e] at p
        match c, e, p with
        | some (.lst xs), e, p =>
          dsimp only at p
          cases e2 : ixN xs.length k with
          | none => rw [e2] at p; exact p.elim
          | some j =>
            rw [e2] at p
            obtain ⟨a', e1, _, _, vs, e3, e4⟩ := g.cell n _ e
            rw [h] at e1; cases e1
            exact set_list pins s σ H _ _ _ ov iv u Q I r1 r2 r3 ⟨a, vs, k, j, rfl, rfl, e3, by rw [← e4.length]; exact e2, p W _ W.le_refl (g.put e h ⟨_, upd_same, e4.set q3 j⟩)⟩
    | _ => exact p.elim
  | _ => cases q2 <;> exact p.elim
def oPart (m : Option ME) (δ : En) : M (Option Int) := match m with
  | none => M.pure none
  | some m => M.bind (m δ) fun d => match d with
    | .int i => M.pure (some i)
    | _ => M.bad
def cutD (xs : List D) (lo hi : Option Int) : List D := (xs.drop (HT.sIx xs.length 0 lo)).take (HT.sIx xs.length xs.length hi - HT.sIx xs.length 0 lo)
def pCut : D → Option Int → Option Int → PO := fun x lo hi S => match x with
  | .str z => if z.length ≤ sizeLine then some (.str (cutS z lo hi), S) else none
  | .tup xs => newT (cutD xs lo hi) S
  | x => (lstOf S x).bind fun xs => newL (cutD xs lo hi) S
def eCut (mo : ME) (ml mh : Option ME) : ME := fun δ => M.bind (mo δ) fun x => M.bind (oPart ml δ) fun lo => M.bind (oPart mh δ) fun hi => lft (pCut x lo hi)
theorem se_ix {i : Expr} {mi : ME} (ho : SE X Wx o mo) (hi : SE X Wx i mi) (hs : PlainIx i) : SE X Wx (.Subscript o i pos) (eOp pIx mo mi) := PE.imp (pe_ix ix_pIx ho hi hs) tOp_of
def tyOf (S : Store) : D → Option Ty
  | .non => some (.blt "NoneType")
  | .bl _ => some (.blt "bool")
  | .int _ => some (.blt "int")
  | .str _ => some (.blt "str")
  | .tup _ => some (.blt "tuple")
  | .lst _ => some (.blt "list")
  | .ins c _ => some (.own c)
  | .ref i => (match S[i]? with
    | some (some (.lst _)) => some (.blt "list")
    | some (some (.ins c _)) => some (.own c)
    | some (some (.dT _)) => some (.blt "dict")
    | some (some (.dK _)) => some (.blt "dict")
    | _ => none)
  | .dic _ => some (.blt "dict")
  | .dlk _ => some (.blt "dict")
  | .tpx _ => none
  | .exv _ _ => none
  | _ => none
structure IsiOk (K : PySem.W.Frag) (isi : Ty → Ty → Option Bool) : Prop where
  kit : ∀ t c b, isi t c = some b → PySem.W.kitOne K (t.val K) (c.val K) = some b
  own : ∀ c d b, isi (.own c) d = some b → Cls K (He.ga K c) ∧ PySem.W.findIn K (.ref (He.ga K c)) "__class__" = some (some (.builtin "object.__class__")) ∧
    PySem.W.specialIn K (.builtin "object.__class__") "__get__" = some (some (.builtin "getset_descriptor.__get__")) ∧ PySem.W.takesIn K (.builtin "object.__class__") = some true ∧ PySem.W.mroIn K (He.ga K c) (.type "object") = some true
def eIsi (isi : Ty → Ty → Option Bool) (c : Ty) (mo : ME) : ME := fun δ => M.bind (mo δ) fun x S => match (tyOf S x).bind fun t => isi t c with
  | some b => .ok (.bl b) S
  | none => .bad
end
end Ev
namespace Ev
open PySem PySem.Spec PySem.SeqAt L2 PyProof.Rows
section
variable {K : PySem.W.Frag} {W W' : Wd}
mutual
theorem Rep.mono0 (hf : ∀ a o, W.F a = some o → W'.F a = some o) (hm : ∀ (i : Nat) a, W.m[i]? = some a → W'.m[i]? = some a) : ∀ {d : D} {v : V}, Rep K W d v → Rep K W' d v
  | _, _, .non => .non
  | _, _, .bl b => .bl b
  | _, _, .int i => .int i
  | _, _, .str x => .str x
  | _, _, .tup q r => .tup (by
      rcases q with q | q
      · exact .inl (rd_sub hf q)
      · exact .inr q) (Reps.mono0 hf hm r)
  | _, _, .lst q r => .lst (hf _ _ q) (Reps.mono0 hf hm r)
  | _, _, .scr q => .scr (by
      rcases q with q | q
      · exact .inl (rd_sub hf q)
      · exact .inr q)
  | _, _, .ins e k r => .ins (hf _ _ e) k (Reps.mono0 hf hm r)
  | _, _, .ref e => .ref (hm _ _ e)
  | _, _, .fn x => .fn x
  | _, _, .dic e k r => .dic (hf _ _ e) k (Reps.mono0 hf hm r)
  | _, _, .dlk e k r => .dlk (hf _ _ e) k (Reps.mono0 hf hm r)
  | _, _, .tpx e k r => .tpx (hf _ _ e) k (Reps.mono0 hf hm r)
  | _, _, .exv e x k r => .exv (hf _ _ e) (x.mono hf) k (Reps.mono0 hf hm r)
  | _, _, .exn0 => .exn0
  | _, _, .exn1 e k r => .exn1 (hf _ _ e) k (Reps.mono0 hf hm r)
  | _, _, .lam e r => .lam (hf _ _ e) (Reps.mono0 hf hm r)
theorem Reps.mono0 (hf : ∀ a o, W.F a = some o → W'.F a = some o) (hm : ∀ (i : Nat) a, W.m[i]? = some a → W'.m[i]? = some a) : ∀ {ds : List D} {vs : List V}, Reps K W ds vs → Reps K W' ds vs
  | _, _, .nil => .nil
  | _, _, .cons r t => .cons (Rep.mono0 hf hm r) (Reps.mono0 hf hm t)
end
theorem CellAt.mono0 {H : Hp} {a : Addr} (hf : ∀ a o, W.F a = some o → W'.F a = some o) (hm : ∀ (i : Nat) a, W.m[i]? = some a → W'.m[i]? = some a) : ∀ {c : Cell}, CellAt K W H a c → CellAt K W' H a c
  | .lst _, ⟨vs, e, r⟩ => ⟨vs, e, r.mono0 hf hm⟩
  | .ins _ _, ⟨dx, vfs, e, k, r⟩ => ⟨dx, vfs, e, k, r.mono0 hf hm⟩
  | .dT _, ⟨vk, e, k, r⟩ => ⟨vk, e, k, r.mono0 hf hm⟩
  | .dK _, ⟨vk, e, k, r⟩ => ⟨vk, e, k, r.mono0 hf hm⟩
  | .tab _, ⟨ps, e, k, r⟩ => ⟨ps, e, k, fun p v z => (r p v z).imp fun c ⟨z1, z2⟩ => ⟨z1, hf _ _ z2⟩⟩
variable {S : Store} {H : Hp}
theorem Good.other (g : Good K W S H) {P : Hp} {sf : Option Addr} (h : ∀ a o, P a = some o → W.P a = some o) : Good K ⟨W.F, W.m, P, sf⟩ S H where
  sub := g.sub
  len := g.len
  cell := fun i c e => by
    obtain ⟨a, e1, e2, e3, e4⟩ := g.cell i c e
    refine ⟨a, e1, e2, ?_, CellAt.mono0 (W := W) (W' := ⟨W.F, W.m, P, sf⟩) (fun _ _ h => h) (fun _ _ h => h) e4⟩
    show P a = none
    cases q : P a with
    | none => rfl
    | some o => rw [h a o q] at e3; cases e3
  inj := g.inj
  prv := fun a o e => g.prv a o (h a o e)
  ptup := fun a xs e => g.ptup a xs (h a _ e)
theorem Good.skip (g : Good K W S H) {p : Addr} {o : HO} (n : H p = none) : Good K W S (upd H p o) where
  sub := fun a u e => by rw [upd_ne (ne_of_none (g.sub a u e) n)]; exact g.sub a u e
  len := g.len
  cell := fun i c e => by
    obtain ⟨a, e1, e2, e3, e4⟩ := g.cell i c e
    obtain ⟨u, q⟩ := e4.there
    exact ⟨a, e1, e2, e3, e4.eqH (upd_ne (ne_of_none q n))⟩
  inj := g.inj
  prv := fun a u e => by
    obtain ⟨h1, h2⟩ := g.prv a u e
    exact ⟨by rw [upd_ne (ne_of_none h1 n)]; exact h1, h2⟩
  ptup := g.ptup
end
structure Ini (K : PySem.W.Frag) (c : Str) (W : Wd) (fs : List (Str × D)) (P0 : Hp) (a dx : Addr) : Prop where
  sf : W.sf = some a
  n : P0 a = none
  p : ∃ vfs, W.P = upd P0 a (.ins (He.ga K c) dx vfs) ∧ vfs.map (·.1) = fs.map (·.1) ∧ Reps K W (fs.map (·.2)) (vfs.map (·.2))
inductive FlI where
  | nx (δ : En) (fs : List (Str × D)) (S : Store)
  | exc (x : Xc) (S : Store)
  | bad
abbrev MI := En → List (Str × D) → Store → FlI
def iP (K : PySem.W.Frag) (c : Str) (P0 : Hp) (a dx : Addr) (W : Wd) (r : FlI) (Wx : WX) (E : Ends) : Prop := match r with
  | .nx δ fs S => ∀ W' H' σ, W.lf W' → Good K W' S H' → REnv K W' δ σ → Ini K c W' fs P0 a dx → E.nx σ H'
  | .exc x S => ∀ W' H' σ cls d, W.lf W' → Good K W' S H' → (∃ o, W'.P = upd P0 a o) → XRep K W' x cls d → Wx cls d σ H'
  | .bad => False
def tI (K : PySem.W.Frag) (Wx : WX) (c : Str) (m : MI) : TS := fun E σ H => ∃ W S δ a dx fs P0, Good K W S H ∧ REnv K W δ σ ∧ Ini K c W fs P0 a dx ∧ iP K c P0 a dx W (m δ fs S) Wx E
end Ev
namespace EvZ
open PySem PySem.Spec PySem.SeqAt L2 PyProof.Rows
section
variable {prog : Program} {w : World} {A : Around} {E : Value → Shared → Prop} {s : Shared}
structure Sr where
  tp : Bool
  it : Addr
  l : Addr
  xs : List Value
end
end EvZ
namespace Ev
open PySem PySem.Spec PySem.SeqAt L2 PyProof.Rows EvZ
def frzs : List D → Option (List (List D))
  | [] => some []
  | d :: ds => match frz d, frzs ds with
    | some x, some xs => some (x :: xs)
    | _, _ => none
section
variable {K : PySem.W.Frag} {W : Wd}
def zipD (xss : List (List D)) (n : Nat) : List D := (List.range n).map fun i => .tup (xss.map (·.getD i .non))
def pZip (ds : List D) : Option (List D) := match frzs ds with
  | some (x :: xss) => if xss.length < 9 ∧ ∀ y ∈ xss, y.length = x.length then some (zipD (x :: xss) x.length) else none
  | _ => none
end
section
variable {X : Cx} {Wx : WX} {a b c e tg : Expr} {ma mb mc m : ME} {pos : Pos}
def iZip (mas : MA) : MA := fun δ => M.bind (mas δ) fun ds S => match pZip ds with
  | some zs => .ok zs S
  | none => .bad
end
end Ev
namespace Ev
open PySem PySem.Spec PySem.SeqAt L2 PyProof.Rows
def BindK (K : PySem.W.Frag) (fd : FuncData) (ps ks : List Str) : Prop :=
  ∀ (s : Shared) (us ws : List Value), us.length + ks.length = ps.length → ws.length = ks.length → BindsTo s fd ⟨us, ks.zip ws⟩ (ps.zip (us ++ ws))
theorem bindK_of {K : PySem.W.Frag} {x qual : Str} {params : Arguments} {body : List Stmt} {scope : Scope} {f : Addr} {fd : FuncData} {ps ks : List Str} (F : FunD K x qual params body scope [] [] f fd)
    (h : ∀ (kV doc pm : Value) (an : Option Addr) (cdv ct : Value) (us ws : List Value), us.length + ks.length = ps.length → ws.length = ks.length → bindArgs (PySem.W.fnOf x qual params body scope .none kV doc pm an cdv ct) ⟨us, ks.zip ws⟩ = pure (ps.zip (us ++ ws))) : BindK K fd ps ks := by
  obtain ⟨oc, od, dV, kV, doc, pm, an, cdv, ct, osl, rfl, lk, hcd, hD, hK⟩ := F.ex
  rcases hD with ⟨_, rfl⟩ | ⟨e, _⟩
  · exact fun s us ws h1 h2 => .of_eq (h kV doc pm an cdv ct us ws h1 h2)
  · exact absurd rfl e
theorem paired_append {α β : Type} {F : α → β → Prop} : ∀ {xs : List α} {us : List β} {ys : List α} {ws : List β}, Paired F xs us → Paired F ys ws → Paired F (xs ++ ys) (us ++ ws)
  | _, _, _, _, .nil, h => h
  | _, _, _, _, .cons a t, h => .cons a (paired_append t h)
section
variable {P : Program} {w : World} {K : PySem.W.Frag} {mg : Str → Option Value} {base : Heap}
theorem calG_fn {k n : Nat} {f : Addr} {fd : FuncData} {ps ks : List Str} {m : List D → M D} (F : FnG P w K mg base k f fd ps (spM K n m)) (hb : BindK K fd ps ks) (hn : n = ps.length) (hm : ∀ ds S, ds.length ≠ n → m ds S = .bad) : CalG P w K mg base k f ks m := by
  intro X Wx e1 e2 e3 e4 e5 hr hg tk
  subst e1 e2 e3 e4 e5
  intro pins s σ H vs zs us ws Q I r1 r2 hl ⟨W, S, ds, es, g, q1, q2, p⟩
  dsimp only at p
  by_cases hlen : (ds ++ es).length = n
  · have l1 : ds.length = us.length := q1.length.trans (Paired.length r1)
    have l2 : ws.length = ks.length := (Paired.length r2).symm.trans hl
    have l3 : es.length = ks.length := q2.length.trans hl
    have hv : (vs ++ zs).length = n := by rw [← hlen]; simp [q1.length, q2.length]
    have want : spM X.K n m (vs ++ zs) H Q (fun cls d H' => Wx cls d σ H') := ⟨hv, W, S, ds ++ es, g, q1.append q2, by
      cases e5 : m (ds ++ es) S with
      | ok d S' => rw [e5] at p; exact p
      | exc x S' => rw [e5] at p; exact p
      | bad => rw [e5] at p; exact p⟩
    refine wpAny_call (codeAny_mono (F.run X.A hg X.stack s H ⟨us, ks.zip ws⟩ (us ++ ws) (vs ++ zs) Q _ hr I.env0 (hb s us ws (by rw [← hn, ← hlen]; simp [l1, l3]) l2) (paired_append r1 r2) want) fun res s' hq => ?_)
    cases res with
    | error ex => exact tk ex s' (L2N.XE.of_call (W := Wx) I (fun cls d H' h => h) hq)
    | ok fl =>
      cases fl with
      | ret u => exact I.after hq
      | next => exact hq.elim
      | brk => exact hq.elim
      | cont => exact hq.elim
  · rw [hm _ S hlen] at p
    exact p.elim
def startD (nN : Nat) (ds : List D) : En := ds.map some ++ List.replicate (nN - ds.length) none
theorem renv_start {W : Wd} {N : List Str} {ds : List D} {vs : List V} (r : Reps K W ds vs) : REnv K W (startD N.length ds) (L2.start N vs) := by
  refine ⟨by simp [startD, L2.start, r.length], fun i d e => ?_⟩
  unfold startD at e
  unfold L2.start
  by_cases h : i < ds.length
  · rw [List.getElem?_append_left (by simpa using h)] at e
    simp only [List.getElem?_map, Option.map_eq_some_iff] at e
    obtain ⟨d', e1, e2⟩ := e
    cases e2
    obtain ⟨v, h1, h2⟩ := r.get e1
    refine ⟨v, ?_, .inl h2⟩
    rw [List.getElem?_append_left (by simpa [← r.length] using h)]
    simp [h1]
  · rw [List.getElem?_append_right (by simpa using h)] at e
    rw [List.getElem?_replicate] at e
    split at e <;> cases e
def funM (nN n : Nat) (m : MS) : List D → M D := fun ds S => if ds.length = n then (match m (startD nN ds) S with
  | .rt d S' => .ok d S'
  | .nx _ S' => .ok .non S'
  | .exc x _ S' => .exc x S'
  | _ => .bad) else .bad
theorem funM_len {nN n : Nat} {m : MS} (ds : List D) (S : Store) (h : ds.length ≠ n) : funM nN n m ds S = .bad := by unfold funM; rw [if_neg h]
def FB (P : Program) (w : World) (K : PySem.W.Frag) (mg : Str → Option Value) (base : Heap) (k : Nat) (N : List Str) (qual : Str) (scope : Scope) (body : List Stmt) (m : MS) : Prop :=
  ∀ (f : Addr) (cdv : Value) (A : Around) (outer : List Env) (s : Shared) (H : Hp) (E : XK), A.guards = some [] → Room k (A.deeper (envOfC qual scope s.heap.objs.size f cdv)) →
    SB (cxOf (L2N.CX P w) P w K mg base N qual scope f cdv A outer s H E) (fun cls d _ H' => E cls d H') body m
theorem fnG_body {k : Nat} {f : Addr} {name qual : Str} {params : Arguments} {body : List Stmt} {scope : Scope} {fd : FuncData} {N ps : List Str} {m : MS}
    (F : FunD K name qual params body scope [] [] f fd) (Sc : FnScope N ps scope) (B : FB P w K mg base k N qual scope body m) : FnG P w K mg base (k + 1) f fd ps (spM K ps.length (funM N.length ps.length m)) := by
  refine fnG_of F Sc (fun vs H Q E h => h.1) fun cdv A outer s H vs Q E hg hr ⟨hl, W, S, ds, g, r, p⟩ => ⟨_, B f cdv A outer s H E hg hr, W, S, startD N.length ds, g, renv_start r, ?_⟩
  have hd : ds.length = ps.length := r.length.trans hl
  unfold funM at p
  rw [if_pos hd] at p
  cases e : m (startD N.length ds) S with
  | rt d S' => rw [e] at p; exact p
  | nx δ S' => rw [e] at p; exact fun W' H' σ l g' _ => p W' H' .non l g' .non
  | exc x δ S' => rw [e] at p; exact fun W' H' σ cls d l g' _ x' => p W' H' cls d l g' x'
  | bk δ S' => rw [e] at p; exact p.elim
  | ct δ S' => rw [e] at p; exact p.elim
  | bad => rw [e] at p; exact p.elim
end
end Ev
namespace Ev
open PySem PySem.Spec PySem.SeqAt L2 PyProof.Rows
section
variable {X : Cx} {Wx : WX} {a b c e o tg : Expr} {es : List Expr} {ma mb mc m mo : ME} {mas mks : MA} {pos p : Pos}
def anyOf : D → Option (List D)
  | .lst ds => some ds
  | .tup ds => some ds
  | .str z => some (signs z)
  | _ => none
def iAny (m : ME) : MA := fun δ => M.bind (m δ) fun d S => match anyOf d with
  | some ds => .ok ds S
  | none => .bad
theorem si_any (h : SE X Wx e m) : SI X Wx tg e (iAny m) := by
  refine ⟨fun pins s σ H R I ⟨W, S, δ, g, r, hp⟩ => ?_⟩
  refine thn (h.run pins s σ H _ I ⟨W, S, δ, g, r, okP.bind (R := Rep X.K) hp⟩) fun v s1 ⟨x, H1, I1, r1, W1, S1, d, l1, g1, q1, p1⟩ => ?_
  cases e1 : anyOf d with
  | none => rw [e1] at p1; exact p1.elim
  | some ds =>
    rw [e1] at p1
    have fpk : ∀ b ∈ [s1.heap.objs.size], FpOk X pins H1 b := fun b hb => by
      have e : b = s1.heap.objs.size := by simpa using hb
      subst e
      exact I1.fpOk (Nat.le_refl _) (I1.hok.fresh (Nat.le_refl _))
    cases q1 with
    | @lst a vs ds' q r2 =>
      cases e1
      obtain rfl : v = Value.ref a := r1
      obtain ⟨its, rv, p, hz⟩ := I1.list (SqL.of (g1.sub _ _ q))
      refine wpAny_pyIter_list p.isList ⟨s1.heap.objs.size, [s1.heap.objs.size], _, _, H1, rfl, I1.kept (t' := s1.toks) fun b o e => Heap.get?_push_of_some _ e, turn_list a _, ⟨_, Heap.get?_push_size _ rfl, rfl, rfl⟩, fpk, ?_⟩
      have w := walk_list (K := X.K) (a := a) (xs := vs)
      rw [← r2.length] at w
      exact okP.pure p1 g1 (walkD_at r2 (w.mono (fun H h => SqL.of (h _ _ q)) fun _ _ _ _ _ _ y => y))
    | @tup a vs ds' q r2 =>
      cases e1
      obtain rfl : v = Value.ref a := r1
      obtain ⟨its, rv, p, hz⟩ := I1.tuple (g1.sqT q)
      refine wpAny_pyIter_tuple (show s1.heap.IsTuple a its.toArray from p) ⟨s1.heap.objs.size, [s1.heap.objs.size], _, _, H1, rfl, I1.kept (t' := s1.toks) fun b o e => Heap.get?_push_of_some _ e, turn_tuple a _, ⟨_, Heap.get?_push_size _ rfl, rfl, rfl⟩, fpk, ?_⟩
      have w := walk_tup (K := X.K) (a := a) (xs := vs)
      rw [← r2.length] at w
      refine okP.pure p1 g1 (walkD_at r2 (w.mono (fun H h => ?_) fun _ _ _ _ _ _ y => y))
      rcases q with q | q
      · exact .inl (rd_sub h q)
      · exact .inr q
    | str z =>
      cases e1
      obtain ⟨t, rfl⟩ := r1
      have wd : WalkD X.K W1 (signs z) (Its z) := by
        have w := walk_str (z := z)
        have el : (signs z).length = z.cps.size := by simp [signs]
        unfold WalkD
        rw [el]
        refine w.mono (fun _ _ => trivial) fun i H x H' hi hG y d hd W2 S2 l g => ?_
        obtain ⟨rfl, c, hc, rfl⟩ := y
        refine ⟨W2, W2.le_refl, g, ?_⟩
        have : d = .str ⟨#[c]⟩ := by
          simp only [signs, List.getElem?_map, Array.getElem?_toList, hc, Option.map_some, Option.some.injEq] at hd
          exact hd.symm
        subst this
        exact .str _
      cases ha : z.cps.all (· < 128)
      · exact wpAny_pyIter_wide ha (pi_one (tk := s1.toks) I1 _ (turn_str _ z t "str_iterator" (.inr rfl)) ⟨_, Heap.get?_push_size _ rfl, rfl, rfl⟩ (okP.pure p1 g1 wd))
      · exact wpAny_pyIter_ascii ha (pi_one (tk := s1.toks) I1 _ (turn_str _ z t "str_ascii_iterator" (.inl rfl)) ⟨_, Heap.get?_push_size _ rfl, rfl, rfl⟩ (okP.pure p1 g1 wd))
    | _ => cases e1
theorem se_gint {x : Str} {i : Int} (hg : Gl X x) (hm : ∃ t, X.mg x = some (.int i t)) (hd : (x == ("__debug__" : Str)) = false) : SE X Wx (.Name x pos) (eC (.int i)) := by
  obtain ⟨t, hm⟩ := hm
  exact se_c (v := .int i) (pe_glob hg hm ⟨t, rfl⟩ hd) fun _ => .int i
def eCal (m : List D → M D) (mas : MA) : ME := fun δ => M.bind (mas δ) m
section
variable {m : List D → M D} {x : Str} {f : Addr} {ks : List Str} {k : Nat}
theorem se_cal (hf : CalG X.prog X.w X.K X.mg X.base k f [] m) (hr : Room k X.A) (hgd : X.A.guards = some []) (tk : L2N.Takes X Wx) (hgl : Gl X x) (hm : X.mg x = some (.ref f)) (hk : PySem.W.keepIn X.K (.ref f) = true) (hdb : (x == ("__debug__" : Str)) = false) (ha : SA X Wx (e :: es) mas)
    (he : starEach (e :: es) X.env = (false, eval e X.env) :: starEach es X.env) (hpl : (backTo pos (starEach es X.env)).any (·.1) = false) : SE X Wx (.Call (.Name x p) (e :: es) [] pos) (eCal m mas) :=
  PE.imp (se_call (hf X Wx rfl rfl rfl rfl rfl hr hgd tk) hgl hm hk hdb ha he hpl) fun σ H Q ⟨W, S, δ, g, r, h⟩ => ⟨W, S, δ, g, r, by
    have : eCallF (fun ds es => m (ds ++ es)) mas aNil δ S = eCal m mas δ S := by
      simp only [eCallF, eCal, aNil, M.bind, M.pure, List.append_nil]
    rw [this]; exact h⟩
theorem se_cal0 (hf : CalG X.prog X.w X.K X.mg X.base k f [] m) (hr : Room k X.A) (hgd : X.A.guards = some []) (tk : L2N.Takes X Wx) (hgl : Gl X x) (hm : X.mg x = some (.ref f)) (hk : PySem.W.keepIn X.K (.ref f) = true) (hdb : (x == ("__debug__" : Str)) = false) : SE X Wx (.Call (.Name x p) [] [] pos) (eCal m aNil) :=
  PE.imp (se_call0 (hf X Wx rfl rfl rfl rfl rfl hr hgd tk) hgl hm hk hdb) fun σ H Q ⟨W, S, δ, g, r, h⟩ => ⟨W, S, δ, g, r, h⟩
abbrev SK (X : Cx) (Wx : WX) (kws : List Keyword) (m : MA) : Prop := PK X kws (tDA X.K Wx m)
theorem PK.imp {kws : List Keyword} {t t' : TA} (h : PK X kws t) (i : ∀ σ H Q, t' σ H Q → t σ H Q) : PK X kws t' := ⟨fun pos pins s σ H Q I q => h.run pos pins s σ H Q I (i σ H Q q)⟩
theorem sk_nil : SK X Wx [] aNil := PK.imp pk_nil fun σ H Q ⟨W, S, δ, g, r, p⟩ => okP.pure p g .nil
theorem sk_cons {kws : List Keyword} {nm : Option Str} {kp : Pos} (ha : SE X Wx e ma) (hr : SK X Wx kws mas) : SK X Wx (⟨nm, e, kp⟩ :: kws) (aCons ma mas) :=
  PK.imp (pk_cons ha hr) fun σ H Q ⟨W, S, δ, g, r, p⟩ => ⟨W, S, δ, g, r, (okP.bind (R := Rep X.K) p).imp fun v H1 ⟨W1, S1, x, l1, g1, r1, p1⟩ =>
    ⟨W1, S1, δ, g1, r.mono l1, (okP.bind (R := Reps X.K) p1).imp fun vs H2 ⟨W2, S2, xs, l2, g2, r2, p2⟩ => okP.pure p2 g2 (.cons (r1.mono l2) r2)⟩⟩
theorem se_calK0 {kws : List Keyword} (hf : CalG X.prog X.w X.K X.mg X.base k f ks m) (hr : Room k X.A) (hgd : X.A.guards = some []) (tk : L2N.Takes X Wx) (hgl : Gl X x) (hm : X.mg x = some (.ref f)) (hk : PySem.W.keepIn X.K (.ref f) = true) (hdb : (x == ("__debug__" : Str)) = false) (ha : SK X Wx kws mks)
    (hall : (backToKw pos (keywordEach kws X.env)).all (·.1.isSome) = true) (hks : (backToKw pos (keywordEach kws X.env)).filterMap (·.1) = ks) (hpl : ((backTo pos (starEach [] X.env)).any (·.1) || (backToKw pos (keywordEach kws X.env)).any (·.1.isNone)) = false)
    (hn : ∀ δ S ds S', mks δ S = .ok ds S' → ds.length = ks.length) : SE X Wx (.Call (.Name x p) [] kws pos) (eCal m mks) := by
  refine ⟨fun pins s σ H Q I ⟨W, S, δ, g, r, h⟩ => ?_⟩
  refine wpAny_Call_Name_kw (ld_glob I hgl hm ?_ hdb)
  have h2 : okP X.K (Reps X.K) W (mks δ S) σ Wx (fun v H' => ∃ W' S' a, W.le W' ∧ Good X.K W' S' H' ∧ (Reps X.K W' a v ∧ a.length = ks.length) ∧ okP X.K (Rep X.K) W' (m a S') σ Wx Q) := by
    unfold eCal M.bind at h
    cases e1 : mks δ S with
    | ok ds S' =>
      rw [e1] at h
      exact fun W' H' v l g' r' => ⟨W', S', ds, l, g', ⟨r', hn _ _ _ _ e1⟩, okP.mono l h⟩
    | exc x S' => rw [e1] at h; exact h
    | bad => rw [e1] at h; exact h
  refine PySem.W.callWith_KW0 (h₀ := X.base) I.ok.mod.kin hk hall (thn (ha.run pos pins s σ H _ I ⟨W, S, δ, g, r, h2⟩) fun us s1 ⟨vs, H1, I1, rv, W1, S1, ds, l1, g1, ⟨r1, hl⟩, p1⟩ => ⟨I1.kIn, ?_⟩) hpl
  rw [hks]
  exact hf X Wx rfl rfl rfl rfl rfl hr hgd tk pins s1 σ H1 [] vs [] us Q I1 .nil rv (by rw [← r1.length]; exact hl) ⟨W1, S1, [], ds, g1, .nil, r1, p1⟩
end
mutual
def frzD : Nat → D → Store → Option (D × Store)
  | n + 1, .ref i, S => (match S[i]? with
    | some (some (.lst ds)) => (frzDs n ds (S.set i none)).map fun r => (.lst r.1, r.2)
    | _ => none)
  | n + 1, .lst ds, S => (frzDs n ds S).map fun r => (.lst r.1, r.2)
  | n + 1, .tup ds, S => (frzDs n ds S).map fun r => (.tup r.1, r.2)
  | 0, .ref _, _ => none
  | _, d, S => some (d, S)
def frzDs : Nat → List D → Store → Option (List D × Store)
  | _, [], S => some ([], S)
  | n, d :: ds, S => (frzD n d S).bind fun r => (frzDs n ds r.2).map fun q => (r.1 :: q.1, q.2)
end
def eFrz (m : ME) : ME := fun δ => M.bind (m δ) fun d => lft (frzD 4 d)
end
end Ev
namespace Ev
open PySem PySem.Spec PySem.SeqAt L2 PyProof.Rows
theorem takes_no {X : Cx} : L2N.Takes X (fun _ _ _ _ => False) := fun u s' ⟨_, _, _, _, _, _, _, _, _, _, _, _, _, _, _, _, w⟩ => w.elim
structure Ct (X : Cx) (Wx : WX) (k : Nat) : Prop where
  calm : X.calm = true
  gd : X.A.guards = some []
  room : Room k X.A
  tk : L2N.Takes X Wx
theorem Ct.blk {X : Cx} {Wx : WX} {k : Nat} (c : Ct X Wx k) {s : Shared} {H : Hp} {scope : Scope} {cenv : Env} {fp : List Addr} : Ct (X.blk s H scope cenv fp) (fun _ _ _ _ => False) k := ⟨c.calm, c.gd, c.room, takes_no⟩
theorem Ct.hu {X : Cx} {Wx : WX} {k : Nat} (c : Ct X Wx k) : X.A.units + 64 < cLine := by have := c.room.un; omega
theorem ct_of {P : Program} {w : World} {K : PySem.W.Frag} {mg : Str → Option Value} {base : Heap} {k : Nat} {N : List Str} {qual : Str} {scope : Scope} {f : Addr} {cdv : Value} {A : Around} {outer : List Env} {s : Shared} {H : Hp} {E : XK}
    (hg : A.guards = some []) (hr : Room k (A.deeper (envOfC qual scope s.heap.objs.size f cdv))) : Ct (cxOf (L2N.CX P w) P w K mg base N qual scope f cdv A outer s H E) (fun cls d _ H' => E cls d H') k := ⟨rfl, hg, hr, L2N.takes_of rfl rfl rfl rfl⟩
theorem po_of {P : Program} {w : World} {K : PySem.W.Frag} {mg : Str → Option Value} {base : Heap} {N : List Str} {qual : Str} {scope : Scope} {f : Addr} {cdv : Value} {A : Around} {outer : List Env} {s : Shared} {H : Hp} {E : XK} :
    PassesOwn (model P w) (cxOf (L2N.CX P w) P w K mg base N qual scope f cdv A outer s H E).A (cxOf (L2N.CX P w) P w K mg base N qual scope f cdv A outer s H E).env (cxOf (L2N.CX P w) P w K mg base N qual scope f cdv A outer s H E).xe := passes_of rfl
section
variable {X : Cx} {Wx : WX} {a b c e o tg : Expr} {es : List Expr} {ma mb mc m mo mi : ME} {mas mks : MA} {pos p : Pos} {k : Nat} {x : Str}
theorem nB {id : String} {g : List D → PO} (hc : CallR X (.builtin id) (rDC X.K g)) (hm : X.mg x = none) (hv : bootBuiltins x = some (.builtin id)) (ha : SA X Wx (e :: es) mas) (hg : Gl X x := by rfl) (hn : x ≠ "__name__" := by decide) (hdb : (x == ("__debug__" : Str)) = false := by decide)
    (he : starEach (e :: es) X.env = (false, eval e X.env) :: starEach es X.env := by rfl) (hpl : (backTo pos (starEach es X.env)).any (·.1) = false := by rfl) : SE X Wx (.Call (.Name x p) (e :: es) [] pos) (eCallV g mas) :=
  PE.imp (pe_callB hc hg hm hv ha hn hdb he hpl) tCB_of
theorem nT {T : String} {g : List D → PO} (hc : CallR X (.type T) (rDC X.K g)) (hm : X.mg x = none) (hv : bootBuiltins x = some (.type T)) (ha : SA X Wx (e :: es) mas) (hg : Gl X x := by rfl) (hn : x ≠ "__name__" := by decide) (hdb : (x == ("__debug__" : Str)) = false := by decide)
    (he : starEach (e :: es) X.env = (false, eval e X.env) :: starEach es X.env := by rfl) (hpl : (backTo pos (starEach es X.env)).any (·.1) = false := by rfl) : SE X Wx (.Call (.Name x p) (e :: es) [] pos) (eCallV g mas) :=
  PE.imp (pe_callTy hc hg hm hv ha hn hdb he hpl) tCB_of
theorem nVar (i : Nat) (hN : X.N[i]? = some x := by rfl) (hv : Vis X.env.scope x := by first | exact .inl rfl | exact .inr (.inl rfl) | exact .inr (.inr rfl)) (hd : (x == ("__debug__" : Str)) = false := by rfl) (hcd : (x == ("__classdict__" : Str)) = false := by rfl) : SE X Wx (.Name x pos) (eVar i) := se_var hN hv hd hcd
theorem nCons (ha : SE X Wx e ma) (hr : SA X Wx es mas) (hs : starEach (e :: es) X.env = (false, eval e X.env) :: starEach es X.env := by rfl) : SA X Wx (e :: es) (aCons ma mas) := sa_cons ha hr hs
theorem nInt {x : Str} {i : Int} (hm : ∃ t, X.mg x = some (.int i t)) (hg : Gl X x := by rfl) (hd : (x == ("__debug__" : Str)) = false := by rfl) : SE X Wx (.Name x pos) (eC (.int i)) := se_gint hg hm hd
theorem nCmp {op : CmpOp} {f : D → D → PO} (ho : OpR X (compareOp op) (rD2 X.K f)) (ha : SE X Wx a ma) (hb : SE X Wx b mb) (hm : behindInMarks op b = false := by rfl) : SE X Wx (.Compare a [op] [b] pos) (eOp f ma mb) := se_cmp ho ha hb hm
theorem nCmpT {op : CmpOp} {f : D → D → PO} (ho : OpR X (compareOp op) (rD2 X.K f)) (ha : SE X Wx a ma) (hb : SE X Wx b mb) (hm : behindInMarks op b = false := by rfl) : ST X Wx (.Compare a [op] [b] pos) (fun δ => asB (eOp f ma mb δ)) := st_cmp ho ha hb hm
theorem nTru (ha : SE X Wx a ma) (he : ∀ whole, isTrue a X.env whole = (do let v ← whole; standAt a.pos; holding [v] (truthy v)) := by intro _; rfl) : ST X Wx a (fun δ => tru (ma δ)) := st_truth ha he
theorem nIx {i : Expr} (ho : SE X Wx o mo) (hi : SE X Wx i mi) (hs : PlainIx i := by intro _ _; rfl) : SE X Wx (.Subscript o i pos) (eOp pIx mo mi) := se_ix ho hi hs
theorem sw_st {ta : MT} (h : SW X Wx a ta) : ST X Wx a ta := PW.pt h
theorem nCal {f : Addr} {m : List D → M D} (C : Ct X Wx k) (hf : CalG X.prog X.w X.K X.mg X.base k f [] m) (hm : X.mg x = some (.ref f)) (hk : PySem.W.keepIn X.K (.ref f) = true) (ha : SA X Wx (e :: es) mas) (hgl : Gl X x := by rfl) (hdb : (x == ("__debug__" : Str)) = false := by rfl)
    (he : starEach (e :: es) X.env = (false, eval e X.env) :: starEach es X.env := by rfl) (hpl : (backTo pos (starEach es X.env)).any (·.1) = false := by rfl) : SE X Wx (.Call (.Name x p) (e :: es) [] pos) (eCal m mas) := se_cal hf C.room C.gd C.tk hgl hm hk hdb ha he hpl
theorem nCal0 {f : Addr} {m : List D → M D} (C : Ct X Wx k) (hf : CalG X.prog X.w X.K X.mg X.base k f [] m) (hm : X.mg x = some (.ref f)) (hk : PySem.W.keepIn X.K (.ref f) = true) (hgl : Gl X x := by rfl) (hdb : (x == ("__debug__" : Str)) = false := by rfl) : SE X Wx (.Call (.Name x p) [] [] pos) (eCal m aNil) := se_cal0 hf C.room C.gd C.tk hgl hm hk hdb
theorem aCons_len {ma : ME} {mas : MA} {n : Nat} (h : ∀ δ S ds S', mas δ S = .ok ds S' → ds.length = n) : ∀ δ S ds S', aCons ma mas δ S = .ok ds S' → ds.length = n + 1 := fun δ S ds S' e => by
  unfold aCons M.bind at e
  cases e1 : ma δ S with
  | bad => rw [e1] at e; cases e
  | exc x S1 => rw [e1] at e; cases e
  | ok d S1 =>
    rw [e1] at e
    cases e2 : mas δ S1 with
    | bad => simp only [e2] at e; cases e
    | exc x S2 => simp only [e2] at e; cases e
    | ok ds2 S2 =>
      simp only [e2, M.pure, Res.ok.injEq] at e
      obtain ⟨rfl, rfl⟩ := e
      simp [h _ _ _ _ e2]
theorem aNil_len : ∀ δ S ds S', aNil δ S = .ok ds S' → ds.length = 0 := fun δ S ds S' e => by
  unfold aNil M.pure at e
  cases e
  rfl
theorem nCalK0 {f : Addr} {m : List D → M D} {ks : List Str} {kws : List Keyword} (C : Ct X Wx k) (hf : CalG X.prog X.w X.K X.mg X.base k f ks m) (hm : X.mg x = some (.ref f)) (hk : PySem.W.keepIn X.K (.ref f) = true) (ha : SK X Wx kws mks) (hn : ∀ δ S ds S', mks δ S = .ok ds S' → ds.length = ks.length) (hgl : Gl X x := by rfl) (hdb : (x == ("__debug__" : Str)) = false := by rfl)
    (hall : (backToKw pos (keywordEach kws X.env)).all (·.1.isSome) = true := by rfl) (hks : (backToKw pos (keywordEach kws X.env)).filterMap (·.1) = ks := by rfl) (hpl : ((backTo pos (starEach [] X.env)).any (·.1) || (backToKw pos (keywordEach kws X.env)).any (·.1.isNone)) = false := by rfl) :
    SE X Wx (.Call (.Name x p) [] kws pos) (eCal m mks) := se_calK0 hf C.room C.gd C.tk hgl hm hk hdb ha hall hks hpl hn
theorem nMb {T id : String} {nm : Str} {f : D → List D → PO} {apos : Pos} (pa : PlainAttrs T) (slot : Slot T nm id) (hty : typeOf (.builtin id) = pure (.type "method_descriptor")) (hm : MtR X id (rDM X.K f)) (ho : SE X Wx o mo) (ha : SA X Wx (e :: es) mas)
    (hbase : attributeBase o nm X.env (eval o X.env) = eval o X.env := by rfl)
    (hfew : ((backTo pos (starEach (e :: es) X.env)).all (fun x => !x.1) && (backToKw pos (keywordEach [] X.env)).all (fun x => x.1.isSome)
      && decide ((e :: es).length + ([] : List Keyword).length + (if ([] : List Keyword).isEmpty then 0 else 1) < 30)) = true := by rfl)
    (hline : (apos.endLine == pos.line) = true := by rfl) (hs : starEach (e :: es) X.env = (false, eval e X.env) :: starEach es X.env := by rfl) (hpl : (backTo pos (starEach es X.env)).any (·.1) = false := by rfl) :
    SE X Wx (.Call (.Attribute o nm apos) (e :: es) [] pos) (eMB T f mo mas) := se_mb pa slot hty hm ho ha hbase hfew hline hs hpl
variable {st : Stmt} {sts : List Stmt} {ms mt : MS}
theorem nSet (i : Nat) {y : Str} {pos' : Pos} (he : SE X Wx e m) (hN : X.N.Nodup) (hi : X.N[i]? = some y := by rfl) (hx : Loc X.env.scope y := by first | exact .inl rfl | exact .inr rfl) (hs : swapsWith e (some (.Name y pos')) pos.line X.env = pure false := by rfl) (hf : X.fn y = true ∨ X.env.scope.names.lookup y = some .local := by first | exact .inl rfl | exact .inr rfl) : SS X Wx (.Assign [.Name y pos'] e pos) (sAsg m (gNm i)) :=
  ss_set hN hi hx he hs hf
theorem nAsg {mg : TGM} (he : SE X Wx e m) (hg : SG X tg mg) (hs : swapsWithSole [tg] e pos.line X.env = pure false := by rfl) (hw : swappedStores [tg] e X.env = pure none := by rfl) (h1 : (assignEach [tg] X.env).map (·.2) = [assign tg X.env] := by rfl) : SS X Wx (.Assign [tg] e pos) (sAsg m mg) := ss_asg he hg hs hw h1
theorem nPar2 (i j : Nat) {x y : Str} {px py pt : Pos} {kt k2 : Nat} {pt2 : Pos} (C : Ct X Wx k) (hN : X.N.Nodup) (ha : SA X Wx [a, b] mas) (hi : X.N[i]? = some x := by rfl) (hj : X.N[j]? = some y := by rfl) (hij : i ≠ j := by decide)
    (hx : X.env.scope.names.lookup x = some .local := by rfl) (hy : X.env.scope.names.lookup y = some .local := by rfl)
    (hw : swappedStores [.Tuple [.Name x px, .Name y py] kt pt] (.Tuple [a, b] k2 pt2) X.env = pure (some [x, y]) := by rfl) :
    SS X Wx (.Assign [.Tuple [.Name x px, .Name y py] kt pt] (.Tuple [a, b] k2 pt2) pos) (sPar2 i j mas) := ss_par2 C.calm hN hi hj hij hx hy ha hw
theorem nFor {iter : Expr} {body : List Stmt} {mi : MA} {mg : TGM} {mb : MS} (C : Ct X Wx k) (hp : PassesOwn (model X.prog X.w) X.A X.env X.xe) (hi : SI X Wx tg iter mi) (hg : SG X tg mg) (hb : SB X Wx body mb) (hs : ∀ x, foldedSetIterable iter X.env x = pure x := by intro _; rfl) : SS X Wx (.For tg iter body [] pos) (sFor mi mg mb) :=
  ss_for hp C.calm hi hg hb hs
theorem gName (i : Nat) (hN : X.N.Nodup) (hi : X.N[i]? = some x := by rfl) (hx : Loc X.env.scope x := by first | exact .inl rfl | exact .inr rfl) (hf : X.fn x = true ∨ X.env.scope.names.lookup x = some .local := by first | exact .inl rfl | exact .inr rfl) : SG X (.Name x pos) (gNm i) := sg_name hN hi hx hf
theorem gTup {kk n : Nat} {ms : TGMs} (C : Ct X Wx k) (h : SGs X es ms) (hn : (assignEach es X.env).length = n := by rfl) (hst : (assignEach es X.env).findIdx? (·.1) = none := by rfl) : SG X (.Tuple es kk pos) (gTp n ms) := sg_tup C.calm h hn hst
theorem gCons {m : TGM} {ms : TGMs} (h1 : SG X e m) (h2 : SGs X es ms) (hs : (assignEach (e :: es) X.env).map (·.2) = assign e X.env :: (assignEach es X.env).map (·.2) := by rfl) : SGs X (e :: es) (gCs m ms) := sgs_cons h1 h2 hs
theorem gSub {o i : Expr} {mo mi : ME} {f : PSt} (Wx : WX) (ho : SE X Wx o mo) (hi : SE X Wx i mi) (hs : PSet X (tDSet X.K f)) (ha : ∀ v, assign (.Subscript o i pos) X.env v = (do
      let ov ← holding [v] (eval o X.env)
      let iv ← holding [v, ov] (eval i X.env)
      standAt pos
      holding [v, ov, iv] (setItem ov iv v)
      release [v, ov, iv] []) := by intro _; rfl) : SG X (.Subscript o i pos) (gSb f mo mi) := sg_sub ho hi hs ha
theorem uName (i : Nat) (hN : X.N.Nodup) (hi : X.N[i]? = some x := by rfl) (hx : Loc X.env.scope x := by first | exact .inl rfl | exact .inr rfl) (hf : X.fn x = true ∨ X.env.scope.names.lookup x = some .local := by first | exact .inl rfl | exact .inr rfl) : PG X (.Name x pos) (tDU X.K (uNm i)) := su_name hN hi hx hf
def tYesM : MT := fun _ => M.pure true
theorem ptsNil : PTs X [] (tDT X.K Wx tYesM) := ⟨fun pins s σ H Q I ⟨W, S, δ, g, r, p⟩ => pts_nil.run pins s σ H Q I (okP.pure p g rfl)⟩
theorem ptsOne {t : MT} (h : ST X Wx c t) : PTs X [c] (tDT X.K Wx t) := pts_one h
def iR1 (mas : MA) : MA := fun δ => M.bind (mas δ) fun ds => match ds with
    | [.int j] => if -(2 ^ 62) ≤ j ∧ j < 2 ^ 62 then M.pure (rngD 0 j.toNat) else M.bad
    | _ => M.bad
def iR2 (mas : MA) : MA := fun δ => M.bind (mas δ) fun ds => match ds with
    | [.int i, .int j] => if -(2 ^ 62) ≤ i ∧ i < 2 ^ 62 ∧ -(2 ^ 62) ≤ j ∧ j < 2 ^ 62 then M.pure (rngD i (j - i).toNat) else M.bad
    | _ => M.bad
theorem nR1 {p : Pos} (hm : X.mg "range" = none) (ha : SA X Wx [a] mas) (hg : Gl X "range" := by rfl) (hs : starEach [a] X.env = [(false, eval a X.env)] := by rfl) : SI X Wx tg (.Call (.Name "range" p) [a] [] pos) (iR1 mas) := si_range1 hg hm ha hs
theorem nLc {elt tg iter : Expr} {ifs : List Expr} {scope : Scope} (own : List (Str × Nat)) {mi : MA} {up : UpD} {mt : MT} {me : ME} {fin : List D → PO} (C : Ct X Wx k) (hf : FinOk X.K fin) (hN : X.N.Nodup) (hi : SI X Wx tg iter mi) (ok : BlkOk X.N X.env.scope scope own)
    (hg : ∀ (s : Shared) (H : Hp) (C : Addr) (cl : List (Str × Addr)) (fp : List Addr), PG (X.blk s H scope (compEnvC scope cl C X.env) fp) tg (tDU X.K up)) (ht : ∀ (s : Shared) (H : Hp) (C : Addr) (cl : List (Str × Addr)) (fp : List Addr), PTs (X.blk s H scope (compEnvC scope cl C X.env) fp) ifs (tDT X.K (fun _ _ _ _ => False) mt))
    (he : ∀ (s : Shared) (H : Hp) (C : Addr) (cl : List (Str × Addr)) (fp : List Addr), SE (X.blk s H scope (compEnvC scope cl C X.env) fp) (fun _ _ _ _ => False) elt me) (hu : ∀ d us, up d = some us → ∀ p ∈ us, p.1 ∈ own.map (·.2)) (hs : ∀ x, foldedSetIterable iter X.env x = pure x := by intro _; rfl) :
    SE X Wx (.ListComp elt [⟨tg, iter, ifs, 0⟩] scope pos) (eLc fin mi up mt me (own.map (·.2))) := se_lc hf hu C.calm hN hi ok hg ht he hs
theorem upNm {i : Nat} {l : List Nat} (h : i ∈ l := by decide) : ∀ d us, uNm i d = some us → ∀ p ∈ us, p.1 ∈ l := fun d us e p hp => by
  unfold uNm at e
  cases e
  rw [List.mem_singleton.mp hp]
  exact h
variable {cn : Str} {mI : MI}
end
theorem CalG.mono {P : Program} {w : World} {K : PySem.W.Frag} {mg : Str → Option Value} {base : Heap} {j k : Nat} {v : Addr} {ks : List Str} {m : List D → M D} (h : CalG P w K mg base j v ks m) (l : j ≤ k) : CalG P w K mg base k v ks m :=
  fun X Wx e1 e2 e3 e4 e5 hr => h X Wx e1 e2 e3 e4 e5 (hr.mono l)
theorem bt_len : bootBuiltins "len" = some (.builtin "len") := by decide +kernel
theorem bt_abs : bootBuiltins "abs" = some (.builtin "abs") := by decide +kernel
theorem bt_min : bootBuiltins "min" = some (.builtin "min") := by decide +kernel
theorem bt_max : bootBuiltins "max" = some (.builtin "max") := by decide +kernel
theorem bt_all : bootBuiltins "all" = some (.builtin "all") := by decide +kernel
theorem bt_divmod : bootBuiltins "divmod" = some (.builtin "divmod") := by decide +kernel
theorem bt_repr : bootBuiltins "repr" = some (.builtin "repr") := by decide +kernel
theorem bt_int : bootBuiltins "int" = some (.type "int") := by decide +kernel
end Ev
namespace Xm
open PySem PySem.Spec PySem.Calls PyProof.Rows L2 Ev
open Builtin Builtin.ObjectAttr
theorem bx_V : BaseX "ValueError" "ValueError.__new__" "ValueError.__init__" [.type "ValueError", .type "Exception", .type "BaseException", .type "object"] := ⟨F.excBase_ValueError, by decide +kernel, rfl, F.store_ValueError.passes⟩
theorem bx_L : BaseX "LookupError" "LookupError.__new__" "LookupError.__init__" [.type "LookupError", .type "Exception", .type "BaseException", .type "object"] := ⟨F.excBase_LookupError, by decide +kernel, rfl, F.store_LookupError.passes⟩
theorem bx_A : BaseX "ArithmeticError" "ArithmeticError.__new__" "ArithmeticError.__init__" [.type "ArithmeticError", .type "Exception", .type "BaseException", .type "object"] := ⟨F.excBase_ArithmeticError, by decide +kernel, rfl, F.store_ArithmeticError.passes⟩
section
variable {t : List Value}
end
section
variable {prog : Program} {w : World} {A : Around} {E : Value → Shared → Prop} {R : Result → Shared → Prop} {hp : Heap} {g : Array GenState} {d : Drawn} {tk0 : Nat} {os : OsState}
theorem sa_walk {K : W.Frag} {name : Str} {tk : Tok} {v : Value} {x C : Addr} {ox : Obj} {od : Option Obj} {cd : ClassData}
    (X : K.In hp) (I : W.InstAt hp x ox C od) (hcd : W.clsIn K C = some cd) (ne : cd.mro.isEmpty = false) (ob : cd.mro.contains (.type "object") = true) (ps : refuseLoop (.ref x) "__setattr__" cd.mro = pure ()) (ha : W.findIn K (.ref C) name = some none)
    (hq : wpAny (model prog w) A.in1 (storeInOwnDict (.ref x) (.ref C) (.str name tk) name v false)
      (fun fin s' => match fin with | .done f => R (.ok f) s' | .again c' => c'.quiet = true ∧ codeAny (model prog w) A c' R s') (fun e s' => R (.error e) s') ⟨hp, g, d, tk0, os⟩) :
    codeAny (model prog w) A (.call (.builtin "object.__setattr__") ⟨[.ref x, .str name tk, v], []⟩) R ⟨hp, g, d, tk0, os⟩ := by
  have S0 := F.store_object
  have hmr : W.Looks (model prog w) hp (mroOf (.ref C)) cd.mro := (W.looks_clsIn X hcd).andThen .now
  have hin : W.mroIn K C (.type "object") = some true := by
    unfold W.mroIn
    rw [hcd, Option.bind_some, if_neg (by rw [ne]; decide), ob]
  have isO : W.Looks (model prog w) hp (isInstance (.ref x) (.type "object")) true := I.type.andThen (W.looks_mroIn X hin)
  refine codeAny_call_builtin S0.slot.plain S0.entry (@W.check_slot (model prog w) _ _ ⟨hp, g, d, tk0, os⟩ "object.__setattr__" "object" "__setattr__" (.ref x) [.str name tk, v] [] _ S0.kind S0.split isO (S0.args (.ref x) (.str name tk) v) ?_)
  have noT : W.Looks (model prog w) hp (storeTaker? none) none := .now
  rw [W.osa_eq, refuse_eq]
  refine wpAny_bind (wpAny_bind (I.type.at (wpAny_bind (hmr.at ?_))))
  rw [ps]
  exact wpAny_pure (wpAny_bind (I.type.at (wpAny_bind ((W.looks_findIn X ha).at (wpAny_bind (noT.at hq))))))
theorem sa_first {K : W.Frag} {name : Str} {tk : Tok} {v : Value} {x C : Addr} {fv : Array Value} {cd : ClassData}
    (X : K.In hp) (hx : hp.get? x = some { cls := .ref C, data := .fields fv }) (hcd : W.clsIn K C = some cd) (ne : cd.mro.isEmpty = false) (ob : cd.mro.contains (.type "object") = true) (ps : refuseLoop (.ref x) "__setattr__" cd.mro = pure ()) (hh : cd.hasDict = true) (ha : W.findIn K (.ref C) name = some none)
    (hq : ∀ h' tk' dx, (∀ b o, b ≠ x → hp.get? b = some o → h'.get? b = some o) → hp.objs.size ≤ dx → dx ≠ x → h'.get? x = some { cls := .ref C, dict := some dx, data := .fields fv } →
      h'.Ns1 dx (fun y => if y = name then some v else none) → R (.ok (.ret .none)) ⟨h', g, d, tk', os⟩) :
    codeAny (model prog w) A (.call (.builtin "object.__setattr__") ⟨[.ref x, .str name tk, v], []⟩) R ⟨hp, g, d, tk0, os⟩ := by
  refine sa_walk X (ox := { cls := .ref C, data := .fields fv }) (od := none) ⟨hx, rfl, rfl, trivial⟩ hcd ne ob ps ha ?_
  have apart : x ≠ hp.objs.size := Nat.ne_of_lt (Heap.lt_size hx)
  have lc : W.Looks (model prog w) hp (classData C) cd := W.looks_clsIn X hcd
  obtain ⟨c1, c2, c3, c4, c5, hd, c7, c8, c9, c10, c11⟩ := cd
  dsimp only at hh
  subst hh
  unfold storeInOwnDict ownDictForStores
  repeat (first | with_reducible refine HandSPX.store_in_new ?_ ?_ | with_reducible refine wpAny_loadPart_at hx ?_ | with_reducible refine lc.at ?_ | wp_step)
  · exact ⟨_, #[], _, (Heap.get?_update_ne _ _ _ _ apart.symm).trans (Heap.get?_push_at rfl rfl), rfl, fun e he => absurd he (by simp), fun _ => rfl⟩
  · intro h' tk' hn' hs
    have hx1 : (hp.push { cls := .type "dict", data := .dict #[] }).get? x = some { cls := .ref C, data := .fields fv } := Heap.get?_push_of_some _ hx
    refine hq h' tk' hp.objs.size (fun b o hb ho => ?_) (Nat.le_refl _) apart.symm ((hs.2 x apart).trans (Heap.get?_update_self _ hx1 rfl)) hn'
    exact (hs.2 b (Nat.ne_of_lt (Heap.lt_size ho))).trans ((Heap.get?_update_ne _ _ _ _ hb).trans (Heap.get?_push_of_some _ ho))
theorem sa_next {K : W.Frag} {name : Str} {tk : Tok} {v : Value} {x C dx : Addr} {fv : Array Value} {cd : ClassData} {m0 : Str → Option Value} {nl : List Str}
    (X : K.In hp) (hx : hp.get? x = some { cls := .ref C, dict := some dx, data := .fields fv }) (hns : hp.Ns1 dx m0) (hw : Within m0 nl) (hz : nl.length ≤ 1000) (hcd : W.clsIn K C = some cd) (ne : cd.mro.isEmpty = false) (ob : cd.mro.contains (.type "object") = true)
    (ps : refuseLoop (.ref x) "__setattr__" cd.mro = pure ()) (hh : cd.hasDict = true) (ha : W.findIn K (.ref C) name = some none)
    (hq : ∀ h' tk', (∀ b o, b ≠ dx → hp.get? b = some o → h'.get? b = some o) → h'.Ns1 dx (fun y => if y = name then some v else m0 y) → R (.ok (.ret .none)) ⟨h', g, d, tk', os⟩) :
    codeAny (model prog w) A (.call (.builtin "object.__setattr__") ⟨[.ref x, .str name tk, v], []⟩) R ⟨hp, g, d, tk0, os⟩ := by
  obtain ⟨oD, esD, epD, hoD, hdD, _⟩ := hns.count hw
  refine sa_walk X (ox := { cls := .ref C, dict := some dx, data := .fields fv }) (od := some oD) ⟨hx, rfl, rfl, hoD⟩ hcd ne ob ps ha ?_
  have lc : W.Looks (model prog w) hp (classData C) cd := W.looks_clsIn X hcd
  obtain ⟨c1, c2, c3, c4, c5, hd, c7, c8, c9, c10, c11⟩ := cd
  dsimp only at hh
  subst hh
  unfold storeInOwnDict ownDictForStores
  repeat (first | with_reducible refine PySem.OEX.store_in_old hns hw hz ?_ | with_reducible refine wpAny_loadPart_at hx ?_ | with_reducible refine lc.at ?_ | wp_step)
  exact fun h' tk' hn' hs => hq h' tk' (fun b o hb ho => (hs.2 b hb).trans ho) hn'
end
section
variable {X : Cx} {pins : List (Addr × Obj)} {σ : L2.St} {H : Hp} {s : Shared} {a C dx : Addr} {f : Str} {y : V} {u : Value} {fs : List (Str × V)} {Q : Unit → Shared → Prop} {E : Value → Shared → Prop} {A : Around} {B newId initId : String} {t : List Value}
theorem st_first (T : OexG X.K C newId t) (BX : BaseX B newId initId t) (I : Inv X pins σ H s) (e : H a = some (exo a C none)) (hno : PySem.W.findIn X.K (.ref C) f = some none) (ry : RelV y u)
    (h : ∀ dx s', H dx = none → dx ≠ a → Inv X pins σ (upd (upd H dx (exd dx [(f, y)])) a (exo a C (some dx))) s' → Q () s') : wpAny (model X.prog X.w) A (setAttr (.ref a) f u) Q E s := by
  obtain ⟨cd, hcd, c1, c2, c3, c4⟩ := T.more BX
  obtain ⟨t1, ho⟩ := exo_at I.hok e
  obtain ⟨hp, g, d, tk, os⟩ := s
  refine PySem.W.set_plain I.kIn (ox := { cls := .ref C, dict := none, data := .fields #[.ref t1, .none, .none, .none, .bool false, .none] }) (od := none) ⟨ho, rfl, rfl, trivial⟩ T.sa ?_
  refine sa_first I.kIn ho hcd c1 c2 (c3 _) c4 hno fun h' tk' dx k dn dne hx hn => ?_
  have nD : H dx = none := I.hok.fresh dn
  have oldD : ∀ {b : Addr} {o : Obj}, hp.get? b = some o → b ≠ dx := fun {b o} q => Nat.ne_of_lt (Nat.lt_of_lt_of_le (Heap.lt_size q) dn)
  have notA : ∀ {b : Addr}, H b = none → b ≠ a := fun {b} n z => by rw [z, e] at n; cases n
  have U : Un X.fs [] H (upd (upd H dx (exd dx [(f, y)])) a (exo a C (some dx))) hp h' :=
    ⟨fun b o q n _ _ => k b o (notA n) q, fun b o q n _ _ => ⟨o.slots, k b o (notA n) q⟩, fun b o q n _ => by rw [upd_ne (notA n), upd_ne (oldD q)]; exact n,
      fun b o q _ => by
        by_cases hb : b = a
        · subst hb; exact ⟨_, hx⟩
        · exact ⟨o, k b o hb q⟩,
      fun b xs q => by rw [upd_ne (at_ne e q exo_tup), upd_ne (ne_of_none q nD)]; exact q, fun b o v q => by rw [upd_ne (at_ne e q exo_frz), upd_ne (ne_of_none q nD)]; exact q,
      fun b ps q => ⟨#[], by rw [upd_ne (at_ne e q exo_tbl), upd_ne (ne_of_none q nD), q]; simp⟩⟩
  refine h dx _ nD dne (I.un (t' := tk') U fun b o q => ?_)
  by_cases hb : b = a
  · subst hb
    rw [upd_same] at q
    cases q
    exact exo_ok hx
  · rw [upd_ne hb] at q
    by_cases hd : b = dx
    · subst hd
      rw [upd_same] at q
      cases q
      exact exd_ok hn (relO_put (fs := []) ry fun g => True.intro)
    · rw [upd_ne hd] at q
      refine (I.hok b o q).stay (fun c v hc z => k c v (fun hca => ?_) z) (fun c hc => by rw [upd_ne (at_ne e hc exo_own), upd_ne (ne_of_none hc nD)]; exact hc) fun c xs hc => by rw [upd_ne (at_ne e hc exo_tup), upd_ne (ne_of_none hc nD)]; exact hc
      rcases hc with hc | hc
      · exact hb (hc.symm.trans hca)
      · exact at_ne e hc exo_own hca
theorem st_next (T : OexG X.K C newId t) (BX : BaseX B newId initId t) (I : Inv X pins σ H s) (e : H a = some (exo a C (some dx))) (ed : H dx = some (exd dx fs)) (hl : fs.length ≤ 900) (hno : PySem.W.findIn X.K (.ref C) f = some none) (ry : RelV y u)
    (h : ∀ s', Inv X pins σ (upd H dx (exd dx ((f, y) :: fs))) s' → Q () s') : wpAny (model X.prog X.w) A (setAttr (.ref a) f u) Q E s := by
  obtain ⟨cd, hcd, c1, c2, c3, c4⟩ := T.more BX
  obtain ⟨t1, ho⟩ := exo_at I.hok e
  obtain ⟨mA, hns, rel⟩ := exd_at I.hok ed
  have hw := within_of rel
  obtain ⟨hp, g, d, tk, os⟩ := s
  obtain ⟨oD, _, _, hoD, _, _⟩ := hns.count hw
  refine PySem.W.set_plain I.kIn (ox := { cls := .ref C, dict := some dx, data := .fields #[.ref t1, .none, .none, .none, .bool false, .none] }) (od := some oD) ⟨ho, rfl, rfl, hoD⟩ T.sa ?_
  refine sa_next I.kIn ho hns hw (by rw [List.length_map]; omega) hcd c1 c2 (c3 _) c4 hno fun h' tk' k hn => ?_
  refine h _ (I.write (t' := tk') (x := dx) (e := dx) (o := exd dx ((f, y) :: fs)) (by rw [ed]; exact True.intro) (.inl rfl) k ?_ (exd_ok hn (relO_put ry rel)))
  obtain ⟨o, _, _, e', _⟩ := hn
  exact ⟨o, e'⟩
end
def tSt (K : PySem.W.Frag) (newId : String) (t : List Value) (f : Str) (to te : TE) : TS := fun D σ H => te σ H fun y H1 => to σ H1 fun x H2 => ∃ a C : Addr, x = .ref a ∧ OexG K C newId t ∧ PySem.W.findIn K (.ref C) f = some none ∧
  ((H2 a = some (exo a C none) ∧ ∀ dx, H2 dx = none → dx ≠ a → D.nx σ (upd (upd H2 dx (exd dx [(f, y)])) a (exo a C (some dx)))) ∨
    ∃ (dx : Addr) (fs : List (Str × V)), H2 a = some (exo a C (some dx)) ∧ H2 dx = some (exd dx fs) ∧ fs.length ≤ 900 ∧ D.nx σ (upd H2 dx (exd dx ((f, y) :: fs))))
theorem ps_st {X : Cx} {o e : Expr} {to te : TE} {f : Str} {p' pos : Pos} {B newId initId : String} {t : List Value} (BX : BaseX B newId initId t) (ho : PE X o to) (he : PE X e te) (hs : swapsWith e (some (.Attribute o f p')) pos.line X.env = pure false := by rfl) :
    PS X (.Assign [.Attribute o f p'] e pos) (tSt X.K newId t f to te) := by
  refine ⟨fun pins s σ H D I h => ?_⟩
  refine plainObj_wpAny_Assign_Attribute (thn (he.run pins s σ H _ I h) fun v s1 ⟨y, H1, I1, r1, q1⟩ => thn (ho.run pins s1 σ H1 _ I1 q1) fun u s2 ⟨x, H2, I2, r2, a, C, ex, T, hno, q⟩ => ?_) hs
  subst ex
  obtain rfl : u = Value.ref a := r2
  rcases q with ⟨ea, q⟩ | ⟨dx, fs, ea, ed, hl, q⟩
  · exact st_first T BX I2 ea hno r1 fun dx s' n ne J => ⟨σ, _, J, q dx n ne⟩
  · exact st_next T BX I2 ea ed hl hno r1 fun s' J => ⟨σ, _, J, q⟩
def spIni (C : Addr) (fl : List Str) : Sp := fun vs H Q _ => ∃ (a : Addr) (ws : List V), vs = .ref a :: ws ∧ ws.length = fl.length ∧ H a = some (exo a C none) ∧
  ∀ dx, H dx = none → dx ≠ a → Q .non (upd (upd H dx (exd dx (fl.zip ws).reverse)) a (exo a C (some dx)))
section
variable {P : Program} {w : World} {K : PySem.W.Frag} {mg : Str → Option Value} {base : Heap} {k : Nat} {fI C : Addr} {qual p0 p1 p2 f1 f2 : Str} {params : Arguments} {scope : Scope} {fd : FuncData} {B newId initId : String} {t : List Value}
theorem ini1 {q1 q2 q3 q4 : Pos} (BX : BaseX B newId initId t) (T : OexG K C newId t) (n1 : PySem.W.findIn K (.ref C) f1 = some none)
    (D : FunD K "__init__" qual params [.Assign [.Attribute (.Name p0 q1) f1 q2] (.Name p1 q3) q4] scope [] [] fI fd) (Sc : FnScope [p0, p1] [p0, p1] scope) (v0 : Vis scope p0) (v1 : Vis scope p1)
    (d0 : (p0 == ("__debug__" : Str)) = false) (d1 : (p1 == ("__debug__" : Str)) = false) (c0 : (p0 == ("__classdict__" : Str)) = false) (c1 : (p1 == ("__classdict__" : Str)) = false)
    (hs : ∀ env : Env, env.scope = scope → swapsWith (.Name p1 q3) (some (.Attribute (.Name p0 q1) f1 q2)) q4.line env = pure false) :
    FnG P w K mg base (k + 1) fI fd [p0, p1] (spIni C [f1]) := by
  refine fnG_of D Sc (fun vs H Q E ⟨a, ws, e, l, _⟩ => by subst e; simp [l]) fun cdv A outer s H vs Q E hg hr ⟨a, ws, e, l, hH, q⟩ => ?_
  subst e
  match ws, l with
  | [y], _ =>
    exact ⟨_, pss_one (ps_st (X := cxOf (L2N.CX P w) P w K mg base [p0, p1] qual scope fI cdv A outer s H E) BX (pe_var (i := 0) rfl v0 d0 c0) (pe_var (i := 1) rfl v1 d1 c1) (hs _ rfl)), y, rfl, .ref a, rfl, a, C, rfl, T, n1, .inl ⟨hH, fun dx n ne => q dx n ne⟩⟩
theorem ini2 {q1 q2 q3 q4 q5 q6 q7 q8 : Pos} (BX : BaseX B newId initId t) (T : OexG K C newId t) (n1 : PySem.W.findIn K (.ref C) f1 = some none) (n2 : PySem.W.findIn K (.ref C) f2 = some none)
    (D : FunD K "__init__" qual params [.Assign [.Attribute (.Name p0 q1) f1 q2] (.Name p1 q3) q4, .Assign [.Attribute (.Name p0 q5) f2 q6] (.Name p2 q7) q8] scope [] [] fI fd) (Sc : FnScope [p0, p1, p2] [p0, p1, p2] scope) (v0 : Vis scope p0) (v1 : Vis scope p1) (v2 : Vis scope p2)
    (d0 : (p0 == ("__debug__" : Str)) = false) (d1 : (p1 == ("__debug__" : Str)) = false) (d2 : (p2 == ("__debug__" : Str)) = false) (c0 : (p0 == ("__classdict__" : Str)) = false) (c1 : (p1 == ("__classdict__" : Str)) = false) (c2 : (p2 == ("__classdict__" : Str)) = false)
    (hs : ∀ env : Env, env.scope = scope → swapsWith (.Name p1 q3) (some (.Attribute (.Name p0 q1) f1 q2)) q4.line env = pure false) (hs2 : ∀ env : Env, env.scope = scope → swapsWith (.Name p2 q7) (some (.Attribute (.Name p0 q5) f2 q6)) q8.line env = pure false) :
    FnG P w K mg base (k + 1) fI fd [p0, p1, p2] (spIni C [f1, f2]) := by
  refine fnG_of D Sc (fun vs H Q E ⟨a, ws, e, l, _⟩ => by subst e; simp [l]) fun cdv A outer s H vs Q E hg hr ⟨a, ws, e, l, hH, q⟩ => ?_
  subst e
  match ws, l with
  | [y, z], _ =>
    refine ⟨_, pss_cons (ps_st (X := cxOf (L2N.CX P w) P w K mg base [p0, p1, p2] qual scope fI cdv A outer s H E) BX (pe_var (i := 0) rfl v0 d0 c0) (pe_var (i := 1) rfl v1 d1 c1) (hs _ rfl))
      (pss_one (ps_st (X := cxOf (L2N.CX P w) P w K mg base [p0, p1, p2] qual scope fI cdv A outer s H E) BX (pe_var (i := 0) rfl v0 d0 c0) (pe_var (i := 2) rfl v2 d2 c2) (hs2 _ rfl))), y, rfl, .ref a, rfl, a, C, rfl, T, n1, .inl ⟨hH, fun dx n ne => ?_⟩⟩
    refine ⟨z, rfl, .ref a, rfl, a, C, rfl, T, n2, .inr ⟨dx, [(f1, y)], upd_same, by rw [upd_ne ne, upd_same], by simp, ?_⟩⟩
    have e : upd (upd (upd H dx (exd dx [(f1, y)])) a (exo a C (some dx))) dx (exd dx [(f2, z), (f1, y)]) = upd (upd H dx (exd dx [(f2, z), (f1, y)])) a (exo a C (some dx)) := by
      funext b
      by_cases h1 : b = dx
      · subst h1
        rw [upd_same, upd_ne ne, upd_same]
      · rw [upd_ne h1]
        by_cases h2 : b = a
        · subst h2; rw [upd_same, upd_same]
        · rw [upd_ne h2, upd_ne h2, upd_ne h1, upd_ne h1]
    have := q dx n ne
    show Q .non _
    rw [e]
    exact this
end
section
variable {X : Cx} {Wx : WX} {e : Expr} {es : List Expr} {mas : MA} {pos : Pos}
theorem zip_fst : ∀ (fl : List Str) {α : Type} (vs : List α), vs.length = fl.length → (fl.zip vs).map (·.1) = fl
  | [], _, [], _ => rfl
  | f :: fl, _, v :: vs, h => by simp only [List.zip_cons_cons, List.map_cons, zip_fst fl vs (by simpa using h)]
theorem zip_snd : ∀ (fl : List Str) {α : Type} (vs : List α), vs.length = fl.length → (fl.zip vs).map (·.2) = vs
  | [], _, [], _ => rfl
  | f :: fl, _, v :: vs, h => by simp only [List.zip_cons_cons, List.map_cons, zip_snd fl vs (by simpa using h)]
end
end Xm
namespace Xm
open PySem PySem.Spec PySem.Calls PyProof.Rows L2 Ev
abbrev ClX := List Value × Option Nat × (Addr → Value → Option Addr → TS)
abbrev ExT := Str → Str → Option Bool
def ExOk (K : PySem.W.Frag) (t : ExT) : Prop := ∀ c x b, t c x = some b → PySem.W.exmOne K (.ref (He.ga K c)) (.ref (He.ga K x)) = some b
structure Cl where
  cls : List Str
  slot : Option Nat
  suite : Addr → Option Addr → Xc → MS
end Xm
namespace Xm
open PySem PySem.Spec PySem.Calls PyProof.Rows L2 Ev
structure XcC (K : PySem.W.Frag) (c : Str) : Prop where
  xf : XfC K (He.ga K c)
  cl : (PySem.W.clsIn K (He.ga K c)).isSome = true
  ha : PySem.W.findIn K (.ref (He.ga K c)) "__class__" = some (some (.builtin "object.__class__"))
  hn : PySem.W.specialIn K (.builtin "object.__class__") "__get__" = some (some (.builtin "getset_descriptor.__get__"))
  ht : PySem.W.takesIn K (.builtin "object.__class__") = some true
  hm : PySem.W.mroIn K (He.ga K c) (.type "object") = some true
theorem xcB_ok {K : PySem.W.Frag} {c : Str} (h : xcB K c = true) : XcC K c := by
  unfold xcB at h
  simp only [Bool.and_eq_true, decide_eq_true_eq] at h
  obtain ⟨h1, h2, h3, h4, h5, h6⟩ := h
  exact ⟨xfB_ok h1, h2, h3, h4, h5, h6⟩
def FlT (K : PySem.W.Frag) (t : List (Str × Str)) : Prop := ∀ p ∈ t, XcC K p.1 ∧ PySem.W.findIn K (.ref (He.ga K p.1)) p.2 = some none
def KitT (K : PySem.W.Frag) (t : List (Str × Ty × Bool)) : Prop := ∀ p ∈ t, XcC K p.1 ∧ PySem.W.kitOne K (.ref (He.ga K p.1)) (p.2.1.val K) = some p.2.2
end Xm
namespace Ev
open PySem PySem.Spec PyProof.Rows L2
theorem ex_at {K : PySem.W.Frag} {ex : List Ex} (h : (ex.all fun f => f K) = true) (i : Nat) {f : Ex} (e : ex[i]? = some f := by rfl) : f K = true := List.all_eq_true.mp h f (List.mem_of_getElem? e)
def isiT (tab : List (Ty × Ty × Bool)) (t c : Ty) : Option Bool := (tab.find? fun x => decide (x.1 = t) && decide (x.2.1 = c)).map fun x => x.2.2
theorem isi_ok {K : PySem.W.Frag} {tab : List (Ty × Ty × Bool)} {cs : List Str} (h1 : kitB tab K = true) (h2 : ownB cs K = true) (h3 : (tab.all fun x => match x.1 with
  | .own c => decide (c ∈ cs)
  | .blt _ => true) = true) : IsiOk K (isiT tab) := by
  have key : ∀ t c b, isiT tab t c = some b → (t, c, b) ∈ tab := fun t c b e => by
    unfold isiT at e
    obtain ⟨x, e1, e2⟩ := Option.map_eq_some_iff.mp e
    have hm := List.mem_of_find?_eq_some e1
    have hp := List.find?_some e1
    simp only [Bool.and_eq_true, decide_eq_true_eq] at hp
    obtain ⟨rfl, rfl⟩ := hp
    subst e2
    exact hm
  refine ⟨fun t c b e => ?_, fun c d b e => ?_⟩
  · exact of_decide_eq_true (List.all_eq_true.mp h1 _ (key t c b e))
  · have hc : c ∈ cs := of_decide_eq_true (List.all_eq_true.mp h3 _ (key _ d b e))
    have h := List.all_eq_true.mp h2 c hc
    simp only [Bool.and_eq_true, decide_eq_true_eq] at h
    obtain ⟨a1, a2, a3, a4, a5⟩ := h
    exact ⟨He.cls_ok a1, a2, a3, a4, a5⟩
end Ev
namespace Ev
open PySem L2
section
variable {S S1 S2 : Store} {i j : Int} {xs ys ds : List D} {δ : En} {m ma mb : ME} {d x y : D}
theorem pAdd_ii : pAdd (.int i) (.int j) S = some (.int (i + j), S) := rfl
theorem pSub_ii : pSub (.int i) (.int j) S = some (.int (i - j), S) := rfl
theorem pMul_ii (h : mulOk i j = true) : pMul (.int i) (.int j) S = some (.int (i * j), S) := by
  unfold pMul
  simp only [h, if_true]
theorem mul_l (h1 : -(2 ^ 64) < i) (h2 : i < 2 ^ 64) : mulOk i j = true := by
  unfold mulOk
  simp only [Bool.or_eq_true, decide_eq_true_eq]
  exact .inl ⟨h1, h2⟩
theorem mul_r (h1 : -(2 ^ 64) < j) (h2 : j < 2 ^ 64) : mulOk i j = true := by
  unfold mulOk
  simp only [Bool.or_eq_true, decide_eq_true_eq]
  exact .inr ⟨h1, h2⟩
theorem pMod_ii (h : 0 < j) : pMod (.int i) (.int j) S = some (.int (i % j), S) := by
  simp only [pMod, pInt2, h, decide_true, if_true]
theorem pFdiv_ii (h : 0 < j) (h2 : j < 1073741824) : pFdiv (.int i) (.int j) S = some (.int (i / j), S) := by
  simp only [pFdiv, pInt2, h, h2, and_self, decide_true, if_true]
theorem pLt_ii : pLt (.int i) (.int j) S = some (.bl (decide (i < j)), S) := rfl
theorem pLe_ii : pLe (.int i) (.int j) S = some (.bl (decide (i ≤ j)), S) := rfl
theorem pGt_ii : pGt (.int i) (.int j) S = some (.bl (decide (j < i)), S) := rfl
theorem pGe_ii : pGe (.int i) (.int j) S = some (.bl (decide (j ≤ i)), S) := rfl
theorem pEq_ii : pEq (.int i) (.int j) S = some (.bl (i == j), S) := by
  simp [pEq, eqD, toPS, PyData.depth, PyData.eqv]
theorem pNe_ss {a b : Str} : pNe (.str a) (.str b) S = some (.bl (!(a == b)), S) := by
  simp [pNe, eqD, toPS, PyData.depth, PyData.eqv]
theorem atI_nat {α : Type} {xs : List α} {k : Nat} (h : k < xs.length) : atI xs (k : Int) = some xs[k] := by
  have h0 : (0 : Int) ≤ k := Int.natCast_nonneg k
  have h1 : (k : Int) < (xs.length : Int) := by omega
  simp [atI, ixN, h0, h1, h]
theorem pIx_lst {k : Nat} (h : k < xs.length) : pIx (.lst xs) (.int k) S = some (xs[k], S) := by
  simp only [pIx, seqOf, lstOf, Option.bind_some, atI_nat h, Option.map_some]
theorem pIx_scr {ns : List Int} {k : Nat} (h : k < ns.length) : pIx (.scr ns) (.int k) S = some (.int ns[k], S) := by
  have h' : k < (ns.map D.int).length := by simpa using h
  simp only [pIx, seqOf, lstOf, Option.bind_some, atI_nat h', Option.map_some, List.getElem_map]
theorem pIx_ref {t k : Nat} (hS : S[t]? = some (some (.lst xs))) (h : k < xs.length) : pIx (.ref t) (.int k) S = some (xs[k], S) := by
  simp only [pIx, seqOf, lstOf, hS, Option.bind_some, atI_nat h, Option.map_some]
theorem pLen_lst : pLen [.lst xs] S = some (.int xs.length, S) := rfl
theorem pLen_tup : pLen [.tup xs] S = some (.int xs.length, S) := rfl
theorem pLen_scr {ns : List Int} : pLen [.scr ns] S = some (.int ns.length, S) := by simp [pLen, seqOf, lstOf]
theorem pInt_i : pInt [.int i] S = some (.int i, S) := rfl
theorem pInt_b {b : Bool} : pInt [.bl b] S = some (.int (if b then 1 else 0), S) := rfl
theorem newL_ev (h : xs.length ≤ sizeLine) : newL xs S = some (.lst xs, S) := by simp only [newL, h, if_true]
theorem newT_ev (h : xs.length ≤ sizeLine) : newT xs S = some (.tup xs, S) := by simp only [newT, h, if_true]
theorem newC_ev (h : xs.length ≤ sizeLine) : newC xs S = some (.ref S.length, S ++ [some (.lst xs)]) := by simp only [newC, h, if_true]
theorem loop_inv {mg : TGM} {mb : MS} (P : Nat → En → Store → Prop) (h : ∀ k δ S, (hk : k < ds.length) → P k δ S → ∃ δ1 S1, mg ds[k] δ S = some (δ1, S1) ∧ ∃ δ2 S2, mb δ1 S1 = .nx δ2 S2 ∧ P (k + 1) δ2 S2) (h0 : P 0 δ S) :
    ∃ δ2 S2, loopF mg mb ds δ S = .nx δ2 S2 ∧ P ds.length δ2 S2 := by
  have key : ∀ (n k : Nat) (δ : En) (S : Store), k + n = ds.length → P k δ S → ∃ δ2 S2, loopF mg mb (ds.drop k) δ S = .nx δ2 S2 ∧ P ds.length δ2 S2 := by
    intro n
    induction n with
    | zero =>
      intro k δ S e p
      have : k = ds.length := by omega
      subst this
      rw [List.drop_length]
      exact ⟨δ, S, rfl, p⟩
    | succ n ih =>
      intro k δ S e p
      have hk : k < ds.length := by omega
      obtain ⟨δ1, S1, e1, δ2, S2, e2, p2⟩ := h k δ S hk p
      obtain ⟨δ3, S3, e3, p3⟩ := ih (k + 1) δ2 S2 (by omega) p2
      refine ⟨δ3, S3, ?_, p3⟩
      rw [List.drop_eq_getElem_cons hk]
      simp only [loopF, e1, e2]
      exact e3
  exact key ds.length 0 δ S (by omega) h0
theorem rng_len {n : Nat} : (rngD 0 n).length = n := by simp [rngD]
theorem rng_get {n k : Nat} (h : k < (rngD 0 n).length) : (rngD 0 n)[k] = .int k := by simp [rngD]
section
variable {S3 : Store} {z : D} {f f' : D → D → PO} {g : List D → PO} {mas : MA} {fm : List D → M D} {tc ta tb : MT} {b : Bool} {md : M D} {rd : Res D} {rb : Res Bool} {fin : List D → PO} {mi : MA} {up : UpD} {me : ME} {vs : List Nat} {mc : ME}
theorem eOp_ok (ha : ma δ S = .ok x S1) (hb : mb δ S1 = .ok y S2) (hf : f x y S2 = some (z, S3)) : eOp f ma mb δ S = .ok z S3 := by simp only [eOp, M.bind, ha, hb, lft, hf]
theorem eCallV_ok (ha : mas δ S = .ok xs S1) (hf : g xs S1 = some (z, S2)) : eCallV g mas δ S = .ok z S2 := by simp only [eCallV, M.bind, ha, lft, hf]
theorem eCal_ok (ha : mas δ S = .ok xs S1) (hf : fm xs S1 = rd) : eCal fm mas δ S = rd := by simp only [eCal, M.bind, ha, hf]
theorem aCons_ok (ha : ma δ S = .ok x S1) (hb : mas δ S1 = .ok xs S2) : aCons ma mas δ S = .ok (x :: xs) S2 := by simp only [aCons, M.bind, ha, hb, M.pure]
theorem eTup_ok (ha : mas δ S = .ok xs S1) (hl : xs.length ≤ sizeLine) : eTup mas δ S = .ok (.tup xs) S1 := by simp only [eTup, M.bind, ha, lft, newT_ev hl]
theorem eLst_ok (ha : mas δ S = .ok xs S1) (hl : xs.length ≤ sizeLine) : eLst mas δ S = .ok (.lst xs) S1 := by simp only [eLst, M.bind, ha, lft, newL_ev hl]
theorem eLstC_ok (ha : mas δ S = .ok xs S1) (hl : xs.length ≤ sizeLine) : eLstC mas δ S = .ok (.ref S1.length) (S1 ++ [some (.lst xs)]) := by simp only [eLstC, M.bind, ha, lft, newC_ev hl]
theorem asB_ok (h : md S = .ok (.bl b) S1) : asB md S = .ok b S1 := by simp only [asB, M.bind, h, M.pure]
theorem tru_ok (h : md S = .ok d S1) (ht : truD S1 d = some b) : tru md S = .ok b S1 := by simp only [tru, M.bind, h, ht]
theorem tOr_t (h : ta δ S = .ok true S1) : tOrM ta tb δ S = .ok true S1 := by simp only [tOrM, M.bind, h, cond_true, M.pure]
theorem tOr_f (h : ta δ S = .ok false S1) (h2 : tb δ S1 = rb) : tOrM ta tb δ S = rb := by simp only [tOrM, M.bind, h, cond_false, h2]
theorem eIf_t (h : tc δ S = .ok true S1) (h2 : ma δ S1 = rd) : eIf tc ma mb δ S = rd := by simp only [eIf, M.bind, h, cond_true, h2]
theorem eIf_f (h : tc δ S = .ok false S1) (h2 : mb δ S1 = rd) : eIf tc ma mb δ S = rd := by simp only [eIf, M.bind, h, cond_false, h2]
theorem eLc_ok {mt : MT} (hi : mi δ S = .ok ds S1) (hl : loopC up mt me (wipeD δ vs) ds [] S1 = .ok ys S2) (hf : fin ys S2 = some (z, S3)) : eLc fin mi up mt me vs δ S = .ok z S3 := by simp only [eLc, M.bind, hi, hl, lft, hf]
theorem eMB_ok {T : String} {f : D → List D → PO} {mo : ME} (ho : mo δ S = .ok x S1) (ht : tyD T S1 x = true) (ha : mas δ S1 = .ok xs S2) (hf : f x xs S2 = some (z, S3)) : eMB T f mo mas δ S = .ok z S3 := by simp only [eMB, M.bind, ho, ht, if_true, ha, lft, hf]
theorem eFld_ok {okf : Str → Bool} {fl c : Str} {fs : List (Str × D)} {mo : ME} (ho : mo δ S = .ok x S1) (hc : clsOf S1 x = some (c, fs)) (hk : okf c = true) (hl : fs.lookup fl = some d) : eFld okf fl mo δ S = .ok d S1 := by simp only [eFld, M.bind, ho, hc, hk, if_true, hl]
theorem eIsi_ok {isi : Ty → Ty → Option Bool} {c t : Ty} {mo : ME} (ho : mo δ S = .ok x S1) (ht : tyOf S1 x = some t) (hi : isi t c = some b) : eIsi isi c mo δ S = .ok (.bl b) S1 := by simp only [eIsi, M.bind, ho, ht, Option.bind_some, hi]
theorem iAny_ok (h : ma δ S = .ok x S1) (ha : anyOf x = some xs) : iAny ma δ S = .ok xs S1 := by simp only [iAny, M.bind, h, ha]
theorem iR1_ok {k : Nat} (h : mas δ S = .ok [.int k] S1) (hk : k < 4611686018427387904) : iR1 mas δ S = .ok (rngD 0 k) S1 := by
  have hr : -(2 ^ 62) ≤ (k : Int) ∧ (k : Int) < 2 ^ 62 := by omega
  simp only [iR1, M.bind, h]
  rw [if_pos hr, Int.toNat_natCast]
theorem iZip_ok {zs : List D} (h : mas δ S = .ok xs S1) (hz : pZip xs = some zs) : iZip mas δ S = .ok zs S1 := by simp only [iZip, M.bind, h, hz]
variable {ms mt : MS} {mg : TGM} {δ1 δ2 : En} {rf : Fl}
theorem sAsg_ok (h : ma δ S = .ok d S1) (hg : mg d δ S1 = some (δ2, S2)) : sAsg ma mg δ S = .nx δ2 S2 := by simp only [sAsg, ofE, h, hg]
theorem sRet_ok (h : ma δ S = .ok d S1) : sRet ma δ S = .rt d S1 := by simp only [sRet, ofE, h]
theorem sIf_t (h : tc δ S = .ok true S1) (h2 : ms δ S1 = rf) : sIf tc ms mt δ S = rf := by simp only [sIf, ofE, h, cond_true, h2]
theorem sIf_f (h : tc δ S = .ok false S1) (h2 : mt δ S1 = rf) : sIf tc ms mt δ S = rf := by simp only [sIf, ofE, h, cond_false, h2]
theorem sSeq_nx (h : ms δ S = .nx δ1 S1) (h2 : mt δ1 S1 = rf) : sSeq ms mt δ S = rf := by simp only [sSeq, h, h2]
theorem sSeq_rt (h : ms δ S = .rt d S1) : sSeq ms mt δ S = .rt d S1 := by simp only [sSeq, h]
theorem sFor_ok (hi : mi δ S = .ok ds S1) (hl : loopF mg ms ds δ S1 = rf) : sFor mi mg ms δ S = rf := by simp only [sFor, ofE, hi, hl]
theorem sPar2_ok {i j : Nat} (h : mas δ S = .ok [x, y] S1) : sPar2 i j mas δ S = .nx ((δ.set i (some x)).set j (some y)) S1 := by simp only [sPar2, ofE, h]
theorem funM_rt {nN n : Nat} (hl : ds.length = n) (h : ms (startD nN ds) S = .rt d S1) : funM nN n ms ds S = .ok d S1 := by simp only [funM, hl, if_true, h]
theorem gTp2_ok {g1 g2 : TGM} (h1 : g1 x δ S = some (δ1, S1)) (h2 : g2 y δ1 S1 = some (δ2, S2)) : gTp 2 (gCs g1 (gCs g2 gNl)) (.tup [x, y]) δ S = some (δ2, S2) := by
  simp only [gTp, List.length_cons, List.length_nil, gCs, h1, h2, Option.bind_some, gNl]
  rfl
theorem gSb_ok {fp : PSt} {mo mi : ME} {S4 : Store} (ho : mo δ S = .ok x S1) (hi : mi δ S1 = .ok y S2) (hf : fp x y d S2 = some S4) : gSb fp mo mi d δ S = some (δ, S4) := by
  simp only [gSb, toO, ho, hi, Option.bind_some, hf, Option.map_some]
end
end
end Ev
namespace Ev
open PySem PySem.Spec PySem.SeqAt PyProof.Rows L2
section
variable {X : Cx} {Wx : WX} {a b e : Expr} {ma mb : ME} {pos p : Pos}
def rgD (a b : Int) : List D := (List.range (b - a).toNat).map fun (i : Nat) => .int (a + i)
def rgOk (a b : Int) : Bool := decide (-(2 ^ 62) ≤ a ∧ a < 2 ^ 62 ∧ -(2 ^ 62) ≤ b ∧ b < 2 ^ 62 ∧ (b - a).toNat ≤ 2 ^ 24)
def g1 (ma : ME) : En → M (Int × Int) := fun δ => M.bind (ma δ) fun x => match x with
  | .int n => M.pure (0, n)
  | _ => M.bad
def g2 (ma mb : ME) : En → M (Int × Int) := fun δ => M.bind (ma δ) fun x => M.bind (mb δ) fun y => match x, y with
  | .int i, .int j => M.pure (i, j)
  | _, _ => M.bad
def eRg (fin : List D → PO) (m : En → M (Int × Int)) : ME := fun δ => M.bind (m δ) fun r => lft fun S => if rgOk r.1 r.2 = true then fin (rgD r.1 r.2) S else none
theorem PRg.imp {t t' : L2.St → Hp → (Int → Int → Hp → Prop) → Prop} (h : PRg X e t) (i : ∀ σ H Q, t' σ H Q → t σ H Q) : PRg X e t' := fun pins s σ H Q I q => h pins s σ H Q I (i σ H Q q)
end
end Ev
namespace Ev
open PySem PySem.Spec PySem.SeqAt L2 PyProof.Rows EvZ
section
variable {X : Cx} {Wx : WX} {tg e : Expr} {K : PySem.W.Frag} {W : Wd} {pos : Pos}
def enumD (xs : List D) : List D := (List.range xs.length).map fun i => .tup [.int (i : Nat), xs.getD i .non]
def iEnu (mas : MA) : MA := fun δ => M.bind (mas δ) fun ds S => match ds with
  | [.lst xs] => .ok (enumD xs) S
  | [.tup xs] => .ok (enumD xs) S
  | _ => .bad
end
end Ev
namespace Ev
open PySem PySem.Spec PySem.SeqAt L2 PyProof.Rows
section
variable {X : Cx} {Wx : WX} {K : PySem.W.Frag} {W : Wd} {S : Store} {H : Hp} {pos pos' p : Pos} {e o value : Expr}
def newDT : PO := fun S => some (.ref S.length, S ++ [some (.dT [])])
def eDT : ME := fun _ => lft newDT
theorem se_dT : SE X Wx (.Dict [] [] pos) eDT := PE.imp pe_dnewT fun σ H Q ⟨W, S, δ, g, r, h⟩ => fun a n => by
  have h' := h.lft
  exact h' (W.addC a) _ _ (Wd.addC_le W a) (g.addC (c := .dT []) n ⟨[], upd_same, rfl, .nil⟩) (.ref (by simp [Wd.addC, ← g.len]))
end
end Ev
namespace Ev
open PySem PySem.Spec PySem.SeqAt L2 PyProof.Rows
section
variable {X : Cx} {Wx : WX} {K : PySem.W.Frag} {W : Wd} {S : Store} {H : Hp} {pos pos' p px kp tpos : Pos} {e o a b value tg : Expr} {mas : MA} {ma mb m : ME} {k : Nat} {x : Str}
def sPar3 (i j l : Nat) (mas : MA) : MS := fun δ => ofE (mas δ) δ fun ds S => match ds with
  | [x, y, z] => .nx (((δ.set i (some x)).set j (some y)).set l (some z)) S
  | _ => .bad
end
end Ev
namespace Ev
open PySem PySem.Spec PySem.SeqAt L2 PyProof.Rows
def pick {α : Type} (is : List Nat) (xs : List α) : List α := is.filterMap fun i => xs[i]?
theorem pick_len {α : Type} : ∀ {is : List Nat} {xs : List α}, (∀ i ∈ is, i < xs.length) → (pick is xs).length = is.length
  | [], _, _ => rfl
  | i :: is, xs, h => by
    have h1 := h i (List.mem_cons_self ..)
    have h2 := pick_len (is := is) (xs := xs) fun j hj => h j (List.mem_cons_of_mem _ hj)
    unfold pick at h2 ⊢
    simp only [List.filterMap_cons, List.getElem?_eq_getElem h1, List.length_cons, h2]
theorem pick_paired {α β : Type} {F : α → β → Prop} : ∀ {is : List Nat} {xs : List α} {ys : List β}, Paired F xs ys → Paired F (pick is xs) (pick is ys)
  | [], _, _, _ => .nil
  | i :: is, xs, ys, h => by
    have ih := pick_paired (is := is) h
    unfold pick at ih ⊢
    simp only [List.filterMap_cons]
    by_cases hi : i < xs.length
    · have hi' : i < ys.length := by rw [← Paired.length h]; exact hi
      have get : ∀ {xs : List α} {ys : List β} (i : Nat) (h1 : i < xs.length) (h2 : i < ys.length), Paired F xs ys → F xs[i] ys[i] := by
        intro xs ys i h1 h2 hp
        induction hp generalizing i with
        | nil => simp at h1
        | cons a t ih =>
          cases i with
          | zero => exact a
          | succ i => exact ih i (by simpa using h1) (by simpa using h2)
      rw [List.getElem?_eq_getElem hi, List.getElem?_eq_getElem hi']
      exact .cons (get i hi hi' h) ih
    · have hi' : ¬ i < ys.length := by rw [← Paired.length h]; exact hi
      rw [List.getElem?_eq_none (by omega), List.getElem?_eq_none (by omega)]
      exact ih
def BindP (K : PySem.W.Frag) (fd : FuncData) (ps ks : List Str) (is : List Nat) : Prop :=
  ∀ (s : Shared) (us ws : List Value), us.length + ks.length = ps.length → ws.length = ks.length → BindsTo s fd ⟨us, ks.zip ws⟩ (ps.zip (pick is (us ++ ws)))
theorem bindP_of {K : PySem.W.Frag} {x qual : Str} {params : Arguments} {body : List Stmt} {scope : Scope} {f : Addr} {fd : FuncData} {ps ks : List Str} {is : List Nat} (F : FunD K x qual params body scope [] [] f fd)
    (h : ∀ (kV doc pm : Value) (an : Option Addr) (cdv ct : Value) (us ws : List Value), us.length + ks.length = ps.length → ws.length = ks.length → bindArgs (PySem.W.fnOf x qual params body scope .none kV doc pm an cdv ct) ⟨us, ks.zip ws⟩ = pure (ps.zip (pick is (us ++ ws)))) : BindP K fd ps ks is := by
  obtain ⟨oc, od, dV, kV, doc, pm, an, cdv, ct, osl, rfl, lk, hcd, hD, hK⟩ := F.ex
  rcases hD with ⟨_, rfl⟩ | ⟨e, _⟩
  · exact fun s us ws h1 h2 => .of_eq (h kV doc pm an cdv ct us ws h1 h2)
  · exact absurd rfl e
def calP (m : List D → M D) (n : Nat) (is : List Nat) : List D → M D := fun ds => if ds.length = n then m (pick is ds) else fun _ => .bad
end Ev
namespace Ev
open PySem PySem.Spec PySem.SeqAt L2 PyProof.Rows PySem.Calls PyProof.V
section
variable {X : Cx} {Wx : WX} {a b e : Expr} {ma mb : ME} {pos p : Pos}
section
variable (neg : Bool) {p1 p2 : Pos} (hm : X.mg "range" = none) (ha : SE X Wx a ma) (hb : SE X Wx b mb) (hg : Gl X "range" := by rfl) (hs : starEach [b] X.env = (false, eval b X.env) :: starEach [] X.env := by rfl) (hpl : (backTo p2 (starEach [] X.env)).any (·.1) = false := by rfl)
    (hk : behindInMarks (if neg then .NotIn else .In) (.Call (.Name "range" p1) [b] [] p2) = false := by rfl)
include hm ha hb hg hs hpl hk
end
end
end Ev
namespace Ev
open PySem PySem.Spec PySem.SeqAt L2 PyProof.Rows
abbrev KvT := List (Str × Int)
end Ev
namespace PySem.SeqAt
open AutoSeq1 (wpAny_loadPart')
open MeetsSeq
theorem int_eq_declines_dict (b : Int) (u : Tok) (l : Addr) (c : Value) (es : Array DictEntry) (n : Nat) (dd : Option Addr) (sl : Array (Option Value)) :
    Meets (Builtin.«int.__eq__» ⟨[.int b u, .ref l], []⟩) (fun _ R s => s.heap.get? l = some { cls := c, dict := dd, data := .dict es n, slots := sl } ∧ R (.ok (.ret .notImplemented)) s) :=
  .of_wp fun prog w A R s h => by obtain ⟨hp, g, d, tk, os⟩ := s; obtain ⟨hl, h⟩ := h; wp_walk using wpAny_loadPart' hl, wpAny_load hl; exact ⟨_, rfl, h⟩
theorem dict_eq_declines_int (l : Addr) (es : Array DictEntry) (n : Nat) (dd : Option Addr) (sl : Array (Option Value)) (b : Int) (u : Tok) :
    Meets (Builtin.«dict.__eq__» ⟨[.ref l, .int b u], []⟩) (fun _ R s => s.heap.get? l = some { cls := .type "dict", dict := dd, data := .dict es n, slots := sl } ∧ R (.ok (.ret .notImplemented)) s) :=
  .of_wp fun prog w A R s h => by obtain ⟨hp, g, d, tk, os⟩ := s; obtain ⟨hl, h⟩ := h; have f1 := F.sub_int_dict; wp_walk using wpAny_loadPart' hl; exact ⟨_, rfl, h⟩
theorem RcAt.int_dict {A : Around} {s : Shared} {l : Addr} {o : Obj} {es : Array DictEntry} {n : Nat} (b : Int) (u : Tok) (ho : s.heap.get? l = some o) (hc : o.cls = .type "dict") (hd : o.data = .dict es n) (hu : A.units < cLine) : RcAt A s (.int b u) (.ref l) false := fun prog w E Q h => by
  obtain ⟨cls, dd, data, sl⟩ := o
  simp only at hc hd
  subst hc hd
  exact rc_eq_decline_or (k := false) (typeIs_int s b u) ⟨_, ho, rfl⟩ (by decide) F.sub_dict_int F.slot_int_eq F.slot_dict_eq_refl
    (fun _ hq => call_meets F.slot_int_eq (typeIs_int s b u) F.entry_int_eq (F.args_int_eq_2 _ _) (int_eq_declines_dict b u l (.type "dict") es n dd sl) ⟨ho, hq⟩)
    (fun _ hq => call_meets F.slot_dict_eq_refl ⟨_, ho, rfl⟩ F.entry_dict_eq (F.args_dict_eq_2 _ _) (dict_eq_declines_int l es n dd sl b u) ⟨ho, hq⟩)
    (fun _ hq => wpAny_of_eq (rfl : isSame (.int b u) (.ref l) = pure false) hq) (.inr hu) h
theorem EqAt.int_dict {A : Around} {s : Shared} {l : Addr} {o : Obj} {es : Array DictEntry} {n : Nat} (b : Int) (u : Tok) (ho : s.heap.get? l = some o) (hc : o.cls = .type "dict") (hd : o.data = .dict es n) (hu : A.units < cLine) : EqAt A s (.int b u) (.ref l) false := fun prog w E Q h => by
  unfold eqBool
  refine wpAny_holding ?_
  refine wpAny_ite_split (fun hab => absurd (eq_of_beq hab) nofun) (fun _ => ?_)
  exact wpAny_bind (RcAt.int_dict b u ho hc hd hu prog w E _ (wpAny_truthy_bool h))
theorem tuple_eq_declines_dict (l : Addr) (items : Array Value) (n : Nat) (dd : Option Addr) (sl : Array (Option Value)) (a : Addr) (es : Array DictEntry) (n2 : Nat) (dd2 : Option Addr) (sl2 : Array (Option Value)) :
    Meets (Builtin.«tuple.__eq__» ⟨[.ref l, .ref a], []⟩) (fun _ R s => s.heap.get? l = some { cls := .type "tuple", dict := dd, data := .seq items n, slots := sl } ∧ s.heap.get? a = some { cls := .type "dict", dict := dd2, data := .dict es n2, slots := sl2 } ∧ R (.ok (.ret .notImplemented)) s) :=
  .of_wp fun prog w A R s h => by obtain ⟨hp, g, d, tk, os⟩ := s; obtain ⟨hl, ha, h⟩ := h; have f1 := F.sub_dict_tuple; wp_walk using wpAny_loadPart' hl, wpAny_loadPart' ha, wpAny_load ha, wpAny_load hl; exact ⟨_, rfl, h⟩
theorem dict_eq_declines_tuple (l : Addr) (items : Array Value) (n : Nat) (dd : Option Addr) (sl : Array (Option Value)) (a : Addr) (es : Array DictEntry) (n2 : Nat) (dd2 : Option Addr) (sl2 : Array (Option Value)) :
    Meets (Builtin.«dict.__eq__» ⟨[.ref a, .ref l], []⟩) (fun _ R s => s.heap.get? l = some { cls := .type "tuple", dict := dd, data := .seq items n, slots := sl } ∧ s.heap.get? a = some { cls := .type "dict", dict := dd2, data := .dict es n2, slots := sl2 } ∧ R (.ok (.ret .notImplemented)) s) :=
  .of_wp fun prog w A R s h => by obtain ⟨hp, g, d, tk, os⟩ := s; obtain ⟨hl, ha, h⟩ := h; have f1 := F.sub_tuple_dict; wp_walk using wpAny_loadPart' hl, wpAny_loadPart' ha, wpAny_load ha, wpAny_load hl; exact ⟨_, rfl, h⟩
end PySem.SeqAt
namespace PySem.SeqAt
open AutoSeq1 (wpAny_loadPart')
open MeetsSeq
theorem RcAt.tuple_dict {A : Around} {s : Shared} {l a : Addr} {o : Obj} {items : Array Value} {es : Array DictEntry} {n : Nat} (hl : s.heap.IsTuple l items) (ho : s.heap.get? a = some o) (hc : o.cls = .type "dict") (hd : o.data = .dict es n) (hu : A.units < cLine) : RcAt A s (.ref l) (.ref a) false := fun prog w E Q h => by
  obtain ⟨⟨cls, dd, data, sl⟩, ho2, hc2, n2, hd2⟩ := id hl
  obtain ⟨cls', dd', data', sl'⟩ := o
  simp only at hc hd hc2 hd2
  subst hc hd hc2 hd2
  have hne : l ≠ a := fun z => by
    subst z
    rw [ho2] at ho
    injection ho with ho
    injection ho with _ _ h3 _
    cases h3
  exact rc_eq_decline_or (k := false) ⟨_, ho2, rfl⟩ ⟨_, ho, rfl⟩ (by decide) F.sub_dict_tuple F.slot_tuple_eq F.slot_dict_eq_refl
    (fun _ hq => call_meets F.slot_tuple_eq ⟨_, ho2, rfl⟩ F.entry_tuple_eq (F.args_tuple_eq_2 _ _) (tuple_eq_declines_dict l items n2 dd sl a es n dd' sl') ⟨ho2, ho, hq⟩)
    (fun _ hq => call_meets F.slot_dict_eq_refl ⟨_, ho, rfl⟩ F.entry_dict_eq (F.args_dict_eq_2 _ _) (dict_eq_declines_tuple l items n2 dd sl a es n dd' sl') ⟨ho2, ho, hq⟩)
    (fun _ hq => wpAny_isSame_ref_other' hne ho2 ho (by simp) hq) (.inr hu) h
theorem EqAt.tuple_dict {A : Around} {s : Shared} {l a : Addr} {o : Obj} {items : Array Value} {es : Array DictEntry} {n : Nat} (hl : s.heap.IsTuple l items) (ho : s.heap.get? a = some o) (hc : o.cls = .type "dict") (hd : o.data = .dict es n) (hu : A.units < cLine) : EqAt A s (.ref l) (.ref a) false := by
  have hne : l ≠ a := fun z => by
    subst z
    obtain ⟨o2, ho2, _, n2, hd2⟩ := hl
    rw [ho2] at ho
    injection ho with ho
    subst ho
    rw [hd2] at hd
    cases hd
  exact EqAt.of_refs hne (RcAt.tuple_dict hl ho hc hd hu)
end PySem.SeqAt
namespace Ev
open PySem PySem.Spec PySem.SeqAt L2 PyProof.Rows
mutual
/-- integers and tuples of such -/
def canI : PyData → Bool
  | .int _ => true
  | .tuple xs => canIs xs
  | _ => false
def canIs : List PyData → Bool
  | [] => true
  | x :: xs => canI x && canIs xs
end
mutual
/-- data, dicts too -/
def canM : PyData → Bool
  | .none | .bool _ | .int _ => true
  | .str x => PyData.strOk x
  | .list xs | .tuple xs => canMs xs
  | .dict _ => true
def canMs : List PyData → Bool
  | [] => true
  | x :: xs => canM x && canMs xs
end
mutual
theorem canI_lay : ∀ d : PyData, canI d = true → d.canLay0 = true
  | .int _, _ => rfl
  | .tuple xs, h => canIs_lay xs h
  | .none, h => nomatch h
  | .bool _, h => nomatch h
  | .str _, h => nomatch h
  | .list _, h => nomatch h
  | .dict _, h => nomatch h
theorem canIs_lay : ∀ xs : List PyData, canIs xs = true → PyData.canLayAll0 xs = true
  | [], _ => rfl
  | x :: xs, h => by
    have h' : canI x = true ∧ canIs xs = true := by simpa [canIs] using h
    simp [PyData.canLayAll0, canI_lay x h'.1, canIs_lay xs h'.2]
end
mutual
theorem eqAt_mix : ∀ (da db : PyData) (A : Around) (s : Shared) (a b : Value) (as bs : List Addr), Reads s.heap a da as → Reads s.heap b db bs → canI da = true → canM db = true →
    A.units + min da.depth db.depth < cLine → EqAt A s a b (PyData.eqv da db)
  | .none, _, _, _, _, _, _, _, _, _, ha, _, _ => nomatch ha
  | .bool _, _, _, _, _, _, _, _, _, _, ha, _, _ => nomatch ha
  | .str _, _, _, _, _, _, _, _, _, _, ha, _, _ => nomatch ha
  | .list _, _, _, _, _, _, _, _, _, _, ha, _, _ => nomatch ha
  | .dict _, _, _, _, _, _, _, _, _, _, ha, _, _ => nomatch ha
  | .int x, _, A, s, _, _, _, _, ra, rb, _, hb, hu => by
    cases ra with
    | int _ t =>
      have hu' : A.units < cLine := by omega
      cases rb with
      | none => exact EqAt.int_none x t
      | bool y => exact EqAt.int_bool x t y
      | int y u => exact EqAt.int_int x t y u
      | str y u => exact EqAt.int_str x t y u
      | list k1 k2 k3 k4 => exact EqAt.int_list x t ⟨_, k1, k2, _, k3⟩ hu'
      | tuple k1 k2 k3 k4 => exact EqAt.int_tuple x t ⟨_, k1, k2, _, k3⟩ hu'
      | dict k1 k2 k3 k4 k5 => exact EqAt.int_dict x t k1 k2 k3 hu'
  | .tuple xs, db, A, s, _, _, _, _, ra, rb, ha, hb, hu => by
    have hu' : A.units < cLine := by omega
    cases ra with
    | @tuple l o vs n _ as₁ h1 h2 h3 h4 =>
      have hl : s.heap.IsTuple l vs := ⟨_, h1, h2, _, h3⟩
      cases rb with
      | none => exact EqAt.tuple_none hl hu'
      | bool y => exact EqAt.tuple_bool y hl hu'
      | int y u => exact EqAt.tuple_int y u hl hu'
      | str y u => exact EqAt.tuple_str y u hl hu'
      | list k1 k2 k3 k4 => exact EqAt.tuple_list hl ⟨_, k1, k2, _, k3⟩ hu'
      | dict k1 k2 k3 k4 k5 => exact EqAt.tuple_dict hl k1 k2 k3 hu'
      | @tuple l' o' vs' n' ys bs₁ k1 k2 k3 k4 =>
        have hl' : s.heap.IsTuple l' vs' := ⟨_, k1, k2, _, k3⟩
        have n1 : vs.size = xs.length := by simpa using ReadsAll.length _ _ _ h4
        have n2 : vs'.size = ys.length := by simpa using ReadsAll.length _ _ _ k4
        show EqAt A s (.ref l) (.ref l') (PyData.eqvAll xs ys)
        by_cases hll : l = l'
        · subst hll
          have e : PyData.tuple xs = PyData.tuple ys := Reads.unique (.tuple xs) (.tuple ys) _ _ _ (canIs_lay xs ha) (.tuple h1 h2 h3 h4) (.tuple k1 k2 k3 k4)
          injection e with e
          subst e
          rw [eqvAll_refl xs (canIs_lay xs ha)]
          exact EqAt.same _
        · rw [← eqvAll_eq xs ys, ← n1, ← n2]
          refine EqAt.of_refs hll (RcAt.tuples hl hl' hu' fun j j1 j2 => ?_)
          have hu2 : A.in1.units + min (PyData.depthAll xs) (PyData.depthAll ys) < cLine := by
            have e1 : (PyData.tuple xs).depth = PyData.depthAll xs + 1 := by simp only [PyData.depth]
            have e2 : (PyData.tuple ys).depth = PyData.depthAll ys + 1 := by simp only [PyData.depth]
            rw [e1, e2] at hu
            show A.units + 1 + _ < cLine
            omega
          have := eqAt_mixAll xs ys A.in1 s vs.toList vs'.toList _ _ h4 k4 ha hb hu2 j (by simpa using j1) (by simpa using j2)
          simpa using this
theorem eqAt_mixAll : ∀ (xs ys : List PyData) (A : Around) (s : Shared) (vs ws : List Value) (as bs : List Addr), ReadsAll s.heap vs xs as → ReadsAll s.heap ws ys bs → canIs xs = true → canMs ys = true →
    A.units + min (PyData.depthAll xs) (PyData.depthAll ys) < cLine → ∀ j (h1 : j < vs.length) (h2 : j < ws.length), EqAt A s vs[j] ws[j] (pairEq xs ys j)
  | [], _, _, _, _, _, _, _, ra, _, _, _, _, j, h1, _ => by cases ra; exact absurd h1 (Nat.not_lt_zero _)
  | _ :: _, [], _, _, _, _, _, _, _, rb, _, _, _, j, _, h2 => by cases rb; exact absurd h2 (Nat.not_lt_zero _)
  | x :: xs, y :: ys, A, s, _, _, _, _, ra, rb, ha, hb, hu, j, h1, h2 => by
    have ha' : canI x = true ∧ canIs xs = true := by simpa [canIs] using ha
    have hb' : canM y = true ∧ canMs ys = true := by simpa [canMs] using hb
    have e1 : x.depth ≤ PyData.depthAll (x :: xs) ∧ PyData.depthAll xs ≤ PyData.depthAll (x :: xs) := by simp only [PyData.depthAll]; omega
    have e2 : y.depth ≤ PyData.depthAll (y :: ys) ∧ PyData.depthAll ys ≤ PyData.depthAll (y :: ys) := by simp only [PyData.depthAll]; omega
    cases ra with
    | cons r rs =>
      cases rb with
      | cons r' rs' =>
        cases j with
        | zero => exact eqAt_mix x y A s _ _ _ _ r r' ha'.1 hb'.1 (by omega)
        | succ j => exact eqAt_mixAll xs ys A s _ _ _ _ rs rs' ha'.2 hb'.2 (by omega) j (Nat.lt_of_succ_lt_succ h1) (Nat.lt_of_succ_lt_succ h2)
end
mutual
def toPX (S : Store) : D → Option PyData
  | .non => some .none
  | .bl b => some (.bool b)
  | .int i => some (.int i)
  | .str s => some (.str s)
  | .tup xs => (toPXs S xs).map .tuple
  | .lst xs => (toPXs S xs).map .list
  | .ref i => (match S[i]? with
    | some (some (.dT [])) => some (.dict [])
    | _ => none)
  | .ins _ _ => none
  | .fn _ => none
  | .scr _ => none
  | .slf => none
  | .dic _ => none
  | .dlk _ => none
  | .tpx _ => none
  | .exv _ _ => none
  | .exn _ _ _ _ => none
  | .lam _ _ _ _ _ => none
def toPXs (S : Store) : List D → Option (List PyData)
  | [] => some []
  | x :: xs => (toPX S x).bind fun a => (toPXs S xs).map fun b => a :: b
end
section
variable {X : Cx} {pins : List (Addr × Obj)} {σ : L2.St} {H : Hp} {s : Shared} {W : Wd} {S : Store}
mutual
theorem reads_ofX (I : Inv X pins σ H s) (g : Good X.K W S H) : ∀ (d : D) (v : V) (u : Value) (p : PyData), toPX S d = some p → Rep X.K W d v → RelV v u → ∃ as, Reads s.heap u p as
  | .non, v, u, p, e, q, r => by cases e; cases q; cases r; exact ⟨_, .none⟩
  | .bl b, v, u, p, e, q, r => by cases e; cases q; cases r; exact ⟨_, .bool b⟩
  | .int i, v, u, p, e, q, r => by cases e; cases q; obtain ⟨t, rfl⟩ := r; exact ⟨_, .int i t⟩
  | .str i, v, u, p, e, q, r => by cases e; cases q; obtain ⟨t, rfl⟩ := r; exact ⟨_, .str i t⟩
  | .tup ds, v, u, p, e, q, r => by
    simp only [toPX] at e
    obtain ⟨ps, e1, rfl⟩ := Option.map_eq_some_iff.mp e
    cases q with
    | tup q r' =>
      cases r
      obtain ⟨its, rv, ⟨o, ho, hc, n, hd⟩, hz⟩ := I.tuple (g.sqT q)
      obtain ⟨as, ra⟩ := readsAll_ofX I g ds _ _ _ e1 r' rv
      exact ⟨as, .tuple ho hc hd (by simpa using ra)⟩
  | .lst ds, v, u, p, e, q, r => by
    simp only [toPX] at e
    obtain ⟨ps, e1, rfl⟩ := Option.map_eq_some_iff.mp e
    cases q with
    | lst q r' =>
      cases r
      obtain ⟨its, rv, ⟨o, n, ho, hc, _, hd⟩, hz⟩ := I.list (SqL.of (K := X.K) (g.sub _ _ q))
      obtain ⟨as, ra⟩ := readsAll_ofX I g ds _ _ _ e1 r' rv
      exact ⟨_, .list ho hc hd (by simpa using ra)⟩
  | .ref i, v, u, p, e, q, r => by
    simp only [toPX] at e
    split at e
    · rename_i es
      cases e
      obtain ⟨a, h1, h2, h3, h4⟩ := g.cell i _ es
      cases q with
      | ref q =>
        rw [h1] at q
        cases q
        obtain rfl : u = Value.ref a := r
        obtain ⟨vk, k1, k2, k3⟩ := h4
        have : vk = [] := by simpa using k2
        subst this
        obtain ⟨_, _, xs, kt, o, es', ep, d1, d2, d3, d4, _⟩ := dt_of I.hok k1
        cases kt
        have : es'.toList = [] := by simpa using d4
        exact ⟨_, .dict (kvs := []) d1 d2.1 d3 (by rw [this]; exact .nil) (by rw [this]; exact .nil)⟩
    · cases e
  | .ins _ _, v, u, p, e, q, r => by cases e
  | .fn _, v, u, p, e, q, r => by cases e
  | .scr _, v, u, p, e, q, r => by cases e
  | .slf, v, u, p, e, q, r => by cases e
  | .dic _, v, u, p, e, q, r => by cases e
  | .dlk _, v, u, p, e, q, r => by cases e
  | .tpx _, v, u, p, e, q, r => by cases e
  | .exv _ _, v, u, p, e, q, r => by cases e
  | .exn _ _ _ _, v, u, p, e, q, r => by cases e
  | .lam _ _ _ _ _, v, u, p, e, q, r => by cases e
theorem readsAll_ofX (I : Inv X pins σ H s) (g : Good X.K W S H) : ∀ (ds : List D) (vs : List V) (us : List Value) (ps : List PyData), toPXs S ds = some ps → Reps X.K W ds vs → Vals vs us → ∃ as, ReadsAll s.heap us ps as
  | [], vs, us, ps, e, q, r => by cases e; cases q; cases r; exact ⟨_, .nil⟩
  | d :: ds, vs, us, ps, e, q, r => by
    simp only [toPXs] at e
    obtain ⟨p1, e1, e2⟩ := Option.bind_eq_some_iff.mp e
    obtain ⟨p2, e3, rfl⟩ := Option.map_eq_some_iff.mp e2
    cases q with
    | cons q1 q2 =>
      cases r with
      | cons r1 r2 =>
        obtain ⟨as, ra⟩ := reads_ofX I g d _ _ _ e1 q1 r1
        obtain ⟨bs, rb⟩ := readsAll_ofX I g ds _ _ _ e3 q2 r2
        exact ⟨_, .cons ra rb⟩
end
end
end Ev
namespace Xm
open PySem PySem.Spec PySem.Calls PyProof.Rows L2 Ev
open LamX (TabB LamS lamEnv lamSB lamS_by)
def exL (l : List (Str × Str × Bool)) : ExT := fun c x => (l.find? fun p => p.1 == c && p.2.1 == x).map (·.2.2)
theorem exB_ok {l : List (Str × Str × Bool)} {K : PySem.W.Frag} (h : exB l K = true) : ExOk K (exL l) := fun c x b e => by
  unfold exL at e
  obtain ⟨p, hp, e2⟩ := Option.map_eq_some_iff.mp e
  have h1 := List.find?_some hp
  have h2 := List.mem_of_find?_eq_some hp
  simp only [Bool.and_eq_true, beq_iff_eq] at h1
  have h3 := of_decide_eq_true (List.all_eq_true.mp h p h2)
  rw [← h1.1, ← h1.2, ← e2]
  exact h3
theorem flB_ok {t : List (Str × Str)} {K : PySem.W.Frag} (h : flB t K = true) : FlT K t := fun p hp => by
  have h1 := List.all_eq_true.mp h p hp
  simp only [Bool.and_eq_true, decide_eq_true_eq] at h1
  exact ⟨xcB_ok h1.1, h1.2⟩
theorem kxB_ok {t : List (Str × Ty × Bool)} {K : PySem.W.Frag} (h : kxB t K = true) : KitT K t := fun p hp => by
  have h1 := List.all_eq_true.mp h p hp
  simp only [Bool.and_eq_true, decide_eq_true_eq] at h1
  exact ⟨xcB_ok h1.1, h1.2⟩
structure OexF (K : PySem.W.Frag) (c : Str) (newId : String) (t : List Value) (fl : List Str) : Prop where
  oex : OexG K (He.ga K c) newId t
  ini : PySem.W.findIn K (.ref (He.ga K c)) "__init__" = some (some (.ref (He.ma K (He.ga K c) "__init__")))
  tfn : PySem.W.typeIn K (.ref (He.ma K (He.ga K c) "__init__")) = some (.type "function")
  no : ∀ f ∈ fl, PySem.W.findIn K (.ref (He.ga K c)) f = some none
theorem oexB_ok {c : Str} {newId : String} {t : List Value} {fl : List Str} {K : PySem.W.Frag} (h : oexB c newId t fl K = true) : OexF K c newId t fl := by
  unfold oexB at h
  simp only [Bool.and_eq_true, decide_eq_true_eq, List.all_eq_true] at h
  obtain ⟨h0, h1, h2, h3, h4, h5, h6, h7⟩ := h
  refine ⟨⟨?_, h1, h2, h3, h4⟩, h5, h6, h7⟩
  split at h0
  · rename_i dd cd sl ho
    split at h0
    · rename_i C' bm k0 k1 k2 k3 n k5 hm hs
      simp only [Bool.and_eq_true, beq_iff_eq, Bool.not_eq_true'] at h0
      obtain ⟨rfl, rfl, hdel, hdict, ht⟩ := h0
      obtain ⟨nm, bs, mro, ns, qn, hd, sn, sub, ab, col, del⟩ := cd
      dsimp only at hm hdel hdict
      subst hm hdel hdict
      have hsl : sl = #[k0, k1, k2, k3, some (.builtin n), k5] := by
        obtain ⟨l⟩ := sl
        simp only at hs
        rw [hs]
      subst hsl
      exact ⟨nm, qn, ns, bs, bm, sn, sub, ab, col, dd, k0, k1, k2, k3, k5, ho, ht⟩
    · cases h0
  · cases h0
theorem ownXB_ok {c : Str} {bmB : List Value} {newId : String} {K : PySem.W.Frag} (h : ownXB c bmB newId K = true) : PySem.W.excIn K (He.ga K c) bmB newId = true ∧ PySem.W.keepIn K (.ref (He.ga K c)) = true ∧ PySem.W.subIn K (.ref (He.ga K c)) (.type "BaseException") = some true ∧ PySem.W.typeIn K (.ref (He.ga K c)) = some (.type "type") := by
  unfold ownXB at h
  simp only [Bool.and_eq_true, decide_eq_true_eq] at h
  exact h
end Xm
namespace Xm
open PySem PySem.Spec PySem.Calls PyProof.Rows L2 Ev
open LamX (TabB)
def store0 (lams : List Str) : Store := lams.map fun x => some (.tab x)
theorem good_tabs {K : PySem.W.Frag} {H : Hp} {lams : List Str} {sc : Hp} (hs : ∀ a o, sc a = some o → H a = some o) (nd : (lams.map fun x => (tabK K x).2).Nodup) (hP : ∀ x ∈ lams, H (tabK K x).2 = some (.tbl #[])) (hF : ∀ x ∈ lams, sc (tabK K x).2 = none) :
    Good K ⟨sc, lams.map fun x => (tabK K x).2, fun _ => none, none⟩ (store0 lams) H where
  sub := hs
  len := by simp [store0]
  cell := fun i c e => by
    unfold store0 at e
    rw [List.getElem?_map, Option.map_eq_some_iff] at e
    obtain ⟨x, hx, ec⟩ := e
    cases ec
    have hm := List.mem_of_getElem? hx
    exact ⟨(tabK K x).2, by simp [hx], hF x hm, rfl, #[], hP x hm, ⟨rfl, True.intro⟩, fun pos cv h => by simp [codeAmong] at h⟩
  inj := fun i j a c c' _ _ h1 h2 => by
    have hi := (List.getElem?_eq_some_iff.mp h1).1
    exact (List.getElem?_inj hi nd).mp (h1.trans h2.symm)
  prv := fun a o e => by cases e
  ptup := fun a xs e => by cases e
section
variable {P : Program} {w : World} {K : PySem.W.Frag} {mg mb : Str → Option Value} {k : Nat} {fa a : Addr} {fd : FuncData} {x : Str} {s1 : Shared} {vs : List Value} {ns : List Int} {m : List Ev.D → M Ev.D} {lams : List Str}
theorem law_goT (KX : K.In s1.heap) (hns : s1.heap.Ns mainGlobals mg) (hb : s1.heap.Ns builtinsNs mb) (hbb : ∀ y : Str, y ≠ "__name__" → mb y = bootBuiltins y) (hlim : s1.heap.NoLimit) (hg : s1.gens = #[])
    (tb : tabsB lams K = true) (te : ∀ x ∈ lams, s1.heap.get? (tabK K x).2 = some (PySem.W.tabObj #[])) (sy : SysAt s1.heap)
    (hbm : ∃ (bm : Addr) (ob : Obj), mg "__builtins__" = some (.ref bm) ∧ bm ≠ builtinsNs ∧ s1.heap.get? bm = some ob ∧ ob.cls = .type "module" ∧ ob.dict = some builtinsNs ∧ ob.data = .plain)
    (ha : s1.heap.get? a = some { cls := .type "list", data := .seq vs.toArray }) (hi : IntsAre vs ns) (hl : ns.length ≤ sizeLine) (hr : Room k callerA)
    (F : ∀ base : Heap, K.In base → base.Ns mainGlobals mg → (∀ x ∈ lams, TabB base mg (tabK K x).1 (tabK K x).2) → (∃ o, base.get? sysModules = some o) → FnG P w K mg base k fa fd [x] (spM K 1 m)) (hbind : ∀ (s : Shared) (u : Value), BindsTo s fd ⟨[u], []⟩ [(x, u)])
    (hm : ∃ S, m [.scr ns] (store0 lams) = .ok (.bl true) S) :
    codeAny (model P w) callerA (.call (.ref fa) ⟨[.ref a], []⟩) (fun r s' => (r = .ok (.ret (.bool true)) ∧ OldK s1.heap s'.heap) ∧ s'.os = s1.os ∧ AllBare s'.gens) s1 := by
  have tb2 := tb
  unfold tabsB at tb2
  simp only [Bool.and_eq_true, decide_eq_true_eq, List.all_eq_true, Option.isNone_iff_eq_none] at tb2
  obtain ⟨nd, tb3⟩ := tb2
  have nT : ∀ x ∈ lams, K.lookup (tabK K x).2 = none := fun x hx => (tb3 x hx).1
  have C : ∀ x ∈ lams, PySem.W.CodeHd s1.heap (tabK K x).1 (tabK K x).2 := fun x hx => PySem.W.codeHd_of_K KX (tb3 x hx).2
  have rv := vals_ints hi
  have lenV := hi.length
  have isT : ∀ b : Addr, b ∈ (lams.map fun x => (tabK K x).2) → s1.heap.get? b = some { cls := .none, data := .fields #[] } := fun b hb => by
    obtain ⟨y, hy, e⟩ := List.mem_map.mp hb
    rw [← e]
    exact te y hy
  have aT : a ∉ (lams.map fun x => (tabK K x).2) := fun z => by
    have q := isT a z
    rw [ha] at q
    have z' : Data.seq vs.toArray _ = Data.fields #[] := congrArg Obj.data (Option.some.inj q)
    cases z'
  have memT : ∀ y ∈ lams, (tabK K y).2 ∈ (lams.map fun x => (tabK K x).2) := fun y hy => List.mem_map.mpr ⟨y, hy, rfl⟩
  -- sc: the script at most
  have core : ∀ (sc : Hp), (∀ b u, sc b = some u → b = a ∧ K.lookup b = none ∧ u = .frz { cls := .type "list", data := .seq vs.toArray } (.lst (ns.map V.int))) → SqL K sc a (ns.map V.int) →
      codeAny (model P w) callerA (.call (.ref fa) ⟨[.ref a], []⟩) (fun r s' => (r = .ok (.ret (.bool true)) ∧ OldK s1.heap s'.heap) ∧ s'.os = s1.os ∧ AllBare s'.gens) s1 := by
    intro sc hsc hS
    obtain ⟨H, hH⟩ : ∃ H : Hp, H = fun b => if b ∈ (lams.map fun x => (tabK K x).2) then some (.tbl #[]) else sc b := ⟨_, rfl⟩
    have Ht : ∀ b, b ∈ (lams.map fun x => (tabK K x).2) → H b = some (.tbl #[]) := fun b hb => by rw [hH]; exact if_pos hb
    have Hn : ∀ b, b ∉ (lams.map fun x => (tabK K x).2) → H b = sc b := fun b hb => by rw [hH]; exact if_neg hb
    have sub : ∀ b o, sc b = some o → H b = some o := fun b o e => by
      obtain ⟨rfl, _⟩ := hsc b o e
      rw [Hn _ aT]; exact e
    have hok : HOk P w H s1.heap := fun b u e => by
      by_cases hb : b ∈ (lams.map fun x => (tabK K x).2)
      · rw [Ht b hb] at e
        cases e
        exact isT b hb
      · rw [Hn b hb] at e
        obtain ⟨rfl, _, rfl⟩ := hsc b u e
        exact ⟨ha, by rw [List.length_map]; exact hl, vs, _, rv, ha⟩
    have base_of : ∀ {b : Addr} {o : Obj}, s1.heap.get? b = some o → H b = none → (hidT s1.heap H).get? b = some o := fun e n => hidT_get e n
    have noD : ∀ {b : Addr} {o : Obj}, s1.heap.get? b = some o → (∀ ys n, o.data ≠ .seq ys n) → o.data ≠ .fields #[] → H b = none := fun {b o} e h1 h2 => by
      by_cases hb : b ∈ (lams.map fun x => (tabK K x).2)
      · rw [isT b hb] at e
        cases e
        exact (h2 rfl).elim
      · rw [Hn b hb]
        cases q : sc b with
        | none => rfl
        | some u =>
          obtain ⟨rfl, _⟩ := hsc b u q
          rw [ha] at e
          cases e
          exact (h1 _ _ rfl).elim
    have noA : ∀ {b : Addr} {o : Obj} {es : Array DictEntry} {ep : Nat}, s1.heap.get? b = some o → o.data = .dict es ep → H b = none := fun {b o es ep} e d => noD e (fun ys n z => by rw [d] at z; cases z) fun z => by rw [d] at z; cases z
    have nsK : ∀ {b : Addr} {g : Str → Option Value}, s1.heap.Ns b g → (hidT s1.heap H).Ns b g := fun {b g} ⟨o, es, ep, e, d, r⟩ => ⟨o, es, ep, base_of e (noA e d), d, r⟩
    have KB : K.In (hidT s1.heap H) := fun b o e => base_of (KX b o e) (by
      by_cases hb : b ∈ (lams.map fun x => (tabK K x).2)
      · obtain ⟨y, hy, e2⟩ := List.mem_map.mp hb
        rw [← e2, nT y hy] at e
        cases e
      · rw [Hn b hb]
        cases q : sc b with
        | none => rfl
        | some u =>
          obtain ⟨_, z, _⟩ := hsc b u q
          rw [z] at e; cases e)
    obtain ⟨mc, l1, l2⟩ := hlim
    have TB : ∀ y ∈ lams, TabB (hidT s1.heap H) mg (tabK K y).1 (tabK K y).2 := fun y hy => by
      have hTp := te y hy
      refine ⟨?_, ?_, fun z => ?_⟩
      · obtain ⟨o, us, file, tf, flags, tg, inF, text, tt, e1, r1, r2, r3, r4, r5, r6, r7, r8, hne⟩ := C y hy
        refine ⟨o, us, file, tf, flags, tg, inF, text, tt, base_of e1 (noD e1 (fun ys n z => by rw [r2] at z; cases z) fun z => ?_), r1, r2, r3, r4, r5, r6, r7, r8, hne⟩
        rw [r2] at z
        cases z
        simp at r3
      · obtain ⟨bm, ob, b1, b2, b3, b4, b5, b6⟩ := hbm
        have nG : bm ≠ mainGlobals := fun q => by
          obtain ⟨o, es, ep, e, hd, _⟩ := hns
          rw [q, e] at b3
          cases b3
          rw [hd] at b6
          cases b6
        have nP : bm ≠ (tabK K y).2 := fun q => by
          rw [q, hTp] at b3
          cases b3
          cases b6
        exact ⟨bm, ob, b1, b2, nG, nP, base_of b3 (noD b3 (fun ys n z => by rw [b6] at z; cases z) fun z => by rw [b6] at z; cases z), b4, b5, b6⟩
      · obtain ⟨o, es, ep, e, hd, _⟩ := hns
        rw [z, hTp] at e
        cases e
        cases hd
    have env : Env0 P w K mg (hidT s1.heap H) callerA [] s1 H := ⟨rfl, ⟨KB, nsK hns, ⟨mb, nsK hb, hbb⟩, mc, nsK l1, l2⟩, fun b o e => of_hidT e, Nat.le_of_eq (hidT_size _ _), trivial, fun b z => absurd (show b ∈ ([] : List Addr) from z) (by simp), hok, .of_eq hg⟩
    obtain ⟨S, hmS⟩ := hm
    have want : spM K 1 m [.ref a] H (fun v _ => v = .bl true) (fun _ _ _ => False) := by
      refine ⟨rfl, _, store0 lams, [.scr ns], good_tabs (sc := sc) sub nd (fun y hy => Ht _ (memT y hy)) (fun y hy => ?_), .cons (.scr hS) .nil, ?_⟩
      · cases q : sc (tabK K y).2 with
        | none => rfl
        | some u =>
          obtain ⟨e, _⟩ := hsc _ u q
          exact absurd (e ▸ memT y hy) aT
      · rw [hmS]
        intro W' H' v _ _ q
        cases q
        rfl
    refine codeAny_mono ((F _ KB (nsK hns) TB (let ⟨o, es, m, e, d⟩ := sy; ⟨o, base_of e (noA e d)⟩)).run callerA rfl [] s1 H ⟨[.ref a], []⟩ [.ref a] [.ref a] _ _ hr env (hbind s1 _) (.cons rfl .nil) want) fun r s' res => ?_
    match r, res with
    | .error e, res =>
      obtain ⟨_, _, _, _, _, _, _, _, _, _, _, _, z⟩ := res
      exact z.elim
    | .ok .next, res => exact False.elim res
    | .ok .brk, res => exact False.elim res
    | .ok .cont, res => exact False.elim res
    | .ok (.ret u), res =>
      obtain ⟨v, H', hos, hbare, un, hok2, rel, rfl⟩ := res
      obtain rfl : u = Value.bool true := rel
      have kept : ∀ b o, b ∉ (lams.map fun x => (tabK K x).2) → s1.heap.get? b = some o → s'.heap.get? b = some o := fun b o nb e => by
        cases q : H b with
        | none => exact un.keep b o e q (fun z => absurd (show b ∈ ([] : List Addr) from z) (by simp)) (by simp)
        | some u =>
          have q' := q
          rw [Hn b nb] at q'
          obtain ⟨rfl, _, rfl⟩ := hsc b u q'
          have t1 := (hok _ _ q).1
          have t2 := (hok2 _ _ (un.frzs _ _ _ q)).1
          rw [e] at t1; cases t1
          exact t2
      have grown : ∀ y ∈ lams, ∃ more : Array Value, s'.heap.get? (tabK K y).2 = some { cls := .none, data := .fields more } := fun y hy => by
        obtain ⟨more, z⟩ := un.tbls (tabK K y).2 #[] (Ht _ (memT y hy))
        exact ⟨_, hok2 (tabK K y).2 _ z⟩
      refine ⟨⟨rfl, ⟨fun b o e => ?_, fun b o e => ?_⟩⟩, hos, hbare⟩
      · by_cases hb : b ∈ (lams.map fun x => (tabK K x).2)
        · obtain ⟨y, hy, ep⟩ := List.mem_map.mp hb
          obtain ⟨more, hm'⟩ := grown y hy
          rw [← ep] at e ⊢
          rw [te y hy] at e
          cases e
          exact .inr (.inl ⟨((C y hy).tab (te y hy)).isCodeTable, rfl, #[], more, rfl, by rw [Array.empty_append]; exact hm'⟩)
        · exact .inl (kept b o hb e)
      · by_cases hb : b ∈ (lams.map fun x => (tabK K x).2)
        · obtain ⟨y, hy, ep⟩ := List.mem_map.mp hb
          obtain ⟨more, hm'⟩ := grown y hy
          rw [← ep]
          exact ⟨_, hm'⟩
        · exact ⟨o, kept b o hb e⟩
  by_cases hk : K.lookup a = none
  · refine core (fun b => if b = a then some (.frz { cls := .type "list", data := .seq vs.toArray } (.lst (ns.map V.int))) else none) (fun b u e => ?_) (.inl (.inr ⟨_, if_pos rfl⟩))
    by_cases hb : b = a
    · have e' := (if_pos hb).symm.trans e
      cases e'
      exact ⟨hb, by rw [hb]; exact hk, rfl⟩
    · have e' := (if_neg hb).symm.trans e
      cases e'
  · obtain ⟨o, ho⟩ := Option.ne_none_iff_exists'.mp hk
    have eo := KX a o ho
    rw [ha] at eo
    cases eo
    exact core (fun _ => none) (fun b u e => by cases e) (.inr ⟨_, vs.toArray, _, ho, rfl, rfl, rfl, by rw [List.size_toArray, lenV]; exact hl, by simpa using rv⟩)
end
theorem walk_evT {l : PySem.W.OpenLaw} {n k : Nat} {q : Program} {loose : List Str} {XP : (Str → Option Value) → Heap → Prop} {YP : World → Heap → Prop} {d : DefRec} {x : Str} {m : List Ev.D → M Ev.D} {lams : List Str}
    (hn : l.most = some n) (hn2 : n ≤ sizeLine) (hdf : d.params.defaults = []) (hr : Room k callerA)
    (F : ∀ (w : World) (mg : Str → Option Value) (fa : Addr) (h : Heap), YP w h → h.Ns mainGlobals mg → mg d.name = some (.ref fa) →
      ∃ (K : PySem.W.Frag) (fd : FuncData), K.In h ∧ tabsB lams K = true ∧ (∀ x ∈ lams, h.get? (tabK K x).2 = some (PySem.W.tabObj #[])) ∧ SysAt h ∧ (∀ (s : Shared) (u : Value), BindsTo s fd ⟨[u], []⟩ [(x, u)]) ∧
        ∀ base : Heap, K.In base → base.Ns mainGlobals mg → (∀ x ∈ lams, TabB base mg (tabK K x).1 (tabK K x).2) → (∃ o, base.get? sysModules = some o) → FnG l.prog w K mg base k fa fd [x] (spM K 1 m))
    (hm : ∀ ns : List Int, ns.length ≤ n → (∀ i ∈ ns, Builtin.Int.intBits i ≤ 1048576) → ∃ S, m [.scr ns] (store0 lams) = .ok (.bl true) S) :
    PySem.W.WalkO q loose XP YP l.row.toRowW d [] (fun f vs => PySem.call f vs) := by
  refine Att.attach_callB hn hdf ?_
  intro w s0 s1 mg mb fa o pm cd doc a vs ns G Y _ _ _ hmg hobj hints hlen hbits hg
  obtain ⟨K, fd, KX, tb, te, sy, hb, hF⟩ := F w mg fa _ Y G.T.g hmg
  exact codeAny_mono (law_goT KX G.T.g G.T.b G.T.builtins G.T.nolimit hg tb te sy G.T.bmain hobj hints (Nat.le_trans hlen hn2) hr hF hb (hm ns hlen hbits)) fun r s' ⟨⟨h1, h2⟩, h3, h4⟩ => ⟨h1, h2, h3, h4⟩
end Xm
namespace Xm
open PySem PySem.Spec PySem.Calls PyProof.Rows L2 Ev
theorem Ct.mono {X : Cx} {Wx : WX} {k k' : Nat} (C : Ct X Wx k) (h : k' ≤ k) : Ct X Wx k' := ⟨C.calm, C.gd, C.room.mono h, C.tk⟩
end Xm
namespace Xm
open PySem PySem.Spec PySem.SeqAt PyProof.Rows L2 Ev HandSHeadRun PySem.W
section
variable {r : OpenRow} {q : Program} {M : Nat} {loose : List PySem.Str} {w : World} {n : Nat} {fa : List He.Fa} {fn : List He.DefD} {ex ex1 ex2 : List Ex} {lams : List PySem.Str}
end
end Xm
namespace Xm
open PySem PySem.Spec PySem.SeqAt PyProof.Rows L2 Ev HandSHeadRun PySem.W
section
variable {r : OpenRow} {q : Program} {M : Nat} {loose : List PySem.Str} {w : World} {n : Nat} {fa : List He.Fa} {fn fn1 fn2 : List He.DefD} {ex ex1 ex2 : List Ex} {lams : List PySem.Str}
end
end Xm
namespace Ob
open PySem PySem.Spec PySem.SeqAt PyProof.Rows L2 Ev Xm HandSHeadRun
open PySem.W
end Ob
namespace Ob
open PySem PySem.Spec PySem.SeqAt PyProof.Rows L2 Ev Xm HandSHeadRun
open PySem.W
end Ob
namespace Ob
open PySem PySem.Spec PySem.SeqAt PyProof.Rows L2 Ev Xm HandSHeadRun
theorem obsA_eq {as : List Addr} {fa : List He.Fa} {fn : List He.DefD} {ex : List Ex} {lams : List Str} {gs : List GtD} {ts : List (Str × List Str)} {g : Addr → Option Obj} {s : Shared} (h : ∀ a, g a = s.heap.get? a) : obsA as fa fn ex lams gs ts g = (hookA as fa fn ex lams gs ts).obs s := by
  have e : g = s.heap.get? := funext h
  subst e
  rfl
open PySem.W
section
variable {r : PySem.W.OpenRow} {q : Program} {M : Nat} {loose : List PySem.Str} {w : World} {as : List Addr} {fa : List He.Fa} {fn : List He.DefD} {ex : List Ex} {lams : List PySem.Str} {gs : List GtD} {ts : List (PySem.Str × List PySem.Str)}
end
end Ob
namespace Ev
open PySem PySem.Spec PySem.SeqAt L2 PyProof.Rows PySem.W
section
variable {X : Cx} {pins : List (Addr × Obj)} {σ : L2.St} {H : Hp} {s : Shared} {W : Wd} {S : Store}
theorem not_sys (hB : ∃ o, X.base.get? sysModules = some o) (I : Inv X pins σ H s) {a : Addr} {o : HO} (e : H a = some o) : a ≠ sysModules := fun z => by
  subst z
  obtain ⟨o', h⟩ := hB
  have := (I.bs _ o' h).2
  rw [e] at this
  cases this
mutual
theorem reads_ofN (hB : ∃ o, X.base.get? sysModules = some o) (I : Inv X pins σ H s) (g : Good X.K W S H) : ∀ (d : D) (v : V) (u : Value) (p : PyData), toPX S d = some p → Rep X.K W d v → RelV v u → ∃ as, Reads s.heap u p as ∧ sysModules ∉ as
  | .non, v, u, p, e, q, r => by cases e; cases q; cases r; exact ⟨_, .none, List.not_mem_nil⟩
  | .bl b, v, u, p, e, q, r => by cases e; cases q; cases r; exact ⟨_, .bool b, List.not_mem_nil⟩
  | .int i, v, u, p, e, q, r => by cases e; cases q; obtain ⟨t, rfl⟩ := r; exact ⟨_, .int i t, List.not_mem_nil⟩
  | .str i, v, u, p, e, q, r => by cases e; cases q; obtain ⟨t, rfl⟩ := r; exact ⟨_, .str i t, List.not_mem_nil⟩
  | .tup ds, v, u, p, e, q, r => by
    simp only [toPX] at e
    obtain ⟨ps, e1, rfl⟩ := Option.map_eq_some_iff.mp e
    cases q with
    | tup q r' =>
      cases r
      obtain ⟨its, rv, ⟨o, ho, hc, n, hd⟩, hz⟩ := I.tuple (g.sqT q)
      obtain ⟨as, ra, nm⟩ := readsAll_ofN hB I g ds _ _ _ e1 r' rv
      exact ⟨as, .tuple ho hc hd (by simpa using ra), nm⟩
  | .lst ds, v, u, p, e, q, r => by
    simp only [toPX] at e
    obtain ⟨ps, e1, rfl⟩ := Option.map_eq_some_iff.mp e
    cases q with
    | lst q r' =>
      cases r
      obtain ⟨its, rv, ⟨o, n, ho, hc, _, hd⟩, hz⟩ := I.list (SqL.of (K := X.K) (g.sub _ _ q))
      obtain ⟨as, ra, nm⟩ := readsAll_ofN hB I g ds _ _ _ e1 r' rv
      exact ⟨_, .list ho hc hd (by simpa using ra), fun z => (List.mem_cons.mp z).elim (fun z => not_sys hB I (g.sub _ _ q) z.symm) nm⟩
  | .ref i, v, u, p, e, q, r => by
    simp only [toPX] at e
    split at e
    · rename_i es
      cases e
      obtain ⟨a, h1, h2, h3, h4⟩ := g.cell i _ es
      cases q with
      | ref q =>
        rw [h1] at q
        cases q
        obtain rfl : u = Value.ref a := r
        obtain ⟨vk, k1, k2, k3⟩ := h4
        have : vk = [] := by simpa using k2
        subst this
        obtain ⟨_, ns, xs, kt, o, es', ep, d1, d2, d3, d4, _⟩ := dt_of I.hok k1
        cases kt
        have : es'.toList = [] := by simpa using d4
        exact ⟨_, .dict (kvs := []) d1 d2.1 d3 (by rw [this]; exact .nil) (by rw [this]; exact .nil), fun z => by
          have z' : sysModules = a := by simpa using z
          rw [← z'] at ns
          simp at ns⟩
    · cases e
  | .ins _ _, v, u, p, e, q, r => by cases e
  | .fn _, v, u, p, e, q, r => by cases e
  | .scr _, v, u, p, e, q, r => by cases e
  | .slf, v, u, p, e, q, r => by cases e
  | .dic _, v, u, p, e, q, r => by cases e
  | .dlk _, v, u, p, e, q, r => by cases e
  | .tpx _, v, u, p, e, q, r => by cases e
  | .exv _ _, v, u, p, e, q, r => by cases e
  | .exn _ _ _ _, v, u, p, e, q, r => by cases e
  | .lam _ _ _ _ _, v, u, p, e, q, r => by cases e
theorem readsAll_ofN (hB : ∃ o, X.base.get? sysModules = some o) (I : Inv X pins σ H s) (g : Good X.K W S H) : ∀ (ds : List D) (vs : List V) (us : List Value) (ps : List PyData), toPXs S ds = some ps → Reps X.K W ds vs → Vals vs us → ∃ as, ReadsAll s.heap us ps as ∧ sysModules ∉ as
  | [], vs, us, ps, e, q, r => by cases e; cases q; cases r; exact ⟨_, .nil, List.not_mem_nil⟩
  | d :: ds, vs, us, ps, e, q, r => by
    simp only [toPXs] at e
    obtain ⟨p1, e1, e2⟩ := Option.bind_eq_some_iff.mp e
    obtain ⟨p2, e3, rfl⟩ := Option.map_eq_some_iff.mp e2
    cases q with
    | cons q1 q2 =>
      cases r with
      | cons r1 r2 =>
        obtain ⟨as, ra, na⟩ := reads_ofN hB I g d _ _ _ e1 q1 r1
        obtain ⟨bs, rb, nb⟩ := readsAll_ofN hB I g ds _ _ _ e3 q2 r2
        exact ⟨_, .cons ra rb, fun z => (List.mem_append.mp z).elim na nb⟩
end
end
end Ev
namespace Vx
open PySem PySem.HandSPX PySem.Builtin PySem.Builtin.ObjectAttr
section
variable {M : Model} {A : Around} {E : Value → Shared → Prop} {h : Heap} {g : Array GenState} {d : Drawn} {t : Nat} {os : OsState}
variable {nm q : Str} {C N : Addr} {bs bm bmB : List Value} {hdct : Bool} {sn : List Str} {sub : List Value} {ab : Bool} {col : Option Bool} {dd : Option Addr} {k0 k1 k2 k3 k5 : Option Value} {B newId initId : String}
theorem check_new_kw (F : ExcBaseFacts B newId initId bmB) (hT : ∀ X : String, bm.contains (.type X) = bmB.contains (.type X)) {rest : List Value} {kw : List (Str × Value)} {Q : Unit → Shared → Prop}
    (hC : h.get? C = some (excClassObj nm q C N bs bm hdct sn sub ab col dd k0 k1 k2 k3 k5 newId)) (hq : Q () ⟨h, g, d, t, os⟩) : wpAny M A (checkBuiltinCall newId ⟨.ref C :: rest, kw⟩) Q E ⟨h, g, d, t, os⟩ := by
  have hcont : (Value.ref C :: bm).contains (.type B) = true := by rw [List.contains_cons, hT, F.hasB, Bool.or_true]
  have hstar := F.noStar
  simp only [checkBuiltinCall, F.newKind, F.newSplit, F.newRow]
  repeat (first | refine wpAny_loadPart_at hC ?_ | (refine wpAny_isSubtype_exc hC ?_; rw [hcont]) | refine wpAny_staticBase_exc hC ?_ | refine wpAny_madeBy_exc hC ?_ | simp only [bne_self_eq_false, Bool.false_eq_true, if_false] | wp_step)
  exact hq
end
section
variable {prog : Program} {w : World} {A : Around} {E : Value → Shared → Prop} {R : Result → Shared → Prop} {h : Heap} {g : Array GenState} {d : Drawn} {t : Nat} {os : OsState}
variable {nm q : Str} {C N : Addr} {bs bm bmB : List Value} {hdct : Bool} {sn : List Str} {sub : List Value} {ab : Bool} {col : Option Bool} {dd : Option Addr} {k0 k1 k2 k3 k5 : Option Value} {B newId initId : String}
theorem new_kw (F : ExcBaseFacts B newId initId bmB) (hT : ∀ X : String, bm.contains (.type X) = bmB.contains (.type X)) {rest : List Value} {kw : List (Str × Value)}
    (hC : h.get? C = some (excClassObj nm q C N bs bm hdct sn sub ab col dd k0 k1 k2 k3 k5 newId))
    (hq : R (.ok (.ret (.ref (h.objs.size + 1)))) ⟨(h.push { cls := .type "tuple", data := .seq rest.toArray }).push
      { cls := .ref C, data := .fields #[.ref h.objs.size, .none, .none, .none, .bool false, .none] }, g, d, t, os⟩) (hrest : rest.length ≤ sizeLine) :
    codeAny (model prog w) A (.builtin newId ⟨.ref C :: rest, kw⟩) R ⟨h, g, d, t, os⟩ := by
  have hends := F.ends
  have hcB : (Value.ref C :: bm).contains (.type B) = true := by rw [List.contains_cons, hT, F.hasB, Bool.or_true]
  have hcA : (Value.ref C :: bm).contains (.type "AttributeError") = false := by rw [List.contains_cons, hT, F.noAttr]; rfl
  have hcN : (Value.ref C :: bm).contains (.type "NameError") = false := by rw [List.contains_cons, hT, F.noName]; rfl
  refine codeAny_builtinAt F.entry ?_
  unfold Builtin.«BaseException.__new__»
  refine wpAt_bind ?_
  show wpAt _ _ _ (stack >>= _) _ _ _
  refine wpAt_bind (wpAt_stack fun p below => wpAt_of_wpAny ?_)
  wp_walk
  refine wpAt_of_wpAny ?_
  rw [F.owner]
  repeat (first | with_reducible refine wpAny_madeHere_exc F.canon hC ?_ | with_reducible refine wpAny_loadPart_at hC ?_ | (with_reducible refine wpAny_isSubtype_exc hC ?_; first | rw [hcB] | rw [hcA] | rw [hcN]) | wp_step)
  show R _ _
  rw [Heap.size_push]
  exact hq
theorem type_call_kw (F : ExcBaseFacts B newId initId bmB) (hT : ∀ X : String, bm.contains (.type X) = bmB.contains (.type X)) {rest : List Value} {kw : List (Str × Value)} {fI : Addr} {Q : Fin → Shared → Prop}
    (hC : h.get? C = some (excClassObj nm q C N bs bm hdct sn sub ab col dd k0 k1 k2 k3 k5 newId))
    (hi : W.Looks (model prog w) h (typeLookup (.ref C) "__init__") (some (.ref fI))) (hb : ∀ self, W.Looks (model prog w) h (bindSpecial (.ref fI) self) (.ref fI, [self])) (hrest : rest.length ≤ sizeLine)
    (hq : codeAny (model prog w) A (.call (.ref fI) ⟨.ref (h.objs.size + 1) :: rest, kw⟩)
      (fun r s' => match r with | .ok (.ret v) => v = .none ∧ Q (.done (.ret (.ref (h.objs.size + 1)))) s' | .ok _ => False | .error e => E e s')
      ⟨(h.push (W.kdv_tup rest)).push (excO C h.objs.size), g, d, t, os⟩) :
    wpAny (model prog w) A (Builtin.«type.__call__» ⟨.ref C :: rest, kw⟩) Q E ⟨h, g, d, t, os⟩ := by
  repeat (first | with_reducible refine wpAny_loadPart_at hC ?_ | with_reducible refine wpAny_madeBy_exc hC ?_ | wp_step)
  refine codeAny_call_builtin_code (Code.quiet_builtin _ F.quiet) (check_new_kw F hT hC ?_)
  refine new_kw F hT hC ?_ hrest
  show wpAny _ _ _ _ _ _
  have k : ∀ b o, h.get? b = some o → ((h.push (W.kdv_tup rest)).push (excO C h.objs.size)).get? b = some o := fun b o e => Heap.get?_push_of_some _ (Heap.get?_push_of_some _ e)
  have hC₁ := k _ _ hC
  have hget : ((h.push (W.kdv_tup rest)).push (excO C h.objs.size)).get? (h.objs.size + 1) = some (excO C h.objs.size) := by heap_get
  have hcC : (Value.ref C :: bm).contains (.ref C) = true := by simp
  have i1 := hi.keeps k
  have b1 := (hb (.ref (h.objs.size + 1))).keeps k
  unfold isInstance
  repeat (first | with_reducible refine wpAny_loadPart_at hget ?_ | (with_reducible refine wpAny_isSubtype_exc hC₁ ?_; rw [hcC]) | wp_step)
  show wpAny _ _ (typeLookup (.ref C) _) _ _ _
  refine i1.at ?_
  refine wpAny_holding (wpAny_bind (b1.at ?_))
  refine wpAny_bind (wpAny_call (codeAny_mono hq fun r s' z => ?_))
  rcases r with e | (v | _ | _ | _) <;> first | exact z | exact z.elim | skip
  obtain ⟨rfl, z⟩ := z
  first
    | exact wpAny_pure (wpAny_pure z)
    | (wp_walk; exact z)
theorem call_kw (F : ExcBaseFacts B newId initId bmB) (hT : ∀ X : String, bm.contains (.type X) = bmB.contains (.type X)) {rest : List Value} {kw : List (Str × Value)} {fI : Addr}
    (hC : h.get? C = some (excClassObj nm q C N bs bm hdct sn sub ab col dd k0 k1 k2 k3 k5 newId))
    (hi : W.Looks (model prog w) h (typeLookup (.ref C) "__init__") (some (.ref fI))) (hb : ∀ self, W.Looks (model prog w) h (bindSpecial (.ref fI) self) (.ref fI, [self])) (hrest : rest.length ≤ sizeLine)
    (hq : codeAny (model prog w) (A.under (.builtin "type.__call__" ⟨.ref C :: rest, kw⟩)) (.call (.ref fI) ⟨.ref (h.objs.size + 1) :: rest, kw⟩) (W.InitBack (h.objs.size + 1) R)
      ⟨(h.push (W.kdv_tup rest)).push (excO C h.objs.size), g, d, t, os⟩) :
    codeAny (model prog w) A (.call (.ref C) ⟨rest, kw⟩) R ⟨h, g, d, t, os⟩ := by
  have f1 := tc_lookup
  have f2 := tc_bind (.ref C)
  have hTy : (⟨h, g, d, t, os⟩ : Shared).TypeIs (.ref C) "type" := ⟨_, hC, rfl⟩
  refine codeAny_of_tree ?_
  show wpAny _ _ (callAny (.ref C) _) _ _ _
  repeat (any_goals (first | assumption | with_reducible refine wpAny_loadPart_at hC ?_ | wp_step))
  refine ⟨rfl, ?_⟩
  refine codeAny_call_builtin_at (Code.quiet_builtin _ (by decide +kernel)) entry_typeCall (wpAny_check_type_call_sub hC (type_call_kw F hT hC hi hb hrest ?_))
  refine codeAny_mono hq fun r s' z => ?_
  rcases r with e | (v | _ | _ | _) <;> exact z
end
end Vx
namespace Xm
open PySem PySem.Spec PySem.Calls PyProof.Rows L2 Ev
theorem mkP_val {X : Cx} {pins : List (Addr × Obj)} {σ : L2.St} {Q' : XK} {Q : VK} {u : Value} {s' : Shared} (hu : L2N.MkP X pins σ Q' u s') (h : ∀ a d cls H', Q' cls d H' → H' a = none → Q (.ref a) (upd H' a (exH a cls d))) : EP X pins σ Q u s' := by
  obtain ⟨a, oe, vs, sI, H', cls, d, rfl, J, k, hne, ha, hz, hd, h1, na, os, ag, r, q⟩ := hu
  obtain ⟨hp, g, dr, tk, os'⟩ := s'
  have J2 : Inv X pins σ (upd H' a (exH a cls d)) { sI with heap := hp, toks := tk } := J.laidN k hne na (exH_ok ha hz hd)
  exact ⟨.ref a, _, ⟨J2.ok, os.trans J.os, ag, J2.base, J2.loc, J2.cell, J2.free, J2.freeC, J2.pin, J2.hok, J2.len⟩, rfl, h a d cls H' q na⟩
section
variable {X : Cx} {C fI : Addr} {k : Nat} {fd : FuncData} {ps : List Str} {fl : List Str} {B newId initId : String} {t : List Value}
theorem exc_call (BX : BaseX B newId initId t) (T : OexG X.K C newId t) (iC : PySem.W.findIn X.K (.ref C) "__init__" = some (some (.ref fI))) (tI : PySem.W.typeIn X.K (.ref fI) = some (.type "function"))
    (F1 : FnG X.prog X.w X.K X.mg X.base k fI fd ps (spIni C fl)) (hr : Room (k + 1) X.A) (hgd : X.A.guards = some []) {pins : List (Addr × Obj)} {s1 : Shared} {σ : L2.St} {H1 : Hp} {Q : XK} {us as : List Value} {kw : List (Str × Value)} {vs : List V}
    (I1 : Inv X pins σ H1 s1) (hb : ∀ (s : Shared) (a : Value), BindsTo s fd ⟨a :: us, kw⟩ (ps.zip (a :: as))) (r1 : Vals vs as) (hfl : vs.length = fl.length) (hz : us.length ≤ 1000)
    (q1 : ∀ d, H1 d = none → Q (.ref C) (some d) (upd H1 d (.xd (fl.zip vs).reverse))) : wpAny (model X.prog X.w) X.A (call (.ref C) us kw) (L2N.MkP X pins σ Q) X.xe s1 := by
  obtain ⟨nm, q, N, bs, bm, sn, sub, ab, col, dd, k0, k1, k2, k3, k5, hC, hbm⟩ := T.cls
  obtain ⟨hp, g, dr, tk, os⟩ := s1
  have up1 : hp.objs.size ≤ hp.objs.size + 1 := Nat.le_succ _
  have nA : H1 (hp.objs.size + 1) = none := I1.hok.fresh up1
  have keep : ∀ b o, hp.get? b = some o → ((hp.push (PySem.W.kdv_tup us)).push (PySem.HandSPX.excO C hp.objs.size)).get? b = some o := fun b o e => Heap.get?_push_of_some _ (Heap.get?_push_of_some _ e)
  have there : ((hp.push (PySem.W.kdv_tup us)).push (PySem.HandSPX.excO C hp.objs.size)).get? (hp.objs.size + 1) = some (PySem.HandSPX.excO C hp.objs.size) := by heap_get
  have I2 : Inv X pins σ (upd H1 (hp.objs.size + 1) (exo (hp.objs.size + 1) C none)) ⟨(hp.push (PySem.W.kdv_tup us)).push (PySem.HandSPX.excO C hp.objs.size), g, dr, tk, os⟩ := I1.laid (t' := tk) keep up1 (exo_ok there)
  have r2 : Vals (V.ref (hp.objs.size + 1) :: vs) (Value.ref (hp.objs.size + 1) :: as) := .cons rfl r1
  have want : spIni C fl (V.ref (hp.objs.size + 1) :: vs) (upd H1 (hp.objs.size + 1) (exo (hp.objs.size + 1) C none))
      (fun v H2 => v = .non ∧ ∃ d, H2 = upd (upd (upd H1 (hp.objs.size + 1) (exo (hp.objs.size + 1) C none)) d (exd d (fl.zip vs).reverse)) (hp.objs.size + 1) (exo (hp.objs.size + 1) C (some d)) ∧ d ≠ hp.objs.size + 1 ∧ H1 d = none) (fun _ _ _ => False) := by
    refine ⟨_, _, rfl, hfl, upd_same, fun d nd ne => ⟨rfl, d, rfl, ne, ?_⟩⟩
    rwa [upd_ne ne] at nd
  refine wpAny_call (Vx.call_kw BX.base (fun Y => refsT_has Y bm hbm) (I1.kIn _ _ hC) (PySem.W.looks_findIn I1.kIn iC) (fun self => PySem.W.bind_fn I1.kIn self tI) (by rw [sizeLine_eq]; omega)
    (codeAny_mono (F1.run _ (show (X.A.under (.builtin "type.__call__" ⟨.ref C :: us, kw⟩)).guards = some [] from hgd) X.stack _ _ ⟨Value.ref (hp.objs.size + 1) :: us, kw⟩ (Value.ref (hp.objs.size + 1) :: as) _ _ (fun _ _ _ => False) (hr.make C us kw) (I2.env0.make C us kw) (hb _ _) r2 want) fun r s' hq' => ?_))
  cases r with
  | error er =>
    obtain ⟨_, _, _, _, _, _, _, _, _, _, _, _, z⟩ := hq'
    exact z.elim
  | ok f =>
    cases f with
    | ret u =>
      obtain ⟨v, H2, os2, bare2, un2, hok2, rv, ev, d, eH, ne, nd⟩ := hq'
      subst ev eH
      obtain ⟨h2, g2, d2, t2, os'⟩ := s'
      have ea : upd (upd (upd H1 (hp.objs.size + 1) (exo (hp.objs.size + 1) C none)) d (exd d (fl.zip vs).reverse)) (hp.objs.size + 1) (exo (hp.objs.size + 1) C (some d)) (hp.objs.size + 1) = some (exo (hp.objs.size + 1) C (some d)) := upd_same
      have ed : upd (upd (upd H1 (hp.objs.size + 1) (exo (hp.objs.size + 1) C none)) d (exd d (fl.zip vs).reverse)) (hp.objs.size + 1) (exo (hp.objs.size + 1) C (some d)) d = some (exd d (fl.zip vs).reverse) := by rw [upd_ne ne, upd_same]
      obtain ⟨t0, G, J, kG, ge, hoe, na⟩ := mk_end0 (d2 := d2) (t2 := t2) I1 up1 keep un2 hok2 os2 bare2 ea ed nd
      refine ⟨rv, _, _, _, ⟨G, g2, d2, t2, os'⟩, _, .ref C, some d, rfl, J, kG, ge, hoe, ⟨rfl, rfl, fun vs e => by cases e; rfl⟩, rfl, rfl, na, rfl, bare2, raises_own T.exC T.tyC, ?_⟩
      have eU : upd (del (upd (upd (upd H1 (hp.objs.size + 1) (exo (hp.objs.size + 1) C none)) d (exd d (fl.zip vs).reverse)) (hp.objs.size + 1) (exo (hp.objs.size + 1) C (some d))) (hp.objs.size + 1)) d (.xd (fl.zip vs).reverse) = upd H1 d (.xd (fl.zip vs).reverse) := by
        funext b
        by_cases h1 : b = d
        · subst h1; rw [upd_same, upd_same]
        · rw [upd_ne h1, upd_ne h1]
          by_cases h2 : b = hp.objs.size + 1
          · subst h2; rw [del_same, nA]
          · rw [del_ne h2, upd_ne h2, upd_ne h1, upd_ne h2]
      rw [eU]
      exact q1 d nd
    | next => exact hq'.elim
    | brk => exact hq'.elim
    | cont => exact hq'.elim
end
def mkXv (c : Str) (fl : List Str) : List Ev.D → M Ev.D := fun ds S => if ds.length = fl.length ∧ ds.length ≤ 1000 then .ok (.exv c (fl.zip ds).reverse) S else .bad
section
variable {P : Program} {w : World} {K : PySem.W.Frag} {mg : Str → Option Value} {base : Heap}
theorem exv_world {W : Wd} {S : Store} {H : Hp} {a d : Addr} {c : Str} {fl : List Str} {ds : List Ev.D} {vs : List V} (g : Good K W S H) (r : Reps K W ds vs) (hl : ds.length = fl.length) (nd : H d = none) (na : upd H d (.xd (fl.zip vs).reverse) a = none) :
    ∃ W', W.le W' ∧ Good K W' S (upd (upd H d (.xd (fl.zip vs).reverse)) a (exH a (.ref (He.ga K c)) (some d))) ∧ Rep K W' (.exv c (fl.zip ds).reverse) (.ref a) := by
  have lv : vs.length = fl.length := r.length.symm.trans hl
  have g1 := g.add nd (o := .xd (fl.zip vs).reverse)
  have ne : d ≠ a := fun e => by rw [e, upd_same] at na; cases na
  refine ⟨(W.add d (.xd (fl.zip vs).reverse)).add a (exH a (.ref (He.ga K c)) (some d)), (g.add_le nd).trans (g1.add_le na), g1.add na, .exv (d := some d) (vfs := (fl.zip vs).reverse) upd_same ?_ ?_ ?_⟩
  · show upd (upd W.F d _) a _ d = _
    rw [upd_ne ne, upd_same]
  · rw [List.map_reverse, List.map_reverse, zip_fst fl vs lv, zip_fst fl ds hl]
  · rw [List.map_reverse, List.map_reverse, zip_snd fl vs lv, zip_snd fl ds hl]
    exact ((r.mono (g.add_le nd).toLf).mono (g1.add_le na).toLf).reverse
theorem calG_exv {k : Nat} {fI : Addr} {c : Str} {fd : FuncData} {ps ks fl : List Str} {B newId initId : String} {t : List Value} (BX : BaseX B newId initId t) (T : OexG K (He.ga K c) newId t) (iC : PySem.W.findIn K (.ref (He.ga K c)) "__init__" = some (some (.ref fI))) (tI : PySem.W.typeIn K (.ref fI) = some (.type "function"))
    (F1 : FnG P w K mg base k fI fd ps (spIni (He.ga K c) fl)) (hb : BindK K fd ps ks) (hn : ps.length = fl.length + 1) : CalG P w K mg base (k + 1) (He.ga K c) ks (mkXv c fl) := by
  intro X Wx e1 e2 e3 e4 e5 hr hg tk
  subst e1 e2 e3 e4 e5
  intro pins s σ H vs zs us ws Q I r1 r2 hl ⟨W, S, ds, es, g, q1, q2, p⟩
  dsimp only at p
  unfold mkXv at p
  by_cases hlen : (ds ++ es).length = fl.length ∧ (ds ++ es).length ≤ 1000
  · rw [if_pos hlen] at p
    have l1 : ds.length = us.length := q1.length.trans (Paired.length r1)
    have l2 : ws.length = ks.length := (Paired.length r2).symm.trans hl
    have l3 : es.length = ks.length := q2.length.trans hl
    have hv : (vs ++ zs).length = fl.length := by rw [← hlen.1]; simp [q1.length, q2.length]
    have la := hlen.1
    have lb := hlen.2
    rw [List.length_append] at la lb
    refine thn (exc_call (kw := ks.zip ws) (as := us ++ ws) BX T iC tI F1 hr hg (Q := fun cls d H' => ∃ dx, d = some dx ∧ cls = .ref (He.ga X.K c) ∧ H dx = none ∧ H' = upd H dx (.xd (fl.zip (vs ++ zs)).reverse)) I (fun s a => hb s (a :: us) ws (by rw [hn]; simp only [List.length_cons]; omega) l2) (paired_append r1 r2) hv (by omega) fun d nd => ⟨d, rfl, rfl, nd, rfl⟩) fun u s' hu => ?_
    refine mkP_val hu fun a d cls H' ⟨dx, e1, e2, nd, e3⟩ na => ?_
    subst e1 e2 e3
    obtain ⟨W', l, g', r'⟩ := exv_world (c := c) g (q1.append q2) hlen.1 nd na
    exact p W' _ _ l g' r'
  · rw [if_neg hlen] at p
    exact p.elim
theorem pick_succ {α : Type} (is : List Nat) (x : α) (xs : List α) : pick (0 :: is.map (· + 1)) (x :: xs) = x :: pick is xs := by
  unfold pick
  simp [List.filterMap_map, Function.comp_def]
theorem calG_exvP {k : Nat} {fI : Addr} {c : Str} {fd : FuncData} {ps ks fl : List Str} {is : List Nat} {B newId initId : String} {t : List Value} (BX : BaseX B newId initId t) (T : OexG K (He.ga K c) newId t) (iC : PySem.W.findIn K (.ref (He.ga K c)) "__init__" = some (some (.ref fI))) (tI : PySem.W.typeIn K (.ref fI) = some (.type "function"))
    (F1 : FnG P w K mg base k fI fd ps (spIni (He.ga K c) fl)) (hb : BindP K fd ps ks (0 :: is.map (· + 1))) (hn : ps.length = fl.length + 1) (hi : is.length = fl.length) (hlt : ∀ i ∈ is, i < fl.length) : CalG P w K mg base (k + 1) (He.ga K c) ks (calP (mkXv c fl) fl.length is) := by
  intro X Wx e1 e2 e3 e4 e5 hr hg tk
  subst e1 e2 e3 e4 e5
  intro pins s σ H vs zs us ws Q I r1 r2 hl ⟨W, S, ds, es, g, q1, q2, p⟩
  dsimp only at p
  unfold calP at p
  by_cases hlen : (ds ++ es).length = fl.length
  · rw [if_pos hlen] at p
    unfold mkXv at p
    split at p
    · rename_i hl2
      have l1 : ds.length = us.length := q1.length.trans (Paired.length r1)
      have l2 : ws.length = ks.length := (Paired.length r2).symm.trans hl
      have l3 : es.length = ks.length := q2.length.trans hl
      have hv : (vs ++ zs).length = fl.length := by rw [← hlen]; simp [q1.length, q2.length]
      have hp : (pick is (vs ++ zs)).length = fl.length := by rw [pick_len (by rw [hv]; exact hlt), hi]
      have la := hlen
      have lb := hl2.2
      rw [List.length_append] at la
      rw [pick_len (by rw [hlen]; exact hlt)] at lb
      refine thn (exc_call (kw := ks.zip ws) (as := pick is (us ++ ws)) BX T iC tI F1 hr hg (Q := fun cls d H' => ∃ dx, d = some dx ∧ cls = .ref (He.ga X.K c) ∧ H dx = none ∧ H' = upd H dx (.xd (fl.zip (pick is (vs ++ zs))).reverse)) I (fun s a => by
        have := hb s (a :: us) ws (by rw [hn]; simp only [List.length_cons]; omega) l2
        rw [List.cons_append, pick_succ] at this
        exact this) (pick_paired (paired_append r1 r2)) hp (by omega) fun d nd => ⟨d, rfl, rfl, nd, rfl⟩) fun u s' hu => ?_
      refine mkP_val hu fun a d cls H' ⟨dx, e1, e2, nd, e3⟩ na => ?_
      subst e1 e2 e3
      obtain ⟨W', l, g', r'⟩ := exv_world (c := c) g (paired_reps (pick_paired (reps_paired (q1.append q2)))) hl2.1 nd na
      exact p W' _ _ l g' r'
    · exact p.elim
  · rw [if_neg hlen] at p
    exact p.elim
theorem calG_exv0 {k : Nat} {c : Str} {B newId initId : String} {bmB : List Value} (F : ExcBaseFacts B newId initId bmB) (q : PySem.W.excIn K (He.ga K c) bmB newId = true)
    (h1 : PySem.W.subIn K (.ref (He.ga K c)) (.type "BaseException") = some true) (h2 : PySem.W.typeIn K (.ref (He.ga K c)) = some (.type "type")) : CalG P w K mg base k (He.ga K c) [] (mkXv c []) := by
  intro X Wx e1 e2 e3 e4 e5 hr hg tk
  subst e1 e2 e3 e4 e5
  intro pins s σ H vs zs us ws Q I r1 r2 hl ⟨W, S, ds, es, g, q1, q2, p⟩
  dsimp only at p
  unfold mkXv at p
  by_cases hlen : (ds ++ es).length = ([] : List Str).length ∧ (ds ++ es).length ≤ 1000
  · rw [if_pos hlen] at p
    have l0 := hlen.1
    simp only [List.length_append, List.length_nil] at l0
    have ed : ds = [] := List.eq_nil_of_length_eq_zero (by omega)
    have ee : es = [] := List.eq_nil_of_length_eq_zero (by omega)
    subst ed ee
    cases q1
    cases q2
    cases r1
    cases r2
    obtain ⟨bm, N, nm, qn, bs, hdct, sn, sub, ab, col, dd, k0, k1, k2, k3, k5, mN, hC, hN, hni, T⟩ := exc_obj I.kIn q
    refine thn (wpAny_call_exc_subT F T hC hN hni (rest := []) (Q := L2N.MkP X pins σ fun cls d H' => cls = .ref (He.ga X.K c) ∧ d = none ∧ H' = H) (fun h' e hm => L2N.mk_of I hm (raises_own h1 h2) ⟨rfl, rfl, rfl⟩ (I.hok.gone hm.new)) (by rw [sizeLine_eq]; decide)) fun u s' hu => ?_
    refine mkP_val hu fun a d cls H' ⟨e1, e2, e3⟩ na => ?_
    subst e1 e2 e3
    exact p (W.add a (exH a (.ref (He.ga X.K c)) none)) _ _ (g.add_le na) (g.add na) (.exv (d := none) (vfs := []) upd_same rfl rfl .nil)
  · rw [if_neg hlen] at p
    exact p.elim
end
end Xm
namespace Xm
open PySem PySem.Spec PySem.Calls PyProof.Rows L2 Ev
section
variable {X : Cx} {pins : List (Addr × Obj)} {σ : L2.St} {H : Hp} {s : Shared} {c : Str} {fs : List (Str × Ev.D)} {W : Wd} {S : Store}
theorem exv_at (I : Inv X pins σ H s) (g : Good X.K W S H) {v : V} (r : Rep X.K W (.exv c fs) v) : ∃ a, v = .ref a ∧ ∃ oe od, PySem.W.InstAt s.heap a oe (He.ga X.K c) od ∧
    ∀ (f : Str) (e : Ev.D), fs.lookup f = some e → ∃ (ob : Obj) (u : Value) (w : V), od = some ob ∧ RelV w u ∧ Rep X.K W e w ∧ PySem.W.lookIn f ob = some (some u) := by
  cases r with
  | @exv a d _ vfs _ h0 h1 h2 h3 =>
    have hx : ObjOk X.prog X.w H s.heap a (exH a (.ref (He.ga X.K c)) d) := I.hok a _ (g.sub _ _ h0)
    obtain ⟨⟨oe, vs, ha, hz, hd⟩, _⟩ := hx
    cases d with
    | none =>
      obtain rfl : vfs = [] := h1
      have e0 : fs = [] := by
        have := congrArg List.length h2
        exact List.eq_nil_of_length_eq_zero (by simpa using this.symm)
      subst e0
      exact ⟨a, rfl, oe, none, ⟨ha, hz.1, by unfold PySem.W.notCls; rw [hd] <;> rfl, by rw [hz.2.1]; trivial⟩, fun f e z => by cases z⟩
    | some dx =>
      have hy : ObjOk X.prog X.w H s.heap dx (.xd vfs) := I.hok dx _ (g.sub _ _ h1)
      obtain ⟨mA, hns, hr⟩ := hy
      obtain ⟨od, ho, hl⟩ := lookIn_ns hns
      refine ⟨a, rfl, oe, some od, ⟨ha, hz.1, by unfold PySem.W.notCls; rw [hd] <;> rfl, by rw [hz.2.1]; exact ho⟩, fun f e z => ?_⟩
      obtain ⟨w, e1, e2⟩ := lookup_reps h2 h3 z
      obtain ⟨u, hu, ru⟩ := RelO.some_of (v := w) (o := mA f) (by rw [← e1]; exact hr f)
      exact ⟨od, u, w, rfl, ru, e2, by rw [hl, hu]⟩
end
section
variable {X : Cx} {Wx : WX} {o e ce : Expr} {mo : ME} {pos p : Pos} {k : Nat}
def eXvf (t : List (Str × Str)) (f : Str) (mo : ME) : ME := fun δ => M.bind (mo δ) fun v S => match v with
  | .exv c fs => if (c, f) ∈ t then (match fs.lookup f with
    | some e => .ok e S
    | none => .bad) else .bad
  | _ => .bad
theorem nXvf {t : List (Str × Str)} {f : Str} (C : Ct X Wx k) (kf : FlT X.K t) (ho : SE X Wx o mo) (hb : attributeBase o f X.env (eval o X.env) = eval o X.env := by rfl) : SE X Wx (.Attribute o f pos) (eXvf t f mo) := by
  refine ⟨fun pins s σ H Q I ⟨W, S, δ, g, r, pp⟩ => ?_⟩
  refine attr_of hb (thn (ho.run pins s σ H _ I ⟨W, S, δ, g, r, okP.bind (R := Rep X.K) pp⟩) fun u s1 ⟨v, H1, I1, rv, W1, S1, dd, l1, g1, r1, p1⟩ => ?_)
  cases dd with
  | exv c fs =>
    dsimp only at p1
    split at p1
    · rename_i hm
      cases e1 : fs.lookup f with
      | none => rw [e1] at p1; exact p1.elim
      | some z =>
        rw [e1] at p1
        obtain ⟨a', rfl, oe, od, J, hl⟩ := exv_at I1 g1 r1
        obtain ⟨ob, u2, w, rfl, ru, rw', hlk⟩ := hl f z e1
        obtain rfl : u = Value.ref a' := rv
        obtain ⟨xc, hno⟩ := kf _ hm
        exact HandSPX.exc_get I1.kIn J xc.xf.ga xc.xf.gg xc.xf.exC (PySem.W.findObj_own xc.xf.hdC hno rfl hlk) (handed_of ru) ⟨w, H1, I1.tok _, ru, p1 W1 H1 w W1.le_refl g1 rw'⟩
    · exact p1.elim
  | _ => exact p1.elim
def eXvi (t : List (Str × Ty × Bool)) (ty : Ty) (mo : ME) : ME := fun δ => M.bind (mo δ) fun v S => match v with
  | .exv c fs => if (c, ty, true) ∈ t then .ok (.bl true) S else if (c, ty, false) ∈ t then .ok (.bl false) S else .bad
  | _ => .bad
def rXvi (K : PySem.W.Frag) (t : List (Str × Ty × Bool)) (ty : Ty) (cv : V) : List V → Hp → VK → Prop := fun xs H Q => ∃ (W : Wd) (S : Store) (c : Str) (fs : List (Str × Ev.D)) (v : V) (b : Bool), xs = [v, cv] ∧ Good K W S H ∧ Rep K W (.exv c fs) v ∧ (c, ty, b) ∈ t ∧ Q (.bl b) H
theorem call_xvi {t : List (Str × Ty × Bool)} {ty : Ty} {cv : V} (kt : KitT X.K t) (hcv : ClsV cv (ty.val X.K)) : CallR X (.builtin "isinstance") (rXvi X.K t ty cv) := by
  intro pins s σ H xs us Q I r ⟨W, S, c, fs, v, b, ex, g, rp, hm, q⟩
  subst ex
  obtain ⟨u1, u2, rfl, r1, r2⟩ := vals2 r
  have e2 := hcv.eq r2
  subst e2
  obtain ⟨a', rfl, oe, od, J, _⟩ := exv_at I g rp
  obtain rfl : u1 = Value.ref a' := r1
  obtain ⟨xc, hk⟩ := kt _ hm
  exact PySem.W.kia_one (PySem.W.kitx_exc xc.cl xc.xf.ga xc.xf.gg xc.xf.exC xc.ha xc.hn xc.ht xc.hm) I.kIn J hk (fun z => nomatch z) fun tk => ⟨.bl b, H, I.tok tk, rfl, q⟩
theorem nXvi {t : List (Str × Ty × Bool)} {ty : Ty} {cv : V} (C : Ct X Wx k) (kt : KitT X.K t) (ho : SE X Wx o mo) (hc : PE X ce (tC cv)) (hcv : ClsV cv (ty.val X.K)) (hm : X.mg "isinstance" = none) (hgl : Gl X "isinstance" := by rfl)
    (h1 : starEach [o, ce] X.env = (false, eval o X.env) :: starEach [ce] X.env := by rfl) (h2 : starEach [ce] X.env = (false, eval ce X.env) :: starEach [] X.env := by rfl) : SE X Wx (.Call (.Name "isinstance" p) [o, ce] [] pos) (eXvi t ty mo) :=
  PE.imp (pe_callB (call_xvi kt hcv) hgl hm (by decide +kernel) (pa_cons ho (pa_cons hc pa_nil h2) h1) (by decide) (by decide) h1 (by rw [h2]; rfl)) fun σ H Q ⟨W, S, δ, g, r, p⟩ => ⟨W, S, δ, g, r, (okP.bind (R := Rep X.K) p).imp fun v H1 ⟨W1, S1, dd, l1, g1, r1, p1⟩ => by
    cases dd with
    | exv c fs =>
      dsimp only at p1
      split at p1
      · rename_i hm
        exact ⟨W1, S1, c, fs, v, true, rfl, g1, r1, hm, p1 W1 H1 _ W1.le_refl g1 (.bl true)⟩
      · split at p1
        · rename_i hm
          exact ⟨W1, S1, c, fs, v, false, rfl, g1, r1, hm, p1 W1 H1 _ W1.le_refl g1 (.bl false)⟩
        · exact p1.elim
    | _ => exact p1.elim⟩
end
end Xm
namespace Ev
open PySem PySem.Spec PySem.SeqAt L2 PyProof.Rows
section
variable {X : Cx} {Wx : WX} {K : PySem.W.Frag} {W : Wd} {S : Store} {H : Hp} {pos pos' p : Pos} {k v : Expr}
def eDI (i j : Int) : ME := fun _ => lft fun S => some (.ref S.length, S ++ [some (.dK [(.inl i, .int j)])])
theorem upd_upd {H : Hp} {a : Addr} {o o' : HO} : upd (upd H a o) a o' = upd H a o' := funext fun b => by
  by_cases e : b = a
  · subst e; rw [upd_same, upd_same]
  · rw [upd_ne e, upd_ne e, upd_ne e]
theorem se_dI {i j : Int} (hk : PE X k (tC (.int i))) (hv : PE X v (tC (.int j))) : SE X Wx (.Dict [some k] [v] pos) (eDI i j) := PE.imp (pe_disp (pps_cons hk hv pps_nil) rfl rfl (by simp) (by simp)) fun σ H Q ⟨W, S, δ, g, r, h⟩ => fun a n => by
  have h' := h.lft
  refine ⟨upd_same, [(.inl i, .int j)], rfl, by simp, ?_⟩
  rw [upd_upd]
  exact h' (W.addC a) _ _ (Wd.addC_le W a) (g.addC (c := .dK [(.inl i, .int j)]) n ⟨[(.inl i, .int j)], upd_same, rfl, .cons (.int j) .nil⟩) (.ref (by simp [Wd.addC, ← g.len]))
end
end Ev
namespace Ev
open PySem PySem.Spec PySem.SeqAt L2 PyProof.Rows PySem.W
mutual
def toPY (S : Store) : D → Option PyData
  | .non => some .none
  | .bl b => some (.bool b)
  | .int i => some (.int i)
  | .str s => some (.str s)
  | .tup xs => (toPYs S xs).map .tuple
  | .lst xs => (toPYs S xs).map .list
  | .ref i => (match S[i]? with
    | some (some (.dT [])) => some (.dict [])
    | some (some (.dK [(.inl i, .int j)])) => some (.dict [(.int i, .int j)])
    | _ => none)
  | .ins _ _ => none
  | .fn _ => none
  | .scr _ => none
  | .slf => none
  | .dic _ => none
  | .dlk _ => none
  | .tpx _ => none
  | .exv _ _ => none
  | .exn _ _ _ _ => none
  | .lam _ _ _ _ _ => none
def toPYs (S : Store) : List D → Option (List PyData)
  | [] => some []
  | x :: xs => (toPY S x).bind fun a => (toPYs S xs).map fun b => a :: b
end
section
variable {X : Cx} {pins : List (Addr × Obj)} {σ : L2.St} {H : Hp} {s : Shared} {W : Wd} {S : Store}
theorem keyIs_inl {i : Int} {v : Value} (h : keyIs (.inl i) v = true) : ∃ t, v = .int i t := by
  rcases keyIs_shape h with ⟨j, t, e, hv⟩ | ⟨x, t, e, hv⟩
  · injection e with e; subst e; exact ⟨t, hv⟩
  · cases e
theorem pairs_one {prog : Program} {w : World} {es : List DictEntry} {k : Key} {v : Value} (h : Pairs (mixKind prog w) es [(k, v)]) : ∃ e, es = [e] ∧ keyIs k e.key = true ∧ e.val = v := by
  cases h with
  | cons h1 h2 h3 =>
    cases h3
    exact ⟨_, rfl, h1, h2⟩
mutual
theorem reads_ofNY (hB : ∃ o, X.base.get? sysModules = some o) (I : Inv X pins σ H s) (g : Good X.K W S H) : ∀ (d : D) (v : V) (u : Value) (p : PyData), toPY S d = some p → Rep X.K W d v → RelV v u → ∃ as, Reads s.heap u p as ∧ sysModules ∉ as
  | .non, v, u, p, e, q, r => by cases e; cases q; cases r; exact ⟨_, .none, List.not_mem_nil⟩
  | .bl b, v, u, p, e, q, r => by cases e; cases q; cases r; exact ⟨_, .bool b, List.not_mem_nil⟩
  | .int i, v, u, p, e, q, r => by cases e; cases q; obtain ⟨t, rfl⟩ := r; exact ⟨_, .int i t, List.not_mem_nil⟩
  | .str i, v, u, p, e, q, r => by cases e; cases q; obtain ⟨t, rfl⟩ := r; exact ⟨_, .str i t, List.not_mem_nil⟩
  | .tup ds, v, u, p, e, q, r => by
    simp only [toPY] at e
    obtain ⟨ps, e1, rfl⟩ := Option.map_eq_some_iff.mp e
    cases q with
    | tup q r' =>
      cases r
      obtain ⟨its, rv, ⟨o, ho, hc, n, hd⟩, hz⟩ := I.tuple (g.sqT q)
      obtain ⟨as, ra, nm⟩ := readsAll_ofNY hB I g ds _ _ _ e1 r' rv
      exact ⟨as, .tuple ho hc hd (by simpa using ra), nm⟩
  | .lst ds, v, u, p, e, q, r => by
    simp only [toPY] at e
    obtain ⟨ps, e1, rfl⟩ := Option.map_eq_some_iff.mp e
    cases q with
    | lst q r' =>
      cases r
      obtain ⟨its, rv, ⟨o, n, ho, hc, _, hd⟩, hz⟩ := I.list (SqL.of (K := X.K) (g.sub _ _ q))
      obtain ⟨as, ra, nm⟩ := readsAll_ofNY hB I g ds _ _ _ e1 r' rv
      exact ⟨_, .list ho hc hd (by simpa using ra), fun z => (List.mem_cons.mp z).elim (fun z => not_sys hB I (g.sub _ _ q) z.symm) nm⟩
  | .ref i, v, u, p, e, q, r => by
    simp only [toPY] at e
    split at e
    · rename_i es
      cases e
      obtain ⟨a, h1, h2, h3, h4⟩ := g.cell i _ es
      cases q with
      | ref q =>
        rw [h1] at q
        cases q
        obtain rfl : u = Value.ref a := r
        obtain ⟨vk, k1, k2, k3⟩ := h4
        have : vk = [] := by simpa using k2
        subst this
        obtain ⟨_, ns, xs, kt, o, es', ep, d1, d2, d3, d4, _⟩ := dt_of I.hok k1
        cases kt
        have : es'.toList = [] := by simpa using d4
        exact ⟨_, .dict (kvs := []) d1 d2.1 d3 (by rw [this]; exact .nil) (by rw [this]; exact .nil), fun z => by
          have z' : sysModules = a := by simpa using z
          rw [← z'] at ns
          simp at ns⟩
    · rename_i i0 j0 es
      cases e
      obtain ⟨a, h1, h2, h3, h4⟩ := g.cell i _ es
      cases q with
      | ref q =>
        rw [h1] at q
        cases q
        obtain rfl : u = Value.ref a := r
        obtain ⟨vk, k1, k2, k3⟩ := h4
        obtain ⟨_, ns, xs, kv, o, es', ep, d1, d2, d3, _, d4, _⟩ := dk_of I.hok k1
        match vk, k2, k3, kv, d4 with
        | [(k0, v0)], k2, k3, kv, d4 =>
          have ek : k0 = .inl i0 := by simpa using k2
          subst ek
          cases k3 with
          | cons q3 _ =>
            cases q3
            cases kv with
            | @cons _ p _ ps hp ht =>
              cases ht
              obtain ⟨pk, pv⟩ := p
              obtain ⟨hk, tv, rfl⟩ := hp
              dsimp at hk
              subst hk
              obtain ⟨en, e1, e2, e3⟩ := pairs_one d4
              obtain ⟨t0, e4⟩ := keyIs_inl e2
              refine ⟨_, .dict (kvs := [(.int i0, .int j0)]) d1 d2.1 d3 (as := [] ++ []) (bs := [] ++ []) ?_ ?_, fun z => ?_⟩
              · rw [e1]
                show ReadsAll _ [en.key] [PyData.int i0] _
                rw [e4]
                exact .cons (.int i0 t0) .nil
              · rw [e1]
                show ReadsAll _ [en.val] [PyData.int j0] _
                rw [e3]
                exact .cons (.int j0 tv) .nil
              · have z' : sysModules = a := by simpa using z
                rw [← z'] at ns
                simp at ns
    · cases e
  | .ins _ _, v, u, p, e, q, r => by cases e
  | .fn _, v, u, p, e, q, r => by cases e
  | .scr _, v, u, p, e, q, r => by cases e
  | .slf, v, u, p, e, q, r => by cases e
  | .dic _, v, u, p, e, q, r => by cases e
  | .dlk _, v, u, p, e, q, r => by cases e
  | .tpx _, v, u, p, e, q, r => by cases e
  | .exv _ _, v, u, p, e, q, r => by cases e
  | .exn _ _ _ _, v, u, p, e, q, r => by cases e
  | .lam _ _ _ _ _, v, u, p, e, q, r => by cases e
theorem readsAll_ofNY (hB : ∃ o, X.base.get? sysModules = some o) (I : Inv X pins σ H s) (g : Good X.K W S H) : ∀ (ds : List D) (vs : List V) (us : List Value) (ps : List PyData), toPYs S ds = some ps → Reps X.K W ds vs → Vals vs us → ∃ as, ReadsAll s.heap us ps as ∧ sysModules ∉ as
  | [], vs, us, ps, e, q, r => by cases e; cases q; cases r; exact ⟨_, .nil, List.not_mem_nil⟩
  | d :: ds, vs, us, ps, e, q, r => by
    simp only [toPYs] at e
    obtain ⟨p1, e1, e2⟩ := Option.bind_eq_some_iff.mp e
    obtain ⟨p2, e3, rfl⟩ := Option.map_eq_some_iff.mp e2
    cases q with
    | cons q1 q2 =>
      cases r with
      | cons r1 r2 =>
        obtain ⟨as, ra, na⟩ := reads_ofNY hB I g d _ _ _ e1 q1 r1
        obtain ⟨bs, rb, nb⟩ := readsAll_ofNY hB I g ds _ _ _ e3 q2 r2
        exact ⟨_, .cons ra rb, fun z => (List.mem_append.mp z).elim na nb⟩
end
def toPU (S : Store) (d : D) : Option PyData := match plstOf S d with
  | some ds => (toPYs S ds).map .list
  | none => toPY S d
theorem reads_ofU (hB : ∃ o, X.base.get? sysModules = some o) (I : Inv X pins σ H s) (g : Good X.K W S H) {d : D} {v : V} {u : Value} {p : PyData} (e : toPU S d = some p) (q : Rep X.K W d v) (r : RelV v u) : ∃ as, Reads s.heap u p as ∧ sysModules ∉ as := by
  unfold toPU at e
  cases e0 : plstOf S d with
  | none =>
    rw [e0] at e
    exact reads_ofNY hB I g d v u p e q r
  | some ds =>
    rw [e0] at e
    obtain ⟨ps, e1, rfl⟩ := Option.map_eq_some_iff.mp e
    obtain ⟨a, vs, rfl, hH, rs⟩ := plstOf_ok e0 g q
    obtain rfl : u = Value.ref a := r
    obtain ⟨its, rv, ⟨o, n, ho, hc, _, hd⟩, hz⟩ := I.list (SqL.of (K := X.K) hH)
    obtain ⟨as, ra, nm⟩ := readsAll_ofNY hB I g ds _ _ _ e1 rs rv
    exact ⟨_, .list ho hc hd (by simpa using ra), fun z => (List.mem_cons.mp z).elim (fun z => not_sys hB I hH z.symm) nm⟩
end
end Ev
namespace Ev
open PySem PySem.Spec PySem.SeqAt L2 PyProof.Rows PySem.W
section
variable {X : Cx} {pins : List (Addr × Obj)} {σ : L2.St} {H : Hp} {s : Shared} {W : Wd} {S : Store}
def pReprZ : List D → PO := fun ds S => match ds with
  | [x] => (match toPU S x with
    | some p => if p.showable = true ∧ p.shown.length ≤ sizeLine ∧ p.depth ≤ 60 then some (.str p.shown, S) else none
    | none => none)
  | _ => none
theorem cr_pReprZ (hB : ∃ o, X.base.get? sysModules = some o) (hg : X.A.guards = some []) (hu : X.A.units + 64 < cLine) : CallR X (.builtin "repr") (rDC X.K pReprZ) := fun pins s σ H vs us Q I rv ⟨W, S, ds, g, r, p⟩ => by
  match ds, r, p with
  | [d], r, p =>
    obtain ⟨v, rfl, q⟩ := reps1 r
    obtain ⟨u, rfl, ru⟩ := vals1 rv
    simp only [pReprZ] at p
    cases e : toPU S d with
    | none => rw [e] at p; exact p.elim
    | some pd =>
      rw [e] at p
      obtain ⟨as, ra, nm⟩ := reads_ofU hB I g e q ru
      dsimp only at p
      split at p
      · rename_i h
        have done : ∀ (x : Str) (s' : Shared), s' = { s with toks := s.toks + 1 } → x = pd.shown → (EP X pins σ Q) (.str x s.toks) s' := fun x s' e1 e2 => by
          subst e1 e2
          exact ⟨.str _, H, I.kept (t' := s.toks + 1) (fun _ _ e => e), ⟨s.toks, rfl⟩, p.val g (.str _)⟩
        have go : ∀ {a : Addr}, u = .ref a → wpAny (model X.prog X.w) X.A (call (.builtin "repr") [u]) (EP X pins σ Q) X.xe s := by
          intro a eu
          subst eu
          exact repr_of_reads' ra h.1 (fun _ => nm) hg (by omega) (fun _ _ e => e) (fun h' u' tk hk => ⟨.str _, H, I.kept (t' := tk) hk, ⟨u', rfl⟩, p.val g (.str _)⟩) h.2.1
        cases ra with
        | list h1 h2 h3 h4 => exact go rfl
        | tuple h1 h2 h3 h4 => exact go rfl
        | dict h1 h2 h3 h4 h5 => exact go rfl
        | none => exact P.repr_of_none (done _ _ rfl rfl)
        | bool b => exact P.repr_of_bool (done _ _ rfl (by cases b <;> rfl))
        | int i tk => exact P.repr_of_int (by have := h.1; simpa [PyData.showable] using this) (done _ _ rfl rfl)
        | str x tk => exact P.repr_of_str (done _ _ rfl rfl) h.2.1
      · exact p.elim
end
end Ev
namespace Bd
open PySem L2 Ev
def isi : List (Ty × Ty × Bool) := [(.blt "NoneType", .blt "str", false), (.blt "NoneType", .blt "tuple", false), (.blt "NoneType", .blt "int", false), (.blt "NoneType", .blt "list", false), (.blt "NoneType", .blt "bool", false), (.blt "bool", .blt "str", false), (.blt "bool", .blt "tuple", false), (.blt "bool", .blt "int", true), (.blt "bool", .blt "list", false), (.blt "bool", .blt "bool", true), (.blt "int", .blt "str", false), (.blt "int", .blt "tuple", false), (.blt "int", .blt "int", true), (.blt "int", .blt "list", false), (.blt "int", .blt "bool", false), (.blt "str", .blt "str", true), (.blt "str", .blt "tuple", false), (.blt "str", .blt "int", false), (.blt "str", .blt "list", false), (.blt "str", .blt "bool", false), (.blt "tuple", .blt "str", false), (.blt "tuple", .blt "tuple", true), (.blt "tuple", .blt "int", false), (.blt "tuple", .blt "list", false), (.blt "tuple", .blt "bool", false), (.blt "list", .blt "str", false), (.blt "list", .blt "tuple", false), (.blt "list", .blt "int", false), (.blt "list", .blt "list", true), (.blt "list", .blt "bool", false), (.blt "dict", .blt "str", false), (.blt "dict", .blt "tuple", false), (.blt "dict", .blt "int", false), (.blt "dict", .blt "list", false), (.blt "dict", .blt "bool", false), (.blt "NoneType", .own "Table", false), (.blt "bool", .own "Table", false), (.blt "int", .own "Table", false), (.blt "str", .own "Table", false), (.blt "tuple", .own "Table", false), (.blt "list", .own "Table", false), (.blt "dict", .own "Table", false), (.own "Table", .blt "str", false), (.own "Table", .blt "tuple", false), (.own "Table", .blt "int", false), (.own "Table", .blt "list", false), (.own "Table", .blt "bool", false), (.own "Table", .own "Table", true)]
def b__law_take (cal : Nat → List D → M D) : MS :=
    (sSeq (sIf (fun δ => asB (eOp pGt (eOp pIx (eVar 0) (eC (.int 0))) (eC (.int 0)) δ)) (sSeq (sAsg (eCallV (pDivmod) (aCons (eOp pIx (eVar 0) (eC (.int 0))) (aCons (eVar 1) aNil))) (gTp 2 (gCs (gSb pStore (eVar 0) (eC (.int 0))) (gCs (gNm 2) gNl))))
    (sRet (eVar 2))) sNext)
    (sSeq (sAsg (eOp pAdd (eOp pIx (eVar 0) (eC (.int 2))) (eC (.int 1))) (gSb pStore (eVar 0) (eC (.int 2))))
    (sSeq (sAsg (eOp pMod (eCallV pInt (aCons (eOp pAdd (eOp pAdd (eOp pMul (eOp pIx (eVar 0) (eC (.int 1))) (eOp pAdd (eOp pMod (eCallV pInt (aCons (eOp pFdiv (eOp pIx (eVar 0) (eC (.int 1))) (eC (.int 64))) aNil)) (eC (.int 26003))) (eC (.int 23)))) (eOp pMul (eC (.int 18013)) (eOp pIx (eVar 0) (eC (.int 2))))) (eC (.int 11))) aNil)) (eC (.int 2147483323))) (gSb pStore (eVar 0) (eC (.int 1))))
    (sRet (eOp pMod (eCallV pInt (aCons (eOp pFdiv (eOp pIx (eVar 0) (eC (.int 1))) (eC (.int 1024))) aNil)) (eVar 1))))))
def b__law_tray (cal : Nat → List D → M D) : MS :=
    (sSeq (sPar2 2 3 (aCons (eIf (fun δ => asB (eOp pLt (eVar 1) (eCallV (pLen) (aCons (eVar 0) aNil)) δ)) (eOp pIx (eVar 0) (eVar 1)) (eC (.int 0))) (aCons (eOp pAdd (eC (.int 173205)) (eOp pMul (eC (.int 80021)) (eVar 1))) aNil)))
    (sSeq (sFor (iR1 (aCons (eCallV (pMin) (aCons (eCallV (pLen) (aCons (eVar 0) aNil)) (aCons (eC (.int 9)) aNil))) aNil)) (gNm 4) (sAsg (eOp pMod (eCallV pInt (aCons (eOp pAdd (eOp pAdd (eOp pMul (eVar 3) (eOp pAdd (eC (.int 30011)) (eOp pMul (eC (.int 2)) (eVar 4)))) (eOp pMul (eC (.int 13)) (eOp pIx (eVar 0) (eVar 4)))) (eC (.int 8009))) aNil)) (eC (.int 2147483323))) (gNm 3)))
    (sRet (eLstC (aCons (eIf (tOrM (fun δ => asB (eOp pLt (eVar 2) (eC (.int 0)) δ)) (fun δ => asB (eOp pGe (eVar 2) (eOp pPow (eC (.int 10)) (eC (.int 18))) δ))) (eCallV (pAbs) (aCons (eVar 2) aNil)) (eC (.int 0))) (aCons (eOp pMod (eCallV pInt (aCons (eOp pAdd (eOp pMul (eVar 3) (eC (.int 5))) (eOp pMul (eVar 2) (eC (.int 6007)))) aNil)) (eC (.int 2147483323))) (aCons (eC (.int 3)) aNil)))))))
end Bd
namespace Bd
open PySem L2 Ev Xm
end Bd
namespace Ev
open PySem PySem.Spec PySem.SeqAt L2 PyProof.Rows
section
variable {X : Cx} {Wx : WX} {K : PySem.W.Frag} {W : Wd} {S : Store} {H : Hp} {pos pos' p : Pos} {c e o i value : Expr}
end
end Ev
namespace Bd
open PySem L2 Ev Xm
def b_law_v66 (cal : Nat → List D → M D) : MS :=
    (sSeq (sIf (fun δ => asB (eOp pNe (eCallV pReprZ (aCons (eLst (aCons (eC (.int 8)) (aCons (eC (.int 8)) (aCons (eC (.int 1000000000000000000000000000000)) (aCons (eC (.int 3)) (aCons (eC (.int 9)) aNil)))))) aNil)) (eCallV pReprZ (aCons (eLst (aCons (eC (.int 8)) (aCons (eC (.int 8)) (aCons (eOp pPow (eC (.int 10)) (eC (.int 30))) (aCons (eC (.int 3)) (aCons (eC (.int 9)) aNil)))))) aNil)) δ)) (sRet (eC (.bl false))) sNext)
    (sRet (eCallV (pAll true) (aCons (eLc newL (iR1 (aCons (eCallV (pMax) (aCons (eC (.int 2)) (aCons (eCallV (pMin) (aCons (eCallV (pLen) (aCons (eVar 0) aNil)) (aCons (eC (.int 5)) aNil))) aNil))) aNil)) (uNm 1) tYesM (eCal (cal 550) (aCons (eCal (cal 5) (aCons (eVar 0) (aCons (eVar 1) aNil))) aNil)) [1]) aNil))))
def b__law_right_v65 (cal : Nat → List D → M D) : MS :=
    (sSeq (sPar2 1 2 (aCons (eCal (cal 356) (aCons (eVar 0) aNil)) (aCons (eCal (cal 356) (aCons (eVar 0) aNil)) aNil)))
    (sSeq (sFor (iAny (eOp pAdd (eCal (cal 547) (aCons (eVar 1) aNil)) (eCal (cal 546) (aCons (eVar 1) aNil)))) (gTp 2 (gCs (gNm 3) (gCs (gNm 4) gNl))) (sIf (fun δ => asB (eOp pNe (eCallV pReprZ (aCons (eCal (cal 549) (aCons (eVar 3) aNil)) aNil)) (eCallV pReprZ (aCons (eTup (aCons (eVar 4) (aCons (eVar 1) aNil))) aNil)) δ)) (sRet (eC (.bl false))) sNext))
    (sSeq (sFor (iAny (eLst (aCons (eTup (aCons (eCal (mkXv "Empty" []) aNil) (aCons (eC (.str "Empty")) aNil))) (aCons (eTup (aCons (eCal (mkXv "NotThePrice" []) aNil) (aCons (eC (.str "NotThePrice")) aNil))) (aCons (eTup (aCons (eCal (mkXv "NothingToUndo" []) aNil) (aCons (eC (.str "NothingToUndo")) aNil))) aNil))))) (gTp 2 (gCs (gNm 3) (gCs (gNm 4) gNl))) (sIf (fun δ => asB (eOp pNe (eCal (cal 549) (aCons (eVar 3) aNil)) (eTup (aCons (eVar 4) (aCons (eC (.str "")) aNil))) δ)) (sRet (eC (.bl false))) sNext))
    (sSeq (sAsg (eLst (aCons (eCal (cal 549) (aCons (eCal (mkXv "Broken" ["index", "shown"]) (aCons (eVar 1) (aCons (eVar 2) aNil))) aNil)) (aCons (eCal (cal 549) (aCons (eCal (calP (mkXv "Broken" ["index", "shown"]) 2 [1, 0]) (aCons (eVar 2) (aCons (eVar 1) aNil))) aNil)) aNil))) (gNm 5))
    (sRet (eOp pEq (eCallV pReprZ (aCons (eVar 5) aNil)) (eCallV pReprZ (aCons (eOp pMul (eLst (aCons (eTup (aCons (eC (.str "Broken")) (aCons (eTup (aCons (eVar 1) (aCons (eVar 2) aNil))) aNil))) aNil)) (eC (.int 2))) aNil))))))))
def b__law_tale_v2 (cal : Nat → List D → M D) : MS :=
    (sSeq (sAsg (eCal (cal 548) (aCons (eVar 0) aNil)) (gNm 1))
    (sSeq (sFor (iAny (eLst (aCons (eC (.str "InvalidText")) (aCons (eC (.str "InvalidNumber")) (aCons (eC (.str "InvalidLot")) (aCons (eC (.str "InvalidPart")) (aCons (eC (.str "InvalidRow")) (aCons (eC (.str "InvalidName")) (aCons (eC (.str "InvalidIndex")) (aCons (eC (.str "InvalidClaim")) (aCons (eC (.str "InvalidCommand")) (aCons (eC (.str "NotATable")) aNil)))))))))))) (gNm 2) (sIf (fun δ => asB (eOp pEq (eVar 1) (eOp pAdd (eC (.str "V BadValue ")) (eVar 2)) δ)) (sRet (eTup (aCons (eVar 2) (aCons (eXvf xt_v17.fl "given" (eVar 0)) aNil)))) sNext))
    (sSeq (sFor (iAny (eLst (aCons (eC (.str "InvalidPrices")) (aCons (eC (.str "InvalidGains")) (aCons (eC (.str "InvalidShares")) (aCons (eC (.str "InvalidStretches")) aNil)))))) (gNm 2) (sIf (fun δ => asB (eOp pEq (eVar 1) (eOp pAdd (eC (.str "V BadValue ")) (eVar 2)) δ)) (sRet (eTup (aCons (eVar 2) (aCons (eXvf xt_v17.fl "index" (eVar 0)) aNil)))) sNext))
    (sSeq (sFor (iAny (eLst (aCons (eC (.str "Empty")) (aCons (eC (.str "NotThePrice")) (aCons (eC (.str "NothingToUndo")) aNil))))) (gNm 2) (sIf (fun δ => asB (eOp pEq (eVar 1) (eOp pAdd (eC (.str "A NoAnswer ")) (eVar 2)) δ)) (sRet (eTup (aCons (eVar 2) (aCons (eC (.str "")) aNil)))) sNext))
    (sSeq (sIf (fun δ => asB (eOp pEq (eVar 1) (eC (.str "L BadName UnknownName")) δ)) (sRet (eTup (aCons (eC (.str "UnknownName")) (aCons (eXvf xt_v17.fl "given" (eVar 0)) aNil)))) sNext)
    (sSeq (sIf (fun δ => asB (eOp pEq (eVar 1) (eC (.str "L BadName InUse")) δ)) (sRet (eTup (aCons (eC (.str "InUse")) (aCons (eXvf xt_v17.fl "index" (eVar 0)) aNil)))) sNext)
    (sSeq (sIf (fun δ => asB (eOp pEq (eVar 1) (eC (.str "A NoAnswer TooMany")) δ)) (sRet (eTup (aCons (eC (.str "TooMany")) (aCons (eXvf xt_v17.fl "limit" (eVar 0)) aNil)))) sNext)
    (sSeq (sIf (fun δ => asB (eOp pEq (eVar 1) (eC (.str "A NoAnswer OddRing")) δ)) (sRet (eTup (aCons (eC (.str "OddRing")) (aCons (eXvf xt_v17.fl "ring" (eVar 0)) aNil)))) sNext)
    (sRet (eIf (fun δ => asB (eOp pEq (eVar 1) (eC (.str "A NoAnswer Broken")) δ)) (eTup (aCons (eC (.str "Broken")) (aCons (eTup (aCons (eXvf xt_v17.fl "index" (eVar 0)) (aCons (eXvf xt_v17.fl "shown" (eVar 0)) aNil))) aNil))) (eTup (aCons (eC (.str "odd")) (aCons (eVar 1) aNil)))))))))))))
def b__law_by_place (cal : Nat → List D → M D) : MS :=
    (sSeq (sAsg (eLst (aCons (eTup (aCons (eCal (mkXv "InvalidText" ["given"]) (aCons (eVar 0) aNil)) (aCons (eC (.str "InvalidText")) aNil))) (aCons (eTup (aCons (eCal (mkXv "InvalidNumber" ["given"]) (aCons (eVar 0) aNil)) (aCons (eC (.str "InvalidNumber")) aNil))) aNil))) (gNm 1))
    (sSeq (sAsg (eOp pAdd (eVar 1) (eLst (aCons (eTup (aCons (eCal (mkXv "InvalidLot" ["given"]) (aCons (eVar 0) aNil)) (aCons (eC (.str "InvalidLot")) aNil))) (aCons (eTup (aCons (eCal (mkXv "InvalidPart" ["given"]) (aCons (eVar 0) aNil)) (aCons (eC (.str "InvalidPart")) aNil))) aNil)))) (gNm 1))
    (sSeq (sAsg (eOp pAdd (eVar 1) (eLst (aCons (eTup (aCons (eCal (mkXv "InvalidRow" ["given"]) (aCons (eVar 0) aNil)) (aCons (eC (.str "InvalidRow")) aNil))) (aCons (eTup (aCons (eCal (mkXv "InvalidName" ["given"]) (aCons (eVar 0) aNil)) (aCons (eC (.str "InvalidName")) aNil))) aNil)))) (gNm 1))
    (sSeq (sAsg (eOp pAdd (eVar 1) (eLst (aCons (eTup (aCons (eCal (mkXv "InvalidIndex" ["given"]) (aCons (eVar 0) aNil)) (aCons (eC (.str "InvalidIndex")) aNil))) (aCons (eTup (aCons (eCal (mkXv "InvalidClaim" ["given"]) (aCons (eVar 0) aNil)) (aCons (eC (.str "InvalidClaim")) aNil))) aNil)))) (gNm 1))
    (sSeq (sAsg (eOp pAdd (eVar 1) (eLst (aCons (eTup (aCons (eCal (mkXv "InvalidCommand" ["given"]) (aCons (eVar 0) aNil)) (aCons (eC (.str "InvalidCommand")) aNil))) (aCons (eTup (aCons (eCal (mkXv "NotATable" ["given"]) (aCons (eVar 0) aNil)) (aCons (eC (.str "NotATable")) aNil))) aNil)))) (gNm 1))
    (sSeq (sAsg (eOp pAdd (eVar 1) (eLst (aCons (eTup (aCons (eCal (mkXv "InvalidPrices" ["index"]) (aCons (eVar 0) aNil)) (aCons (eC (.str "InvalidPrices")) aNil))) (aCons (eTup (aCons (eCal (mkXv "InvalidGains" ["index"]) (aCons (eVar 0) aNil)) (aCons (eC (.str "InvalidGains")) aNil))) aNil)))) (gNm 1))
    (sSeq (sAsg (eOp pAdd (eVar 1) (eLst (aCons (eTup (aCons (eCal (mkXv "InvalidShares" ["index"]) (aCons (eVar 0) aNil)) (aCons (eC (.str "InvalidShares")) aNil))) (aCons (eTup (aCons (eCal (mkXv "InvalidStretches" ["index"]) (aCons (eVar 0) aNil)) (aCons (eC (.str "InvalidStretches")) aNil))) aNil)))) (gNm 1))
    (sSeq (sAsg (eOp pAdd (eVar 1) (eLst (aCons (eTup (aCons (eCal (mkXv "UnknownName" ["given"]) (aCons (eVar 0) aNil)) (aCons (eC (.str "UnknownName")) aNil))) (aCons (eTup (aCons (eCal (mkXv "InUse" ["index"]) (aCons (eVar 0) aNil)) (aCons (eC (.str "InUse")) aNil))) aNil)))) (gNm 1))
    (sRet (eOp pAdd (eVar 1) (eLst (aCons (eTup (aCons (eCal (mkXv "TooMany" ["limit"]) (aCons (eVar 0) aNil)) (aCons (eC (.str "TooMany")) aNil))) (aCons (eTup (aCons (eCal (mkXv "OddRing" ["ring"]) (aCons (eVar 0) aNil)) (aCons (eC (.str "OddRing")) aNil))) aNil)))))))))))))
def b__law_by_name (cal : Nat → List D → M D) : MS :=
    (sSeq (sAsg (eLst (aCons (eTup (aCons (eCal (mkXv "InvalidText" ["given"]) (aCons (eVar 0) aNil)) (aCons (eC (.str "InvalidText")) aNil))) (aCons (eTup (aCons (eCal (mkXv "InvalidNumber" ["given"]) (aCons (eVar 0) aNil)) (aCons (eC (.str "InvalidNumber")) aNil))) aNil))) (gNm 1))
    (sSeq (sAsg (eOp pAdd (eVar 1) (eLst (aCons (eTup (aCons (eCal (mkXv "InvalidLot" ["given"]) (aCons (eVar 0) aNil)) (aCons (eC (.str "InvalidLot")) aNil))) (aCons (eTup (aCons (eCal (mkXv "InvalidPart" ["given"]) (aCons (eVar 0) aNil)) (aCons (eC (.str "InvalidPart")) aNil))) aNil)))) (gNm 1))
    (sSeq (sAsg (eOp pAdd (eVar 1) (eLst (aCons (eTup (aCons (eCal (mkXv "InvalidRow" ["given"]) (aCons (eVar 0) aNil)) (aCons (eC (.str "InvalidRow")) aNil))) (aCons (eTup (aCons (eCal (mkXv "InvalidName" ["given"]) (aCons (eVar 0) aNil)) (aCons (eC (.str "InvalidName")) aNil))) aNil)))) (gNm 1))
    (sSeq (sAsg (eOp pAdd (eVar 1) (eLst (aCons (eTup (aCons (eCal (mkXv "InvalidIndex" ["given"]) (aCons (eVar 0) aNil)) (aCons (eC (.str "InvalidIndex")) aNil))) (aCons (eTup (aCons (eCal (mkXv "InvalidClaim" ["given"]) (aCons (eVar 0) aNil)) (aCons (eC (.str "InvalidClaim")) aNil))) aNil)))) (gNm 1))
    (sSeq (sAsg (eOp pAdd (eVar 1) (eLst (aCons (eTup (aCons (eCal (mkXv "InvalidCommand" ["given"]) (aCons (eVar 0) aNil)) (aCons (eC (.str "InvalidCommand")) aNil))) (aCons (eTup (aCons (eCal (mkXv "NotATable" ["given"]) (aCons (eVar 0) aNil)) (aCons (eC (.str "NotATable")) aNil))) aNil)))) (gNm 1))
    (sSeq (sAsg (eOp pAdd (eVar 1) (eLst (aCons (eTup (aCons (eCal (mkXv "InvalidPrices" ["index"]) (aCons (eVar 0) aNil)) (aCons (eC (.str "InvalidPrices")) aNil))) (aCons (eTup (aCons (eCal (mkXv "InvalidGains" ["index"]) (aCons (eVar 0) aNil)) (aCons (eC (.str "InvalidGains")) aNil))) aNil)))) (gNm 1))
    (sSeq (sAsg (eOp pAdd (eVar 1) (eLst (aCons (eTup (aCons (eCal (mkXv "InvalidShares" ["index"]) (aCons (eVar 0) aNil)) (aCons (eC (.str "InvalidShares")) aNil))) aNil))) (gNm 1))
    (sSeq (sAsg (eOp pAdd (eVar 1) (eLst (aCons (eTup (aCons (eCal (mkXv "InvalidStretches" ["index"]) (aCons (eVar 0) aNil)) (aCons (eC (.str "InvalidStretches")) aNil))) aNil))) (gNm 1))
    (sSeq (sAsg (eOp pAdd (eVar 1) (eLst (aCons (eTup (aCons (eCal (mkXv "UnknownName" ["given"]) (aCons (eVar 0) aNil)) (aCons (eC (.str "UnknownName")) aNil))) (aCons (eTup (aCons (eCal (mkXv "InUse" ["index"]) (aCons (eVar 0) aNil)) (aCons (eC (.str "InUse")) aNil))) aNil)))) (gNm 1))
    (sRet (eOp pAdd (eVar 1) (eLst (aCons (eTup (aCons (eCal (mkXv "TooMany" ["limit"]) (aCons (eVar 0) aNil)) (aCons (eC (.str "TooMany")) aNil))) (aCons (eTup (aCons (eCal (mkXv "OddRing" ["ring"]) (aCons (eVar 0) aNil)) (aCons (eC (.str "OddRing")) aNil))) aNil))))))))))))))
def b__law_kin_v2 (cal : Nat → List D → M D) : MS :=
    (sSeq (sAsg (eLst (aCons (eLst (aCons (eXvi xt_v17.kit (.blt "ValueError") (eVar 0)) (aCons (eC (.str "V")) aNil))) (aCons (eLst (aCons (eXvi xt_v17.kit (.blt "LookupError") (eVar 0)) (aCons (eC (.str "L")) aNil))) aNil))) (gNm 1))
    (sSeq (sAsg (eOp pAdd (eVar 1) (eLst (aCons (eLst (aCons (eXvi xt_v17.kit (.blt "ArithmeticError") (eVar 0)) (aCons (eC (.str "A")) aNil))) (aCons (eLst (aCons (eXvi xt_v17.kit (.own "BadValue") (eVar 0)) (aCons (eC (.str "BadValue")) aNil))) aNil)))) (gNm 1))
    (sSeq (sAsg (eOp pAdd (eVar 1) (eLst (aCons (eLst (aCons (eXvi xt_v17.kit (.own "BadName") (eVar 0)) (aCons (eC (.str "BadName")) aNil))) (aCons (eLst (aCons (eXvi xt_v17.kit (.own "NoAnswer") (eVar 0)) (aCons (eC (.str "NoAnswer")) aNil))) aNil)))) (gNm 1))
    (sSeq (sAsg (eOp pAdd (eVar 1) (eLst (aCons (eLst (aCons (eXvi xt_v17.kit (.own "InvalidText") (eVar 0)) (aCons (eC (.str "InvalidText")) aNil))) (aCons (eLst (aCons (eXvi xt_v17.kit (.own "InvalidNumber") (eVar 0)) (aCons (eC (.str "InvalidNumber")) aNil))) aNil)))) (gNm 1))
    (sSeq (sAsg (eOp pAdd (eVar 1) (eLst (aCons (eLst (aCons (eXvi xt_v17.kit (.own "InvalidLot") (eVar 0)) (aCons (eC (.str "InvalidLot")) aNil))) (aCons (eLst (aCons (eXvi xt_v17.kit (.own "InvalidPart") (eVar 0)) (aCons (eC (.str "InvalidPart")) aNil))) aNil)))) (gNm 1))
    (sSeq (sAsg (eOp pAdd (eVar 1) (eLst (aCons (eLst (aCons (eXvi xt_v17.kit (.own "InvalidRow") (eVar 0)) (aCons (eC (.str "InvalidRow")) aNil))) (aCons (eLst (aCons (eXvi xt_v17.kit (.own "InvalidName") (eVar 0)) (aCons (eC (.str "InvalidName")) aNil))) aNil)))) (gNm 1))
    (sSeq (sAsg (eOp pAdd (eVar 1) (eLst (aCons (eLst (aCons (eXvi xt_v17.kit (.own "InvalidIndex") (eVar 0)) (aCons (eC (.str "InvalidIndex")) aNil))) (aCons (eLst (aCons (eXvi xt_v17.kit (.own "InvalidClaim") (eVar 0)) (aCons (eC (.str "InvalidClaim")) aNil))) aNil)))) (gNm 1))
    (sSeq (sAsg (eOp pAdd (eVar 1) (eLst (aCons (eLst (aCons (eXvi xt_v17.kit (.own "InvalidCommand") (eVar 0)) (aCons (eC (.str "InvalidCommand")) aNil))) (aCons (eLst (aCons (eXvi xt_v17.kit (.own "NotATable") (eVar 0)) (aCons (eC (.str "NotATable")) aNil))) aNil)))) (gNm 1))
    (sSeq (sAsg (eOp pAdd (eVar 1) (eLst (aCons (eLst (aCons (eXvi xt_v17.kit (.own "InvalidPrices") (eVar 0)) (aCons (eC (.str "InvalidPrices")) aNil))) (aCons (eLst (aCons (eXvi xt_v17.kit (.own "InvalidGains") (eVar 0)) (aCons (eC (.str "InvalidGains")) aNil))) aNil)))) (gNm 1))
    (sSeq (sAsg (eOp pAdd (eVar 1) (eLst (aCons (eLst (aCons (eXvi xt_v17.kit (.own "InvalidShares") (eVar 0)) (aCons (eC (.str "InvalidShares")) aNil))) aNil))) (gNm 1))
    (sSeq (sAsg (eOp pAdd (eVar 1) (eLst (aCons (eLst (aCons (eXvi xt_v17.kit (.own "InvalidStretches") (eVar 0)) (aCons (eC (.str "InvalidStretches")) aNil))) aNil))) (gNm 1))
    (sSeq (sAsg (eOp pAdd (eVar 1) (eLst (aCons (eLst (aCons (eXvi xt_v17.kit (.own "UnknownName") (eVar 0)) (aCons (eC (.str "UnknownName")) aNil))) (aCons (eLst (aCons (eXvi xt_v17.kit (.own "InUse") (eVar 0)) (aCons (eC (.str "InUse")) aNil))) aNil)))) (gNm 1))
    (sSeq (sAsg (eOp pAdd (eVar 1) (eLst (aCons (eLst (aCons (eXvi xt_v17.kit (.own "Empty") (eVar 0)) (aCons (eC (.str "Empty")) aNil))) (aCons (eLst (aCons (eXvi xt_v17.kit (.own "NotThePrice") (eVar 0)) (aCons (eC (.str "NotThePrice")) aNil))) aNil)))) (gNm 1))
    (sSeq (sAsg (eOp pAdd (eVar 1) (eLst (aCons (eLst (aCons (eXvi xt_v17.kit (.own "TooMany") (eVar 0)) (aCons (eC (.str "TooMany")) aNil))) (aCons (eLst (aCons (eXvi xt_v17.kit (.own "OddRing") (eVar 0)) (aCons (eC (.str "OddRing")) aNil))) aNil)))) (gNm 1))
    (sSeq (sAsg (eOp pAdd (eVar 1) (eLst (aCons (eLst (aCons (eXvi xt_v17.kit (.own "NothingToUndo") (eVar 0)) (aCons (eC (.str "NothingToUndo")) aNil))) (aCons (eLst (aCons (eXvi xt_v17.kit (.own "Broken") (eVar 0)) (aCons (eC (.str "Broken")) aNil))) aNil)))) (gNm 1))
    (sRet (eMB "str" pJoin (eC (.str " ")) (aCons (eLc newL (iAny (eVar 1)) (uNm 2) (fun δ => tru ((eOp pIx (eVar 2) (eC (.int 0))) δ)) (eOp pIx (eVar 2) (eC (.int 1))) [2]) aNil))))))))))))))))))
end Bd
namespace Lw
open PySem PySem.Spec PySem.SeqAt PyProof.Rows L2 Ev Bd Xm
theorem ob_eq (s : PySem.W.SharedT) : ob s = hk.obs s.abs := Ob.obsA_eq (HandSHeadRun.getT_eq s)
end Lw
namespace Bd
open PySem L2 Ev
def b__law_odd_v3 (cal : Nat → List D → M D) : MS :=
    (sSeq (sAsg (eLst (aCons (eC .non) (aCons (eC (.bl true)) (aCons (eC (.bl false)) (aCons (eC (.str "")) (aCons (eC (.str "x y")) (aCons (eC (.int 0)) (aCons (eUn pNeg (eC (.int 1))) (aCons (eOp pPow (eC (.int 10)) (eC (.int 31))) (aCons (eTup aNil) (aCons (eTup (aCons (eC (.int 1)) aNil)) (aCons (eTup (aCons (eTup (aCons (eC (.int 0)) (aCons (eC (.int 1)) aNil))) aNil)) (aCons (eLst aNil) (aCons (eLst (aCons (eC (.int 1)) (aCons (eC (.int 0)) aNil))) (aCons eDT (aCons (eDI 1 0) (aCons (eC (.str "12")) aNil))))))))))))))))) (gNm 1))
    (sRet (eOp pIx (eVar 1) (eCal (cal 3) (aCons (eVar 0) (aCons (eC (.int 16)) aNil))))))
end Bd
namespace Ev
open PySem PySem.Spec PySem.SeqAt L2 PyProof.Rows
abbrev KsT := List (Str × Str)
end Ev
namespace Lw
open PySem PySem.Spec PySem.SeqAt PyProof.Rows L2 Ev Bd Xm
noncomputable def calF (cal : Nat → List D → M D) (i : Nat) : List D → M D :=
  if i = 551 then funM 2 1 (b_law_v66 cal) else
  if i = 550 then funM 6 1 (b__law_right_v65 cal) else
  if i = 5 then funM 5 2 (b__law_tray cal) else
  if i = 549 then funM 3 1 (b__law_tale_v2 cal) else
  if i = 547 then funM 2 1 (b__law_by_place cal) else
  if i = 546 then funM 2 1 (b__law_by_name cal) else
  if i = 356 then funM 2 1 (b__law_odd_v3 cal) else
  if i = 548 then funM 3 1 (b__law_kin_v2 cal) else
  if i = 3 then funM 3 2 (b__law_take cal) else
  fun _ _ => .bad
noncomputable def callN : Nat → Nat → List D → M D
  | 0 => fun _ _ _ => .bad
  | n + 1 => calF (callN n)
theorem c__law_right_v65 (n : Nat) : callN (n + 1) 550 = funM 6 1 (b__law_right_v65 (callN n)) := rfl
theorem c__law_tray (n : Nat) : callN (n + 1) 5 = funM 5 2 (b__law_tray (callN n)) := rfl
theorem c__law_tale_v2 (n : Nat) : callN (n + 1) 549 = funM 3 1 (b__law_tale_v2 (callN n)) := rfl
theorem c__law_by_place (n : Nat) : callN (n + 1) 547 = funM 2 1 (b__law_by_place (callN n)) := rfl
theorem c__law_by_name (n : Nat) : callN (n + 1) 546 = funM 2 1 (b__law_by_name (callN n)) := rfl
theorem c__law_odd_v3 (n : Nat) : callN (n + 1) 356 = funM 2 1 (b__law_odd_v3 (callN n)) := rfl
theorem c__law_kin_v2 (n : Nat) : callN (n + 1) 548 = funM 3 1 (b__law_kin_v2 (callN n)) := rfl
theorem c__law_take (n : Nat) : callN (n + 1) 3 = funM 3 2 (b__law_take (callN n)) := rfl
structure Fc (K : PySem.W.Frag) (mg : Str → Option Value) : Prop where
  b_ArithmeticError : mg "ArithmeticError" = none
  b_LookupError : mg "LookupError" = none
  b_ValueError : mg "ValueError" = none
  b_abs : mg "abs" = none
  b_all : mg "all" = none
  b_divmod : mg "divmod" = none
  b_int : mg "int" = none
  b_isinstance : mg "isinstance" = none
  b_len : mg "len" = none
  b_max : mg "max" = none
  b_min : mg "min" = none
  b_range : mg "range" = none
  b_repr : mg "repr" = none
  c_MOST_COLUMNS : ∃ t, mg "MOST_COLUMNS" = some (.int 8 t)
  c_MOST_KNOTS : ∃ t, mg "MOST_KNOTS" = some (.int 9 t)
  c_MOST_PRICE : ∃ t, mg "MOST_PRICE" = some (.int 1000000000000000000000000000000 t)
  c_MOST_ROWS : ∃ t, mg "MOST_ROWS" = some (.int 8 t)
  c_MOST_STRIKES : ∃ t, mg "MOST_STRIKES" = some (.int 3 t)
  g_BadName : mg "BadName" = some (.ref (He.ga K "BadName"))
  g_BadValue : mg "BadValue" = some (.ref (He.ga K "BadValue"))
  g_Broken : mg "Broken" = some (.ref (He.ga K "Broken"))
  g_Empty : mg "Empty" = some (.ref (He.ga K "Empty"))
  g_InUse : mg "InUse" = some (.ref (He.ga K "InUse"))
  g_InvalidClaim : mg "InvalidClaim" = some (.ref (He.ga K "InvalidClaim"))
  g_InvalidCommand : mg "InvalidCommand" = some (.ref (He.ga K "InvalidCommand"))
  g_InvalidGains : mg "InvalidGains" = some (.ref (He.ga K "InvalidGains"))
  g_InvalidIndex : mg "InvalidIndex" = some (.ref (He.ga K "InvalidIndex"))
  g_InvalidLot : mg "InvalidLot" = some (.ref (He.ga K "InvalidLot"))
  g_InvalidName : mg "InvalidName" = some (.ref (He.ga K "InvalidName"))
  g_InvalidNumber : mg "InvalidNumber" = some (.ref (He.ga K "InvalidNumber"))
  g_InvalidPart : mg "InvalidPart" = some (.ref (He.ga K "InvalidPart"))
  g_InvalidPrices : mg "InvalidPrices" = some (.ref (He.ga K "InvalidPrices"))
  g_InvalidRow : mg "InvalidRow" = some (.ref (He.ga K "InvalidRow"))
  g_InvalidShares : mg "InvalidShares" = some (.ref (He.ga K "InvalidShares"))
  g_InvalidStretches : mg "InvalidStretches" = some (.ref (He.ga K "InvalidStretches"))
  g_InvalidText : mg "InvalidText" = some (.ref (He.ga K "InvalidText"))
  g_NoAnswer : mg "NoAnswer" = some (.ref (He.ga K "NoAnswer"))
  g_NotATable : mg "NotATable" = some (.ref (He.ga K "NotATable"))
  g_NotThePrice : mg "NotThePrice" = some (.ref (He.ga K "NotThePrice"))
  g_NothingToUndo : mg "NothingToUndo" = some (.ref (He.ga K "NothingToUndo"))
  g_OddRing : mg "OddRing" = some (.ref (He.ga K "OddRing"))
  g_TooMany : mg "TooMany" = some (.ref (He.ga K "TooMany"))
  g_UnknownName : mg "UnknownName" = some (.ref (He.ga K "UnknownName"))
  x_InvalidText : OexF K "InvalidText" "ValueError.__new__" [.type "ValueError", .type "Exception", .type "BaseException", .type "object"] ["given"]
  d_InvalidText___init__ : ∃ fd, FunD K "__init__" "InvalidText.__init__" (defArgs (inClass (top 2) 0)) (defBody (inClass (top 2) 0)) (defScope (inClass (top 2) 0)) [] [] (He.ma K (He.ga K "InvalidText") "__init__") fd
  x_InvalidNumber : OexF K "InvalidNumber" "ValueError.__new__" [.type "ValueError", .type "Exception", .type "BaseException", .type "object"] ["given"]
  d_InvalidNumber___init__ : ∃ fd, FunD K "__init__" "InvalidNumber.__init__" (defArgs (inClass (top 3) 0)) (defBody (inClass (top 3) 0)) (defScope (inClass (top 3) 0)) [] [] (He.ma K (He.ga K "InvalidNumber") "__init__") fd
  x_InvalidLot : OexF K "InvalidLot" "ValueError.__new__" [.type "ValueError", .type "Exception", .type "BaseException", .type "object"] ["given"]
  d_InvalidLot___init__ : ∃ fd, FunD K "__init__" "InvalidLot.__init__" (defArgs (inClass (top 4) 0)) (defBody (inClass (top 4) 0)) (defScope (inClass (top 4) 0)) [] [] (He.ma K (He.ga K "InvalidLot") "__init__") fd
  x_InvalidPart : OexF K "InvalidPart" "ValueError.__new__" [.type "ValueError", .type "Exception", .type "BaseException", .type "object"] ["given"]
  d_InvalidPart___init__ : ∃ fd, FunD K "__init__" "InvalidPart.__init__" (defArgs (inClass (top 5) 0)) (defBody (inClass (top 5) 0)) (defScope (inClass (top 5) 0)) [] [] (He.ma K (He.ga K "InvalidPart") "__init__") fd
  x_InvalidRow : OexF K "InvalidRow" "ValueError.__new__" [.type "ValueError", .type "Exception", .type "BaseException", .type "object"] ["given"]
  d_InvalidRow___init__ : ∃ fd, FunD K "__init__" "InvalidRow.__init__" (defArgs (inClass (top 6) 0)) (defBody (inClass (top 6) 0)) (defScope (inClass (top 6) 0)) [] [] (He.ma K (He.ga K "InvalidRow") "__init__") fd
  x_InvalidName : OexF K "InvalidName" "ValueError.__new__" [.type "ValueError", .type "Exception", .type "BaseException", .type "object"] ["given"]
  d_InvalidName___init__ : ∃ fd, FunD K "__init__" "InvalidName.__init__" (defArgs (inClass (top 7) 0)) (defBody (inClass (top 7) 0)) (defScope (inClass (top 7) 0)) [] [] (He.ma K (He.ga K "InvalidName") "__init__") fd
  x_InvalidIndex : OexF K "InvalidIndex" "ValueError.__new__" [.type "ValueError", .type "Exception", .type "BaseException", .type "object"] ["given"]
  d_InvalidIndex___init__ : ∃ fd, FunD K "__init__" "InvalidIndex.__init__" (defArgs (inClass (top 8) 0)) (defBody (inClass (top 8) 0)) (defScope (inClass (top 8) 0)) [] [] (He.ma K (He.ga K "InvalidIndex") "__init__") fd
  x_InvalidClaim : OexF K "InvalidClaim" "ValueError.__new__" [.type "ValueError", .type "Exception", .type "BaseException", .type "object"] ["given"]
  d_InvalidClaim___init__ : ∃ fd, FunD K "__init__" "InvalidClaim.__init__" (defArgs (inClass (top 9) 0)) (defBody (inClass (top 9) 0)) (defScope (inClass (top 9) 0)) [] [] (He.ma K (He.ga K "InvalidClaim") "__init__") fd
  x_InvalidCommand : OexF K "InvalidCommand" "ValueError.__new__" [.type "ValueError", .type "Exception", .type "BaseException", .type "object"] ["given"]
  d_InvalidCommand___init__ : ∃ fd, FunD K "__init__" "InvalidCommand.__init__" (defArgs (inClass (top 10) 0)) (defBody (inClass (top 10) 0)) (defScope (inClass (top 10) 0)) [] [] (He.ma K (He.ga K "InvalidCommand") "__init__") fd
  x_NotATable : OexF K "NotATable" "ValueError.__new__" [.type "ValueError", .type "Exception", .type "BaseException", .type "object"] ["given"]
  d_NotATable___init__ : ∃ fd, FunD K "__init__" "NotATable.__init__" (defArgs (inClass (top 11) 0)) (defBody (inClass (top 11) 0)) (defScope (inClass (top 11) 0)) [] [] (He.ma K (He.ga K "NotATable") "__init__") fd
  x_InvalidPrices : OexF K "InvalidPrices" "ValueError.__new__" [.type "ValueError", .type "Exception", .type "BaseException", .type "object"] ["index"]
  d_InvalidPrices___init__ : ∃ fd, FunD K "__init__" "InvalidPrices.__init__" (defArgs (inClass (top 12) 0)) (defBody (inClass (top 12) 0)) (defScope (inClass (top 12) 0)) [] [] (He.ma K (He.ga K "InvalidPrices") "__init__") fd
  x_InvalidGains : OexF K "InvalidGains" "ValueError.__new__" [.type "ValueError", .type "Exception", .type "BaseException", .type "object"] ["index"]
  d_InvalidGains___init__ : ∃ fd, FunD K "__init__" "InvalidGains.__init__" (defArgs (inClass (top 13) 0)) (defBody (inClass (top 13) 0)) (defScope (inClass (top 13) 0)) [] [] (He.ma K (He.ga K "InvalidGains") "__init__") fd
  x_InvalidShares : OexF K "InvalidShares" "ValueError.__new__" [.type "ValueError", .type "Exception", .type "BaseException", .type "object"] ["index"]
  d_InvalidShares___init__ : ∃ fd, FunD K "__init__" "InvalidShares.__init__" (defArgs (inClass (top 14) 0)) (defBody (inClass (top 14) 0)) (defScope (inClass (top 14) 0)) [] [] (He.ma K (He.ga K "InvalidShares") "__init__") fd
  x_InvalidStretches : OexF K "InvalidStretches" "ValueError.__new__" [.type "ValueError", .type "Exception", .type "BaseException", .type "object"] ["index"]
  d_InvalidStretches___init__ : ∃ fd, FunD K "__init__" "InvalidStretches.__init__" (defArgs (inClass (top 15) 0)) (defBody (inClass (top 15) 0)) (defScope (inClass (top 15) 0)) [] [] (He.ma K (He.ga K "InvalidStretches") "__init__") fd
  x_UnknownName : OexF K "UnknownName" "LookupError.__new__" [.type "LookupError", .type "Exception", .type "BaseException", .type "object"] ["given"]
  d_UnknownName___init__ : ∃ fd, FunD K "__init__" "UnknownName.__init__" (defArgs (inClass (top 17) 0)) (defBody (inClass (top 17) 0)) (defScope (inClass (top 17) 0)) [] [] (He.ma K (He.ga K "UnknownName") "__init__") fd
  x_InUse : OexF K "InUse" "LookupError.__new__" [.type "LookupError", .type "Exception", .type "BaseException", .type "object"] ["index"]
  d_InUse___init__ : ∃ fd, FunD K "__init__" "InUse.__init__" (defArgs (inClass (top 18) 0)) (defBody (inClass (top 18) 0)) (defScope (inClass (top 18) 0)) [] [] (He.ma K (He.ga K "InUse") "__init__") fd
  xo_Empty : PySem.W.excIn K (He.ga K "Empty") [.type "ArithmeticError", .type "Exception", .type "BaseException", .type "object"] "ArithmeticError.__new__" = true ∧ PySem.W.keepIn K (.ref (He.ga K "Empty")) = true ∧ PySem.W.subIn K (.ref (He.ga K "Empty")) (.type "BaseException") = some true ∧ PySem.W.typeIn K (.ref (He.ga K "Empty")) = some (.type "type")
  xo_NotThePrice : PySem.W.excIn K (He.ga K "NotThePrice") [.type "ArithmeticError", .type "Exception", .type "BaseException", .type "object"] "ArithmeticError.__new__" = true ∧ PySem.W.keepIn K (.ref (He.ga K "NotThePrice")) = true ∧ PySem.W.subIn K (.ref (He.ga K "NotThePrice")) (.type "BaseException") = some true ∧ PySem.W.typeIn K (.ref (He.ga K "NotThePrice")) = some (.type "type")
  x_TooMany : OexF K "TooMany" "ArithmeticError.__new__" [.type "ArithmeticError", .type "Exception", .type "BaseException", .type "object"] ["limit"]
  d_TooMany___init__ : ∃ fd, FunD K "__init__" "TooMany.__init__" (defArgs (inClass (top 22) 0)) (defBody (inClass (top 22) 0)) (defScope (inClass (top 22) 0)) [] [] (He.ma K (He.ga K "TooMany") "__init__") fd
  x_OddRing : OexF K "OddRing" "ArithmeticError.__new__" [.type "ArithmeticError", .type "Exception", .type "BaseException", .type "object"] ["ring"]
  d_OddRing___init__ : ∃ fd, FunD K "__init__" "OddRing.__init__" (defArgs (inClass (top 23) 0)) (defBody (inClass (top 23) 0)) (defScope (inClass (top 23) 0)) [] [] (He.ma K (He.ga K "OddRing") "__init__") fd
  xo_NothingToUndo : PySem.W.excIn K (He.ga K "NothingToUndo") [.type "ArithmeticError", .type "Exception", .type "BaseException", .type "object"] "ArithmeticError.__new__" = true ∧ PySem.W.keepIn K (.ref (He.ga K "NothingToUndo")) = true ∧ PySem.W.subIn K (.ref (He.ga K "NothingToUndo")) (.type "BaseException") = some true ∧ PySem.W.typeIn K (.ref (He.ga K "NothingToUndo")) = some (.type "type")
  x_Broken : OexF K "Broken" "ArithmeticError.__new__" [.type "ArithmeticError", .type "Exception", .type "BaseException", .type "object"] ["index", "shown"]
  d_Broken___init__ : ∃ fd, FunD K "__init__" "Broken.__init__" (defArgs (inClass (top 25) 0)) (defBody (inClass (top 25) 0)) (defScope (inClass (top 25) 0)) [] [] (He.ma K (He.ga K "Broken") "__init__") fd
  kx : KitT K xt_v17.kit
  fl : FlT K xt_v17.fl
  ex : ExOk K (exL xt_v17.ex)
  g_law : mg "law" = some (.ref (He.ga K "law"))
  k_law : PySem.W.keepIn K (.ref (He.ga K "law")) = true
  g__law_right : mg "_law_right" = some (.ref (He.ga K "_law_right"))
  k__law_right : PySem.W.keepIn K (.ref (He.ga K "_law_right")) = true
  g__law_tray : mg "_law_tray" = some (.ref (He.ga K "_law_tray"))
  k__law_tray : PySem.W.keepIn K (.ref (He.ga K "_law_tray")) = true
  g__law_tale : mg "_law_tale" = some (.ref (He.ga K "_law_tale"))
  k__law_tale : PySem.W.keepIn K (.ref (He.ga K "_law_tale")) = true
  g__law_by_place : mg "_law_by_place" = some (.ref (He.ga K "_law_by_place"))
  k__law_by_place : PySem.W.keepIn K (.ref (He.ga K "_law_by_place")) = true
  g__law_by_name : mg "_law_by_name" = some (.ref (He.ga K "_law_by_name"))
  k__law_by_name : PySem.W.keepIn K (.ref (He.ga K "_law_by_name")) = true
  g__law_odd : mg "_law_odd" = some (.ref (He.ga K "_law_odd"))
  k__law_odd : PySem.W.keepIn K (.ref (He.ga K "_law_odd")) = true
  g__law_kin : mg "_law_kin" = some (.ref (He.ga K "_law_kin"))
  k__law_kin : PySem.W.keepIn K (.ref (He.ga K "_law_kin")) = true
  g__law_take : mg "_law_take" = some (.ref (He.ga K "_law_take"))
  k__law_take : PySem.W.keepIn K (.ref (He.ga K "_law_take")) = true
  isi : IsiOk K (isiT isi_v2)
  d_law : ∃ fd, FunD K "law" "law" (defArgs (top 40)) (defBody (top 40)) (defScope (top 40)) [] [] (He.ga K "law") fd
  d__law_right : ∃ fd, FunD K "_law_right" "_law_right" (defArgs (top 39)) (defBody (top 39)) (defScope (top 39)) [] [] (He.ga K "_law_right") fd
  d__law_tray : ∃ fd, FunD K "_law_tray" "_law_tray" (defArgs (top 32)) (defBody (top 32)) (defScope (top 32)) [] [] (He.ga K "_law_tray") fd
  d__law_tale : ∃ fd, FunD K "_law_tale" "_law_tale" (defArgs (top 35)) (defBody (top 35)) (defScope (top 35)) [] [] (He.ga K "_law_tale") fd
  d__law_by_place : ∃ fd, FunD K "_law_by_place" "_law_by_place" (defArgs (top 37)) (defBody (top 37)) (defScope (top 37)) [] [] (He.ga K "_law_by_place") fd
  d__law_by_name : ∃ fd, FunD K "_law_by_name" "_law_by_name" (defArgs (top 38)) (defBody (top 38)) (defScope (top 38)) [] [] (He.ga K "_law_by_name") fd
  d__law_odd : ∃ fd, FunD K "_law_odd" "_law_odd" (defArgs (top 36)) (defBody (top 36)) (defScope (top 36)) [] [] (He.ga K "_law_odd") fd
  d__law_kin : ∃ fd, FunD K "_law_kin" "_law_kin" (defArgs (top 34)) (defBody (top 34)) (defScope (top 34)) [] [] (He.ga K "_law_kin") fd
  d__law_take : ∃ fd, FunD K "_law_take" "_law_take" (defArgs (top 33)) (defBody (top 33)) (defScope (top 33)) [] [] (He.ga K "_law_take") fd
structure Tab (P : Program) (w : World) (K : PySem.W.Frag) (mg : Str → Option Value) (base : Heap) (k : Nat) (cal : Nat → List D → M D) : Prop where
  trv : True
  t__law_right : CalG P w K mg base (k + 2) (He.ga K "_law_right") [] (cal 550)
  t__law_tray : CalG P w K mg base (k + 2) (He.ga K "_law_tray") [] (cal 5)
  t__law_tale : CalG P w K mg base (k + 2) (He.ga K "_law_tale") [] (cal 549)
  t__law_by_place : CalG P w K mg base (k + 2) (He.ga K "_law_by_place") [] (cal 547)
  t__law_by_name : CalG P w K mg base (k + 2) (He.ga K "_law_by_name") [] (cal 546)
  t__law_odd : CalG P w K mg base (k + 2) (He.ga K "_law_odd") [] (cal 356)
  t__law_kin : CalG P w K mg base (k + 2) (He.ga K "_law_kin") [] (cal 548)
  t__law_take : CalG P w K mg base (k + 2) (He.ga K "_law_take") [] (cal 3)
  sys : ∃ o, base.get? sysModules = some o
section
variable {P : Program} {w : World} {K : PySem.W.Frag} {mg : Str → Option Value} {base : Heap} {k : Nat} {cal : Nat → List D → M D}
theorem sc_InvalidText___init__ : FnScope ["self", "given"] ["self", "given"] (defScope (inClass (top 2) 0)) := ⟨rfl, rfl, rfl, by decide +kernel, rfl, by decide +kernel, by decide +kernel⟩
theorem xr_InvalidText (F : Fc K mg) : ∃ fd, FnG P w K mg base 1 (He.ma K (He.ga K "InvalidText") "__init__") fd ["self", "given"] (spIni (He.ga K "InvalidText") ["given"]) ∧ BindK K fd ["self", "given"] [] := by
  obtain ⟨fd, D⟩ := F.d_InvalidText___init__
  exact ⟨fd, ini1 bx_V F.x_InvalidText.oex (F.x_InvalidText.no _ (by simp)) D sc_InvalidText___init__ (by first | exact .inl rfl | exact .inr (.inl rfl) | exact .inr (.inr rfl)) (by first | exact .inl rfl | exact .inr (.inl rfl) | exact .inr (.inr rfl)) rfl rfl rfl rfl (fun _ _ => rfl), bindK_of (ks := []) D (fun _ _ _ _ _ _ us ws h1 h2 => match us, ws, h1, h2 with | [_, _], [], _, _ => rfl)⟩
theorem sc_InvalidNumber___init__ : FnScope ["self", "given"] ["self", "given"] (defScope (inClass (top 3) 0)) := ⟨rfl, rfl, rfl, by decide +kernel, rfl, by decide +kernel, by decide +kernel⟩
theorem xr_InvalidNumber (F : Fc K mg) : ∃ fd, FnG P w K mg base 1 (He.ma K (He.ga K "InvalidNumber") "__init__") fd ["self", "given"] (spIni (He.ga K "InvalidNumber") ["given"]) ∧ BindK K fd ["self", "given"] [] := by
  obtain ⟨fd, D⟩ := F.d_InvalidNumber___init__
  exact ⟨fd, ini1 bx_V F.x_InvalidNumber.oex (F.x_InvalidNumber.no _ (by simp)) D sc_InvalidNumber___init__ (by first | exact .inl rfl | exact .inr (.inl rfl) | exact .inr (.inr rfl)) (by first | exact .inl rfl | exact .inr (.inl rfl) | exact .inr (.inr rfl)) rfl rfl rfl rfl (fun _ _ => rfl), bindK_of (ks := []) D (fun _ _ _ _ _ _ us ws h1 h2 => match us, ws, h1, h2 with | [_, _], [], _, _ => rfl)⟩
theorem sc_InvalidLot___init__ : FnScope ["self", "given"] ["self", "given"] (defScope (inClass (top 4) 0)) := ⟨rfl, rfl, rfl, by decide +kernel, rfl, by decide +kernel, by decide +kernel⟩
theorem xr_InvalidLot (F : Fc K mg) : ∃ fd, FnG P w K mg base 1 (He.ma K (He.ga K "InvalidLot") "__init__") fd ["self", "given"] (spIni (He.ga K "InvalidLot") ["given"]) ∧ BindK K fd ["self", "given"] [] := by
  obtain ⟨fd, D⟩ := F.d_InvalidLot___init__
  exact ⟨fd, ini1 bx_V F.x_InvalidLot.oex (F.x_InvalidLot.no _ (by simp)) D sc_InvalidLot___init__ (by first | exact .inl rfl | exact .inr (.inl rfl) | exact .inr (.inr rfl)) (by first | exact .inl rfl | exact .inr (.inl rfl) | exact .inr (.inr rfl)) rfl rfl rfl rfl (fun _ _ => rfl), bindK_of (ks := []) D (fun _ _ _ _ _ _ us ws h1 h2 => match us, ws, h1, h2 with | [_, _], [], _, _ => rfl)⟩
theorem sc_InvalidPart___init__ : FnScope ["self", "given"] ["self", "given"] (defScope (inClass (top 5) 0)) := ⟨rfl, rfl, rfl, by decide +kernel, rfl, by decide +kernel, by decide +kernel⟩
theorem xr_InvalidPart (F : Fc K mg) : ∃ fd, FnG P w K mg base 1 (He.ma K (He.ga K "InvalidPart") "__init__") fd ["self", "given"] (spIni (He.ga K "InvalidPart") ["given"]) ∧ BindK K fd ["self", "given"] [] := by
  obtain ⟨fd, D⟩ := F.d_InvalidPart___init__
  exact ⟨fd, ini1 bx_V F.x_InvalidPart.oex (F.x_InvalidPart.no _ (by simp)) D sc_InvalidPart___init__ (by first | exact .inl rfl | exact .inr (.inl rfl) | exact .inr (.inr rfl)) (by first | exact .inl rfl | exact .inr (.inl rfl) | exact .inr (.inr rfl)) rfl rfl rfl rfl (fun _ _ => rfl), bindK_of (ks := []) D (fun _ _ _ _ _ _ us ws h1 h2 => match us, ws, h1, h2 with | [_, _], [], _, _ => rfl)⟩
theorem sc_InvalidRow___init__ : FnScope ["self", "given"] ["self", "given"] (defScope (inClass (top 6) 0)) := ⟨rfl, rfl, rfl, by decide +kernel, rfl, by decide +kernel, by decide +kernel⟩
theorem xr_InvalidRow (F : Fc K mg) : ∃ fd, FnG P w K mg base 1 (He.ma K (He.ga K "InvalidRow") "__init__") fd ["self", "given"] (spIni (He.ga K "InvalidRow") ["given"]) ∧ BindK K fd ["self", "given"] [] := by
  obtain ⟨fd, D⟩ := F.d_InvalidRow___init__
  exact ⟨fd, ini1 bx_V F.x_InvalidRow.oex (F.x_InvalidRow.no _ (by simp)) D sc_InvalidRow___init__ (by first | exact .inl rfl | exact .inr (.inl rfl) | exact .inr (.inr rfl)) (by first | exact .inl rfl | exact .inr (.inl rfl) | exact .inr (.inr rfl)) rfl rfl rfl rfl (fun _ _ => rfl), bindK_of (ks := []) D (fun _ _ _ _ _ _ us ws h1 h2 => match us, ws, h1, h2 with | [_, _], [], _, _ => rfl)⟩
theorem sc_InvalidName___init__ : FnScope ["self", "given"] ["self", "given"] (defScope (inClass (top 7) 0)) := ⟨rfl, rfl, rfl, by decide +kernel, rfl, by decide +kernel, by decide +kernel⟩
theorem xr_InvalidName (F : Fc K mg) : ∃ fd, FnG P w K mg base 1 (He.ma K (He.ga K "InvalidName") "__init__") fd ["self", "given"] (spIni (He.ga K "InvalidName") ["given"]) ∧ BindK K fd ["self", "given"] [] := by
  obtain ⟨fd, D⟩ := F.d_InvalidName___init__
  exact ⟨fd, ini1 bx_V F.x_InvalidName.oex (F.x_InvalidName.no _ (by simp)) D sc_InvalidName___init__ (by first | exact .inl rfl | exact .inr (.inl rfl) | exact .inr (.inr rfl)) (by first | exact .inl rfl | exact .inr (.inl rfl) | exact .inr (.inr rfl)) rfl rfl rfl rfl (fun _ _ => rfl), bindK_of (ks := []) D (fun _ _ _ _ _ _ us ws h1 h2 => match us, ws, h1, h2 with | [_, _], [], _, _ => rfl)⟩
theorem sc_InvalidIndex___init__ : FnScope ["self", "given"] ["self", "given"] (defScope (inClass (top 8) 0)) := ⟨rfl, rfl, rfl, by decide +kernel, rfl, by decide +kernel, by decide +kernel⟩
theorem xr_InvalidIndex (F : Fc K mg) : ∃ fd, FnG P w K mg base 1 (He.ma K (He.ga K "InvalidIndex") "__init__") fd ["self", "given"] (spIni (He.ga K "InvalidIndex") ["given"]) ∧ BindK K fd ["self", "given"] [] := by
  obtain ⟨fd, D⟩ := F.d_InvalidIndex___init__
  exact ⟨fd, ini1 bx_V F.x_InvalidIndex.oex (F.x_InvalidIndex.no _ (by simp)) D sc_InvalidIndex___init__ (by first | exact .inl rfl | exact .inr (.inl rfl) | exact .inr (.inr rfl)) (by first | exact .inl rfl | exact .inr (.inl rfl) | exact .inr (.inr rfl)) rfl rfl rfl rfl (fun _ _ => rfl), bindK_of (ks := []) D (fun _ _ _ _ _ _ us ws h1 h2 => match us, ws, h1, h2 with | [_, _], [], _, _ => rfl)⟩
theorem sc_InvalidClaim___init__ : FnScope ["self", "given"] ["self", "given"] (defScope (inClass (top 9) 0)) := ⟨rfl, rfl, rfl, by decide +kernel, rfl, by decide +kernel, by decide +kernel⟩
theorem xr_InvalidClaim (F : Fc K mg) : ∃ fd, FnG P w K mg base 1 (He.ma K (He.ga K "InvalidClaim") "__init__") fd ["self", "given"] (spIni (He.ga K "InvalidClaim") ["given"]) ∧ BindK K fd ["self", "given"] [] := by
  obtain ⟨fd, D⟩ := F.d_InvalidClaim___init__
  exact ⟨fd, ini1 bx_V F.x_InvalidClaim.oex (F.x_InvalidClaim.no _ (by simp)) D sc_InvalidClaim___init__ (by first | exact .inl rfl | exact .inr (.inl rfl) | exact .inr (.inr rfl)) (by first | exact .inl rfl | exact .inr (.inl rfl) | exact .inr (.inr rfl)) rfl rfl rfl rfl (fun _ _ => rfl), bindK_of (ks := []) D (fun _ _ _ _ _ _ us ws h1 h2 => match us, ws, h1, h2 with | [_, _], [], _, _ => rfl)⟩
theorem sc_InvalidCommand___init__ : FnScope ["self", "given"] ["self", "given"] (defScope (inClass (top 10) 0)) := ⟨rfl, rfl, rfl, by decide +kernel, rfl, by decide +kernel, by decide +kernel⟩
theorem xr_InvalidCommand (F : Fc K mg) : ∃ fd, FnG P w K mg base 1 (He.ma K (He.ga K "InvalidCommand") "__init__") fd ["self", "given"] (spIni (He.ga K "InvalidCommand") ["given"]) ∧ BindK K fd ["self", "given"] [] := by
  obtain ⟨fd, D⟩ := F.d_InvalidCommand___init__
  exact ⟨fd, ini1 bx_V F.x_InvalidCommand.oex (F.x_InvalidCommand.no _ (by simp)) D sc_InvalidCommand___init__ (by first | exact .inl rfl | exact .inr (.inl rfl) | exact .inr (.inr rfl)) (by first | exact .inl rfl | exact .inr (.inl rfl) | exact .inr (.inr rfl)) rfl rfl rfl rfl (fun _ _ => rfl), bindK_of (ks := []) D (fun _ _ _ _ _ _ us ws h1 h2 => match us, ws, h1, h2 with | [_, _], [], _, _ => rfl)⟩
theorem sc_NotATable___init__ : FnScope ["self", "given"] ["self", "given"] (defScope (inClass (top 11) 0)) := ⟨rfl, rfl, rfl, by decide +kernel, rfl, by decide +kernel, by decide +kernel⟩
theorem xr_NotATable (F : Fc K mg) : ∃ fd, FnG P w K mg base 1 (He.ma K (He.ga K "NotATable") "__init__") fd ["self", "given"] (spIni (He.ga K "NotATable") ["given"]) ∧ BindK K fd ["self", "given"] [] := by
  obtain ⟨fd, D⟩ := F.d_NotATable___init__
  exact ⟨fd, ini1 bx_V F.x_NotATable.oex (F.x_NotATable.no _ (by simp)) D sc_NotATable___init__ (by first | exact .inl rfl | exact .inr (.inl rfl) | exact .inr (.inr rfl)) (by first | exact .inl rfl | exact .inr (.inl rfl) | exact .inr (.inr rfl)) rfl rfl rfl rfl (fun _ _ => rfl), bindK_of (ks := []) D (fun _ _ _ _ _ _ us ws h1 h2 => match us, ws, h1, h2 with | [_, _], [], _, _ => rfl)⟩
theorem sc_InvalidPrices___init__ : FnScope ["self", "index"] ["self", "index"] (defScope (inClass (top 12) 0)) := ⟨rfl, rfl, rfl, by decide +kernel, rfl, by decide +kernel, by decide +kernel⟩
theorem xr_InvalidPrices (F : Fc K mg) : ∃ fd, FnG P w K mg base 1 (He.ma K (He.ga K "InvalidPrices") "__init__") fd ["self", "index"] (spIni (He.ga K "InvalidPrices") ["index"]) ∧ BindK K fd ["self", "index"] [] := by
  obtain ⟨fd, D⟩ := F.d_InvalidPrices___init__
  exact ⟨fd, ini1 bx_V F.x_InvalidPrices.oex (F.x_InvalidPrices.no _ (by simp)) D sc_InvalidPrices___init__ (by first | exact .inl rfl | exact .inr (.inl rfl) | exact .inr (.inr rfl)) (by first | exact .inl rfl | exact .inr (.inl rfl) | exact .inr (.inr rfl)) rfl rfl rfl rfl (fun _ _ => rfl), bindK_of (ks := []) D (fun _ _ _ _ _ _ us ws h1 h2 => match us, ws, h1, h2 with | [_, _], [], _, _ => rfl)⟩
theorem sc_InvalidGains___init__ : FnScope ["self", "index"] ["self", "index"] (defScope (inClass (top 13) 0)) := ⟨rfl, rfl, rfl, by decide +kernel, rfl, by decide +kernel, by decide +kernel⟩
theorem xr_InvalidGains (F : Fc K mg) : ∃ fd, FnG P w K mg base 1 (He.ma K (He.ga K "InvalidGains") "__init__") fd ["self", "index"] (spIni (He.ga K "InvalidGains") ["index"]) ∧ BindK K fd ["self", "index"] [] := by
  obtain ⟨fd, D⟩ := F.d_InvalidGains___init__
  exact ⟨fd, ini1 bx_V F.x_InvalidGains.oex (F.x_InvalidGains.no _ (by simp)) D sc_InvalidGains___init__ (by first | exact .inl rfl | exact .inr (.inl rfl) | exact .inr (.inr rfl)) (by first | exact .inl rfl | exact .inr (.inl rfl) | exact .inr (.inr rfl)) rfl rfl rfl rfl (fun _ _ => rfl), bindK_of (ks := []) D (fun _ _ _ _ _ _ us ws h1 h2 => match us, ws, h1, h2 with | [_, _], [], _, _ => rfl)⟩
theorem sc_InvalidShares___init__ : FnScope ["self", "index"] ["self", "index"] (defScope (inClass (top 14) 0)) := ⟨rfl, rfl, rfl, by decide +kernel, rfl, by decide +kernel, by decide +kernel⟩
theorem xr_InvalidShares (F : Fc K mg) : ∃ fd, FnG P w K mg base 1 (He.ma K (He.ga K "InvalidShares") "__init__") fd ["self", "index"] (spIni (He.ga K "InvalidShares") ["index"]) ∧ BindK K fd ["self", "index"] [] := by
  obtain ⟨fd, D⟩ := F.d_InvalidShares___init__
  exact ⟨fd, ini1 bx_V F.x_InvalidShares.oex (F.x_InvalidShares.no _ (by simp)) D sc_InvalidShares___init__ (by first | exact .inl rfl | exact .inr (.inl rfl) | exact .inr (.inr rfl)) (by first | exact .inl rfl | exact .inr (.inl rfl) | exact .inr (.inr rfl)) rfl rfl rfl rfl (fun _ _ => rfl), bindK_of (ks := []) D (fun _ _ _ _ _ _ us ws h1 h2 => match us, ws, h1, h2 with | [_, _], [], _, _ => rfl)⟩
theorem sc_InvalidStretches___init__ : FnScope ["self", "index"] ["self", "index"] (defScope (inClass (top 15) 0)) := ⟨rfl, rfl, rfl, by decide +kernel, rfl, by decide +kernel, by decide +kernel⟩
theorem xr_InvalidStretches (F : Fc K mg) : ∃ fd, FnG P w K mg base 1 (He.ma K (He.ga K "InvalidStretches") "__init__") fd ["self", "index"] (spIni (He.ga K "InvalidStretches") ["index"]) ∧ BindK K fd ["self", "index"] [] := by
  obtain ⟨fd, D⟩ := F.d_InvalidStretches___init__
  exact ⟨fd, ini1 bx_V F.x_InvalidStretches.oex (F.x_InvalidStretches.no _ (by simp)) D sc_InvalidStretches___init__ (by first | exact .inl rfl | exact .inr (.inl rfl) | exact .inr (.inr rfl)) (by first | exact .inl rfl | exact .inr (.inl rfl) | exact .inr (.inr rfl)) rfl rfl rfl rfl (fun _ _ => rfl), bindK_of (ks := []) D (fun _ _ _ _ _ _ us ws h1 h2 => match us, ws, h1, h2 with | [_, _], [], _, _ => rfl)⟩
theorem sc_UnknownName___init__ : FnScope ["self", "given"] ["self", "given"] (defScope (inClass (top 17) 0)) := ⟨rfl, rfl, rfl, by decide +kernel, rfl, by decide +kernel, by decide +kernel⟩
theorem xr_UnknownName (F : Fc K mg) : ∃ fd, FnG P w K mg base 1 (He.ma K (He.ga K "UnknownName") "__init__") fd ["self", "given"] (spIni (He.ga K "UnknownName") ["given"]) ∧ BindK K fd ["self", "given"] [] := by
  obtain ⟨fd, D⟩ := F.d_UnknownName___init__
  exact ⟨fd, ini1 bx_L F.x_UnknownName.oex (F.x_UnknownName.no _ (by simp)) D sc_UnknownName___init__ (by first | exact .inl rfl | exact .inr (.inl rfl) | exact .inr (.inr rfl)) (by first | exact .inl rfl | exact .inr (.inl rfl) | exact .inr (.inr rfl)) rfl rfl rfl rfl (fun _ _ => rfl), bindK_of (ks := []) D (fun _ _ _ _ _ _ us ws h1 h2 => match us, ws, h1, h2 with | [_, _], [], _, _ => rfl)⟩
theorem sc_InUse___init__ : FnScope ["self", "index"] ["self", "index"] (defScope (inClass (top 18) 0)) := ⟨rfl, rfl, rfl, by decide +kernel, rfl, by decide +kernel, by decide +kernel⟩
theorem xr_InUse (F : Fc K mg) : ∃ fd, FnG P w K mg base 1 (He.ma K (He.ga K "InUse") "__init__") fd ["self", "index"] (spIni (He.ga K "InUse") ["index"]) ∧ BindK K fd ["self", "index"] [] := by
  obtain ⟨fd, D⟩ := F.d_InUse___init__
  exact ⟨fd, ini1 bx_L F.x_InUse.oex (F.x_InUse.no _ (by simp)) D sc_InUse___init__ (by first | exact .inl rfl | exact .inr (.inl rfl) | exact .inr (.inr rfl)) (by first | exact .inl rfl | exact .inr (.inl rfl) | exact .inr (.inr rfl)) rfl rfl rfl rfl (fun _ _ => rfl), bindK_of (ks := []) D (fun _ _ _ _ _ _ us ws h1 h2 => match us, ws, h1, h2 with | [_, _], [], _, _ => rfl)⟩
theorem sc_TooMany___init__ : FnScope ["self", "limit"] ["self", "limit"] (defScope (inClass (top 22) 0)) := ⟨rfl, rfl, rfl, by decide +kernel, rfl, by decide +kernel, by decide +kernel⟩
theorem xr_TooMany (F : Fc K mg) : ∃ fd, FnG P w K mg base 1 (He.ma K (He.ga K "TooMany") "__init__") fd ["self", "limit"] (spIni (He.ga K "TooMany") ["limit"]) ∧ BindK K fd ["self", "limit"] [] := by
  obtain ⟨fd, D⟩ := F.d_TooMany___init__
  exact ⟨fd, ini1 bx_A F.x_TooMany.oex (F.x_TooMany.no _ (by simp)) D sc_TooMany___init__ (by first | exact .inl rfl | exact .inr (.inl rfl) | exact .inr (.inr rfl)) (by first | exact .inl rfl | exact .inr (.inl rfl) | exact .inr (.inr rfl)) rfl rfl rfl rfl (fun _ _ => rfl), bindK_of (ks := []) D (fun _ _ _ _ _ _ us ws h1 h2 => match us, ws, h1, h2 with | [_, _], [], _, _ => rfl)⟩
theorem sc_OddRing___init__ : FnScope ["self", "ring"] ["self", "ring"] (defScope (inClass (top 23) 0)) := ⟨rfl, rfl, rfl, by decide +kernel, rfl, by decide +kernel, by decide +kernel⟩
theorem xr_OddRing (F : Fc K mg) : ∃ fd, FnG P w K mg base 1 (He.ma K (He.ga K "OddRing") "__init__") fd ["self", "ring"] (spIni (He.ga K "OddRing") ["ring"]) ∧ BindK K fd ["self", "ring"] [] := by
  obtain ⟨fd, D⟩ := F.d_OddRing___init__
  exact ⟨fd, ini1 bx_A F.x_OddRing.oex (F.x_OddRing.no _ (by simp)) D sc_OddRing___init__ (by first | exact .inl rfl | exact .inr (.inl rfl) | exact .inr (.inr rfl)) (by first | exact .inl rfl | exact .inr (.inl rfl) | exact .inr (.inr rfl)) rfl rfl rfl rfl (fun _ _ => rfl), bindK_of (ks := []) D (fun _ _ _ _ _ _ us ws h1 h2 => match us, ws, h1, h2 with | [_, _], [], _, _ => rfl)⟩
theorem sc_Broken___init__ : FnScope ["self", "index", "shown"] ["self", "index", "shown"] (defScope (inClass (top 25) 0)) := ⟨rfl, rfl, rfl, by decide +kernel, rfl, by decide +kernel, by decide +kernel⟩
theorem xr_Broken (F : Fc K mg) : ∃ fd, FnG P w K mg base 1 (He.ma K (He.ga K "Broken") "__init__") fd ["self", "index", "shown"] (spIni (He.ga K "Broken") ["index", "shown"]) ∧ BindK K fd ["self", "index", "shown"] [] := by
  obtain ⟨fd, D⟩ := F.d_Broken___init__
  exact ⟨fd, ini2 bx_A F.x_Broken.oex (F.x_Broken.no _ (by simp)) (F.x_Broken.no _ (by simp)) D sc_Broken___init__ (by first | exact .inl rfl | exact .inr (.inl rfl) | exact .inr (.inr rfl)) (by first | exact .inl rfl | exact .inr (.inl rfl) | exact .inr (.inr rfl)) (by first | exact .inl rfl | exact .inr (.inl rfl) | exact .inr (.inr rfl)) rfl rfl rfl rfl rfl rfl (fun _ _ => rfl) (fun _ _ => rfl), bindK_of (ks := []) D (fun _ _ _ _ _ _ us ws h1 h2 => match us, ws, h1, h2 with | [_, _, _], [], _, _ => rfl)⟩
theorem xv_InvalidText (F : Fc K mg) : CalG P w K mg base 2 (He.ga K "InvalidText") [] (mkXv "InvalidText" ["given"]) := by
  obtain ⟨fd, F1, hb⟩ := xr_InvalidText (P := P) (w := w) (base := base) F
  exact calG_exv (k := 1) bx_V F.x_InvalidText.oex F.x_InvalidText.ini F.x_InvalidText.tfn F1 hb rfl
theorem xv_InvalidText_given (F : Fc K mg) : CalG P w K mg base 2 (He.ga K "InvalidText") ["given"] (mkXv "InvalidText" ["given"]) := by
  obtain ⟨fd, D⟩ := F.d_InvalidText___init__
  exact calG_exv (k := 1) (fd := fd) bx_V F.x_InvalidText.oex F.x_InvalidText.ini F.x_InvalidText.tfn (ini1 bx_V F.x_InvalidText.oex (F.x_InvalidText.no _ (by simp)) D sc_InvalidText___init__ (by first | exact .inl rfl | exact .inr (.inl rfl) | exact .inr (.inr rfl)) (by first | exact .inl rfl | exact .inr (.inl rfl) | exact .inr (.inr rfl)) rfl rfl rfl rfl (fun _ _ => rfl)) (bindK_of (ps := ["self", "given"]) (ks := ["given"]) D (fun _ _ _ _ _ _ us ws h1 h2 => match us, ws, h1, h2 with | [_], [_], _, _ => rfl)) rfl
theorem xv_InvalidNumber (F : Fc K mg) : CalG P w K mg base 2 (He.ga K "InvalidNumber") [] (mkXv "InvalidNumber" ["given"]) := by
  obtain ⟨fd, F1, hb⟩ := xr_InvalidNumber (P := P) (w := w) (base := base) F
  exact calG_exv (k := 1) bx_V F.x_InvalidNumber.oex F.x_InvalidNumber.ini F.x_InvalidNumber.tfn F1 hb rfl
theorem xv_InvalidNumber_given (F : Fc K mg) : CalG P w K mg base 2 (He.ga K "InvalidNumber") ["given"] (mkXv "InvalidNumber" ["given"]) := by
  obtain ⟨fd, D⟩ := F.d_InvalidNumber___init__
  exact calG_exv (k := 1) (fd := fd) bx_V F.x_InvalidNumber.oex F.x_InvalidNumber.ini F.x_InvalidNumber.tfn (ini1 bx_V F.x_InvalidNumber.oex (F.x_InvalidNumber.no _ (by simp)) D sc_InvalidNumber___init__ (by first | exact .inl rfl | exact .inr (.inl rfl) | exact .inr (.inr rfl)) (by first | exact .inl rfl | exact .inr (.inl rfl) | exact .inr (.inr rfl)) rfl rfl rfl rfl (fun _ _ => rfl)) (bindK_of (ps := ["self", "given"]) (ks := ["given"]) D (fun _ _ _ _ _ _ us ws h1 h2 => match us, ws, h1, h2 with | [_], [_], _, _ => rfl)) rfl
theorem xv_InvalidLot (F : Fc K mg) : CalG P w K mg base 2 (He.ga K "InvalidLot") [] (mkXv "InvalidLot" ["given"]) := by
  obtain ⟨fd, F1, hb⟩ := xr_InvalidLot (P := P) (w := w) (base := base) F
  exact calG_exv (k := 1) bx_V F.x_InvalidLot.oex F.x_InvalidLot.ini F.x_InvalidLot.tfn F1 hb rfl
theorem xv_InvalidLot_given (F : Fc K mg) : CalG P w K mg base 2 (He.ga K "InvalidLot") ["given"] (mkXv "InvalidLot" ["given"]) := by
  obtain ⟨fd, D⟩ := F.d_InvalidLot___init__
  exact calG_exv (k := 1) (fd := fd) bx_V F.x_InvalidLot.oex F.x_InvalidLot.ini F.x_InvalidLot.tfn (ini1 bx_V F.x_InvalidLot.oex (F.x_InvalidLot.no _ (by simp)) D sc_InvalidLot___init__ (by first | exact .inl rfl | exact .inr (.inl rfl) | exact .inr (.inr rfl)) (by first | exact .inl rfl | exact .inr (.inl rfl) | exact .inr (.inr rfl)) rfl rfl rfl rfl (fun _ _ => rfl)) (bindK_of (ps := ["self", "given"]) (ks := ["given"]) D (fun _ _ _ _ _ _ us ws h1 h2 => match us, ws, h1, h2 with | [_], [_], _, _ => rfl)) rfl
theorem xv_InvalidPart (F : Fc K mg) : CalG P w K mg base 2 (He.ga K "InvalidPart") [] (mkXv "InvalidPart" ["given"]) := by
  obtain ⟨fd, F1, hb⟩ := xr_InvalidPart (P := P) (w := w) (base := base) F
  exact calG_exv (k := 1) bx_V F.x_InvalidPart.oex F.x_InvalidPart.ini F.x_InvalidPart.tfn F1 hb rfl
theorem xv_InvalidPart_given (F : Fc K mg) : CalG P w K mg base 2 (He.ga K "InvalidPart") ["given"] (mkXv "InvalidPart" ["given"]) := by
  obtain ⟨fd, D⟩ := F.d_InvalidPart___init__
  exact calG_exv (k := 1) (fd := fd) bx_V F.x_InvalidPart.oex F.x_InvalidPart.ini F.x_InvalidPart.tfn (ini1 bx_V F.x_InvalidPart.oex (F.x_InvalidPart.no _ (by simp)) D sc_InvalidPart___init__ (by first | exact .inl rfl | exact .inr (.inl rfl) | exact .inr (.inr rfl)) (by first | exact .inl rfl | exact .inr (.inl rfl) | exact .inr (.inr rfl)) rfl rfl rfl rfl (fun _ _ => rfl)) (bindK_of (ps := ["self", "given"]) (ks := ["given"]) D (fun _ _ _ _ _ _ us ws h1 h2 => match us, ws, h1, h2 with | [_], [_], _, _ => rfl)) rfl
theorem xv_InvalidRow (F : Fc K mg) : CalG P w K mg base 2 (He.ga K "InvalidRow") [] (mkXv "InvalidRow" ["given"]) := by
  obtain ⟨fd, F1, hb⟩ := xr_InvalidRow (P := P) (w := w) (base := base) F
  exact calG_exv (k := 1) bx_V F.x_InvalidRow.oex F.x_InvalidRow.ini F.x_InvalidRow.tfn F1 hb rfl
theorem xv_InvalidRow_given (F : Fc K mg) : CalG P w K mg base 2 (He.ga K "InvalidRow") ["given"] (mkXv "InvalidRow" ["given"]) := by
  obtain ⟨fd, D⟩ := F.d_InvalidRow___init__
  exact calG_exv (k := 1) (fd := fd) bx_V F.x_InvalidRow.oex F.x_InvalidRow.ini F.x_InvalidRow.tfn (ini1 bx_V F.x_InvalidRow.oex (F.x_InvalidRow.no _ (by simp)) D sc_InvalidRow___init__ (by first | exact .inl rfl | exact .inr (.inl rfl) | exact .inr (.inr rfl)) (by first | exact .inl rfl | exact .inr (.inl rfl) | exact .inr (.inr rfl)) rfl rfl rfl rfl (fun _ _ => rfl)) (bindK_of (ps := ["self", "given"]) (ks := ["given"]) D (fun _ _ _ _ _ _ us ws h1 h2 => match us, ws, h1, h2 with | [_], [_], _, _ => rfl)) rfl
theorem xv_InvalidName (F : Fc K mg) : CalG P w K mg base 2 (He.ga K "InvalidName") [] (mkXv "InvalidName" ["given"]) := by
  obtain ⟨fd, F1, hb⟩ := xr_InvalidName (P := P) (w := w) (base := base) F
  exact calG_exv (k := 1) bx_V F.x_InvalidName.oex F.x_InvalidName.ini F.x_InvalidName.tfn F1 hb rfl
theorem xv_InvalidName_given (F : Fc K mg) : CalG P w K mg base 2 (He.ga K "InvalidName") ["given"] (mkXv "InvalidName" ["given"]) := by
  obtain ⟨fd, D⟩ := F.d_InvalidName___init__
  exact calG_exv (k := 1) (fd := fd) bx_V F.x_InvalidName.oex F.x_InvalidName.ini F.x_InvalidName.tfn (ini1 bx_V F.x_InvalidName.oex (F.x_InvalidName.no _ (by simp)) D sc_InvalidName___init__ (by first | exact .inl rfl | exact .inr (.inl rfl) | exact .inr (.inr rfl)) (by first | exact .inl rfl | exact .inr (.inl rfl) | exact .inr (.inr rfl)) rfl rfl rfl rfl (fun _ _ => rfl)) (bindK_of (ps := ["self", "given"]) (ks := ["given"]) D (fun _ _ _ _ _ _ us ws h1 h2 => match us, ws, h1, h2 with | [_], [_], _, _ => rfl)) rfl
theorem xv_InvalidIndex (F : Fc K mg) : CalG P w K mg base 2 (He.ga K "InvalidIndex") [] (mkXv "InvalidIndex" ["given"]) := by
  obtain ⟨fd, F1, hb⟩ := xr_InvalidIndex (P := P) (w := w) (base := base) F
  exact calG_exv (k := 1) bx_V F.x_InvalidIndex.oex F.x_InvalidIndex.ini F.x_InvalidIndex.tfn F1 hb rfl
theorem xv_InvalidIndex_given (F : Fc K mg) : CalG P w K mg base 2 (He.ga K "InvalidIndex") ["given"] (mkXv "InvalidIndex" ["given"]) := by
  obtain ⟨fd, D⟩ := F.d_InvalidIndex___init__
  exact calG_exv (k := 1) (fd := fd) bx_V F.x_InvalidIndex.oex F.x_InvalidIndex.ini F.x_InvalidIndex.tfn (ini1 bx_V F.x_InvalidIndex.oex (F.x_InvalidIndex.no _ (by simp)) D sc_InvalidIndex___init__ (by first | exact .inl rfl | exact .inr (.inl rfl) | exact .inr (.inr rfl)) (by first | exact .inl rfl | exact .inr (.inl rfl) | exact .inr (.inr rfl)) rfl rfl rfl rfl (fun _ _ => rfl)) (bindK_of (ps := ["self", "given"]) (ks := ["given"]) D (fun _ _ _ _ _ _ us ws h1 h2 => match us, ws, h1, h2 with | [_], [_], _, _ => rfl)) rfl
theorem xv_InvalidClaim (F : Fc K mg) : CalG P w K mg base 2 (He.ga K "InvalidClaim") [] (mkXv "InvalidClaim" ["given"]) := by
  obtain ⟨fd, F1, hb⟩ := xr_InvalidClaim (P := P) (w := w) (base := base) F
  exact calG_exv (k := 1) bx_V F.x_InvalidClaim.oex F.x_InvalidClaim.ini F.x_InvalidClaim.tfn F1 hb rfl
theorem xv_InvalidClaim_given (F : Fc K mg) : CalG P w K mg base 2 (He.ga K "InvalidClaim") ["given"] (mkXv "InvalidClaim" ["given"]) := by
  obtain ⟨fd, D⟩ := F.d_InvalidClaim___init__
  exact calG_exv (k := 1) (fd := fd) bx_V F.x_InvalidClaim.oex F.x_InvalidClaim.ini F.x_InvalidClaim.tfn (ini1 bx_V F.x_InvalidClaim.oex (F.x_InvalidClaim.no _ (by simp)) D sc_InvalidClaim___init__ (by first | exact .inl rfl | exact .inr (.inl rfl) | exact .inr (.inr rfl)) (by first | exact .inl rfl | exact .inr (.inl rfl) | exact .inr (.inr rfl)) rfl rfl rfl rfl (fun _ _ => rfl)) (bindK_of (ps := ["self", "given"]) (ks := ["given"]) D (fun _ _ _ _ _ _ us ws h1 h2 => match us, ws, h1, h2 with | [_], [_], _, _ => rfl)) rfl
theorem xv_InvalidCommand (F : Fc K mg) : CalG P w K mg base 2 (He.ga K "InvalidCommand") [] (mkXv "InvalidCommand" ["given"]) := by
  obtain ⟨fd, F1, hb⟩ := xr_InvalidCommand (P := P) (w := w) (base := base) F
  exact calG_exv (k := 1) bx_V F.x_InvalidCommand.oex F.x_InvalidCommand.ini F.x_InvalidCommand.tfn F1 hb rfl
theorem xv_InvalidCommand_given (F : Fc K mg) : CalG P w K mg base 2 (He.ga K "InvalidCommand") ["given"] (mkXv "InvalidCommand" ["given"]) := by
  obtain ⟨fd, D⟩ := F.d_InvalidCommand___init__
  exact calG_exv (k := 1) (fd := fd) bx_V F.x_InvalidCommand.oex F.x_InvalidCommand.ini F.x_InvalidCommand.tfn (ini1 bx_V F.x_InvalidCommand.oex (F.x_InvalidCommand.no _ (by simp)) D sc_InvalidCommand___init__ (by first | exact .inl rfl | exact .inr (.inl rfl) | exact .inr (.inr rfl)) (by first | exact .inl rfl | exact .inr (.inl rfl) | exact .inr (.inr rfl)) rfl rfl rfl rfl (fun _ _ => rfl)) (bindK_of (ps := ["self", "given"]) (ks := ["given"]) D (fun _ _ _ _ _ _ us ws h1 h2 => match us, ws, h1, h2 with | [_], [_], _, _ => rfl)) rfl
theorem xv_NotATable (F : Fc K mg) : CalG P w K mg base 2 (He.ga K "NotATable") [] (mkXv "NotATable" ["given"]) := by
  obtain ⟨fd, F1, hb⟩ := xr_NotATable (P := P) (w := w) (base := base) F
  exact calG_exv (k := 1) bx_V F.x_NotATable.oex F.x_NotATable.ini F.x_NotATable.tfn F1 hb rfl
theorem xv_NotATable_given (F : Fc K mg) : CalG P w K mg base 2 (He.ga K "NotATable") ["given"] (mkXv "NotATable" ["given"]) := by
  obtain ⟨fd, D⟩ := F.d_NotATable___init__
  exact calG_exv (k := 1) (fd := fd) bx_V F.x_NotATable.oex F.x_NotATable.ini F.x_NotATable.tfn (ini1 bx_V F.x_NotATable.oex (F.x_NotATable.no _ (by simp)) D sc_NotATable___init__ (by first | exact .inl rfl | exact .inr (.inl rfl) | exact .inr (.inr rfl)) (by first | exact .inl rfl | exact .inr (.inl rfl) | exact .inr (.inr rfl)) rfl rfl rfl rfl (fun _ _ => rfl)) (bindK_of (ps := ["self", "given"]) (ks := ["given"]) D (fun _ _ _ _ _ _ us ws h1 h2 => match us, ws, h1, h2 with | [_], [_], _, _ => rfl)) rfl
theorem xv_InvalidPrices (F : Fc K mg) : CalG P w K mg base 2 (He.ga K "InvalidPrices") [] (mkXv "InvalidPrices" ["index"]) := by
  obtain ⟨fd, F1, hb⟩ := xr_InvalidPrices (P := P) (w := w) (base := base) F
  exact calG_exv (k := 1) bx_V F.x_InvalidPrices.oex F.x_InvalidPrices.ini F.x_InvalidPrices.tfn F1 hb rfl
theorem xv_InvalidPrices_index (F : Fc K mg) : CalG P w K mg base 2 (He.ga K "InvalidPrices") ["index"] (mkXv "InvalidPrices" ["index"]) := by
  obtain ⟨fd, D⟩ := F.d_InvalidPrices___init__
  exact calG_exv (k := 1) (fd := fd) bx_V F.x_InvalidPrices.oex F.x_InvalidPrices.ini F.x_InvalidPrices.tfn (ini1 bx_V F.x_InvalidPrices.oex (F.x_InvalidPrices.no _ (by simp)) D sc_InvalidPrices___init__ (by first | exact .inl rfl | exact .inr (.inl rfl) | exact .inr (.inr rfl)) (by first | exact .inl rfl | exact .inr (.inl rfl) | exact .inr (.inr rfl)) rfl rfl rfl rfl (fun _ _ => rfl)) (bindK_of (ps := ["self", "index"]) (ks := ["index"]) D (fun _ _ _ _ _ _ us ws h1 h2 => match us, ws, h1, h2 with | [_], [_], _, _ => rfl)) rfl
theorem xv_InvalidGains (F : Fc K mg) : CalG P w K mg base 2 (He.ga K "InvalidGains") [] (mkXv "InvalidGains" ["index"]) := by
  obtain ⟨fd, F1, hb⟩ := xr_InvalidGains (P := P) (w := w) (base := base) F
  exact calG_exv (k := 1) bx_V F.x_InvalidGains.oex F.x_InvalidGains.ini F.x_InvalidGains.tfn F1 hb rfl
theorem xv_InvalidGains_index (F : Fc K mg) : CalG P w K mg base 2 (He.ga K "InvalidGains") ["index"] (mkXv "InvalidGains" ["index"]) := by
  obtain ⟨fd, D⟩ := F.d_InvalidGains___init__
  exact calG_exv (k := 1) (fd := fd) bx_V F.x_InvalidGains.oex F.x_InvalidGains.ini F.x_InvalidGains.tfn (ini1 bx_V F.x_InvalidGains.oex (F.x_InvalidGains.no _ (by simp)) D sc_InvalidGains___init__ (by first | exact .inl rfl | exact .inr (.inl rfl) | exact .inr (.inr rfl)) (by first | exact .inl rfl | exact .inr (.inl rfl) | exact .inr (.inr rfl)) rfl rfl rfl rfl (fun _ _ => rfl)) (bindK_of (ps := ["self", "index"]) (ks := ["index"]) D (fun _ _ _ _ _ _ us ws h1 h2 => match us, ws, h1, h2 with | [_], [_], _, _ => rfl)) rfl
theorem xv_InvalidShares (F : Fc K mg) : CalG P w K mg base 2 (He.ga K "InvalidShares") [] (mkXv "InvalidShares" ["index"]) := by
  obtain ⟨fd, F1, hb⟩ := xr_InvalidShares (P := P) (w := w) (base := base) F
  exact calG_exv (k := 1) bx_V F.x_InvalidShares.oex F.x_InvalidShares.ini F.x_InvalidShares.tfn F1 hb rfl
theorem xv_InvalidShares_index (F : Fc K mg) : CalG P w K mg base 2 (He.ga K "InvalidShares") ["index"] (mkXv "InvalidShares" ["index"]) := by
  obtain ⟨fd, D⟩ := F.d_InvalidShares___init__
  exact calG_exv (k := 1) (fd := fd) bx_V F.x_InvalidShares.oex F.x_InvalidShares.ini F.x_InvalidShares.tfn (ini1 bx_V F.x_InvalidShares.oex (F.x_InvalidShares.no _ (by simp)) D sc_InvalidShares___init__ (by first | exact .inl rfl | exact .inr (.inl rfl) | exact .inr (.inr rfl)) (by first | exact .inl rfl | exact .inr (.inl rfl) | exact .inr (.inr rfl)) rfl rfl rfl rfl (fun _ _ => rfl)) (bindK_of (ps := ["self", "index"]) (ks := ["index"]) D (fun _ _ _ _ _ _ us ws h1 h2 => match us, ws, h1, h2 with | [_], [_], _, _ => rfl)) rfl
theorem xv_InvalidStretches (F : Fc K mg) : CalG P w K mg base 2 (He.ga K "InvalidStretches") [] (mkXv "InvalidStretches" ["index"]) := by
  obtain ⟨fd, F1, hb⟩ := xr_InvalidStretches (P := P) (w := w) (base := base) F
  exact calG_exv (k := 1) bx_V F.x_InvalidStretches.oex F.x_InvalidStretches.ini F.x_InvalidStretches.tfn F1 hb rfl
theorem xv_InvalidStretches_index (F : Fc K mg) : CalG P w K mg base 2 (He.ga K "InvalidStretches") ["index"] (mkXv "InvalidStretches" ["index"]) := by
  obtain ⟨fd, D⟩ := F.d_InvalidStretches___init__
  exact calG_exv (k := 1) (fd := fd) bx_V F.x_InvalidStretches.oex F.x_InvalidStretches.ini F.x_InvalidStretches.tfn (ini1 bx_V F.x_InvalidStretches.oex (F.x_InvalidStretches.no _ (by simp)) D sc_InvalidStretches___init__ (by first | exact .inl rfl | exact .inr (.inl rfl) | exact .inr (.inr rfl)) (by first | exact .inl rfl | exact .inr (.inl rfl) | exact .inr (.inr rfl)) rfl rfl rfl rfl (fun _ _ => rfl)) (bindK_of (ps := ["self", "index"]) (ks := ["index"]) D (fun _ _ _ _ _ _ us ws h1 h2 => match us, ws, h1, h2 with | [_], [_], _, _ => rfl)) rfl
theorem xv_UnknownName (F : Fc K mg) : CalG P w K mg base 2 (He.ga K "UnknownName") [] (mkXv "UnknownName" ["given"]) := by
  obtain ⟨fd, F1, hb⟩ := xr_UnknownName (P := P) (w := w) (base := base) F
  exact calG_exv (k := 1) bx_L F.x_UnknownName.oex F.x_UnknownName.ini F.x_UnknownName.tfn F1 hb rfl
theorem xv_UnknownName_given (F : Fc K mg) : CalG P w K mg base 2 (He.ga K "UnknownName") ["given"] (mkXv "UnknownName" ["given"]) := by
  obtain ⟨fd, D⟩ := F.d_UnknownName___init__
  exact calG_exv (k := 1) (fd := fd) bx_L F.x_UnknownName.oex F.x_UnknownName.ini F.x_UnknownName.tfn (ini1 bx_L F.x_UnknownName.oex (F.x_UnknownName.no _ (by simp)) D sc_UnknownName___init__ (by first | exact .inl rfl | exact .inr (.inl rfl) | exact .inr (.inr rfl)) (by first | exact .inl rfl | exact .inr (.inl rfl) | exact .inr (.inr rfl)) rfl rfl rfl rfl (fun _ _ => rfl)) (bindK_of (ps := ["self", "given"]) (ks := ["given"]) D (fun _ _ _ _ _ _ us ws h1 h2 => match us, ws, h1, h2 with | [_], [_], _, _ => rfl)) rfl
theorem xv_InUse (F : Fc K mg) : CalG P w K mg base 2 (He.ga K "InUse") [] (mkXv "InUse" ["index"]) := by
  obtain ⟨fd, F1, hb⟩ := xr_InUse (P := P) (w := w) (base := base) F
  exact calG_exv (k := 1) bx_L F.x_InUse.oex F.x_InUse.ini F.x_InUse.tfn F1 hb rfl
theorem xv_InUse_index (F : Fc K mg) : CalG P w K mg base 2 (He.ga K "InUse") ["index"] (mkXv "InUse" ["index"]) := by
  obtain ⟨fd, D⟩ := F.d_InUse___init__
  exact calG_exv (k := 1) (fd := fd) bx_L F.x_InUse.oex F.x_InUse.ini F.x_InUse.tfn (ini1 bx_L F.x_InUse.oex (F.x_InUse.no _ (by simp)) D sc_InUse___init__ (by first | exact .inl rfl | exact .inr (.inl rfl) | exact .inr (.inr rfl)) (by first | exact .inl rfl | exact .inr (.inl rfl) | exact .inr (.inr rfl)) rfl rfl rfl rfl (fun _ _ => rfl)) (bindK_of (ps := ["self", "index"]) (ks := ["index"]) D (fun _ _ _ _ _ _ us ws h1 h2 => match us, ws, h1, h2 with | [_], [_], _, _ => rfl)) rfl
theorem xv_Empty (F : Fc K mg) : CalG P w K mg base 2 (He.ga K "Empty") [] (mkXv "Empty" []) := calG_exv0 bx_A.base F.xo_Empty.1 F.xo_Empty.2.2.1 F.xo_Empty.2.2.2
theorem xv_NotThePrice (F : Fc K mg) : CalG P w K mg base 2 (He.ga K "NotThePrice") [] (mkXv "NotThePrice" []) := calG_exv0 bx_A.base F.xo_NotThePrice.1 F.xo_NotThePrice.2.2.1 F.xo_NotThePrice.2.2.2
theorem xv_TooMany (F : Fc K mg) : CalG P w K mg base 2 (He.ga K "TooMany") [] (mkXv "TooMany" ["limit"]) := by
  obtain ⟨fd, F1, hb⟩ := xr_TooMany (P := P) (w := w) (base := base) F
  exact calG_exv (k := 1) bx_A F.x_TooMany.oex F.x_TooMany.ini F.x_TooMany.tfn F1 hb rfl
theorem xv_TooMany_limit (F : Fc K mg) : CalG P w K mg base 2 (He.ga K "TooMany") ["limit"] (mkXv "TooMany" ["limit"]) := by
  obtain ⟨fd, D⟩ := F.d_TooMany___init__
  exact calG_exv (k := 1) (fd := fd) bx_A F.x_TooMany.oex F.x_TooMany.ini F.x_TooMany.tfn (ini1 bx_A F.x_TooMany.oex (F.x_TooMany.no _ (by simp)) D sc_TooMany___init__ (by first | exact .inl rfl | exact .inr (.inl rfl) | exact .inr (.inr rfl)) (by first | exact .inl rfl | exact .inr (.inl rfl) | exact .inr (.inr rfl)) rfl rfl rfl rfl (fun _ _ => rfl)) (bindK_of (ps := ["self", "limit"]) (ks := ["limit"]) D (fun _ _ _ _ _ _ us ws h1 h2 => match us, ws, h1, h2 with | [_], [_], _, _ => rfl)) rfl
theorem xv_OddRing (F : Fc K mg) : CalG P w K mg base 2 (He.ga K "OddRing") [] (mkXv "OddRing" ["ring"]) := by
  obtain ⟨fd, F1, hb⟩ := xr_OddRing (P := P) (w := w) (base := base) F
  exact calG_exv (k := 1) bx_A F.x_OddRing.oex F.x_OddRing.ini F.x_OddRing.tfn F1 hb rfl
theorem xv_OddRing_ring (F : Fc K mg) : CalG P w K mg base 2 (He.ga K "OddRing") ["ring"] (mkXv "OddRing" ["ring"]) := by
  obtain ⟨fd, D⟩ := F.d_OddRing___init__
  exact calG_exv (k := 1) (fd := fd) bx_A F.x_OddRing.oex F.x_OddRing.ini F.x_OddRing.tfn (ini1 bx_A F.x_OddRing.oex (F.x_OddRing.no _ (by simp)) D sc_OddRing___init__ (by first | exact .inl rfl | exact .inr (.inl rfl) | exact .inr (.inr rfl)) (by first | exact .inl rfl | exact .inr (.inl rfl) | exact .inr (.inr rfl)) rfl rfl rfl rfl (fun _ _ => rfl)) (bindK_of (ps := ["self", "ring"]) (ks := ["ring"]) D (fun _ _ _ _ _ _ us ws h1 h2 => match us, ws, h1, h2 with | [_], [_], _, _ => rfl)) rfl
theorem xv_NothingToUndo (F : Fc K mg) : CalG P w K mg base 2 (He.ga K "NothingToUndo") [] (mkXv "NothingToUndo" []) := calG_exv0 bx_A.base F.xo_NothingToUndo.1 F.xo_NothingToUndo.2.2.1 F.xo_NothingToUndo.2.2.2
theorem xv_Broken (F : Fc K mg) : CalG P w K mg base 2 (He.ga K "Broken") [] (mkXv "Broken" ["index", "shown"]) := by
  obtain ⟨fd, F1, hb⟩ := xr_Broken (P := P) (w := w) (base := base) F
  exact calG_exv (k := 1) bx_A F.x_Broken.oex F.x_Broken.ini F.x_Broken.tfn F1 hb rfl
theorem xv_Broken_shown_index (F : Fc K mg) : CalG P w K mg base 2 (He.ga K "Broken") ["shown", "index"] (calP (mkXv "Broken" ["index", "shown"]) 2 [1, 0]) := by
  obtain ⟨fd, D⟩ := F.d_Broken___init__
  exact calG_exvP (k := 1) (fd := fd) (is := [1, 0]) bx_A F.x_Broken.oex F.x_Broken.ini F.x_Broken.tfn (ini2 bx_A F.x_Broken.oex (F.x_Broken.no _ (by simp)) (F.x_Broken.no _ (by simp)) D sc_Broken___init__ (by first | exact .inl rfl | exact .inr (.inl rfl) | exact .inr (.inr rfl)) (by first | exact .inl rfl | exact .inr (.inl rfl) | exact .inr (.inr rfl)) (by first | exact .inl rfl | exact .inr (.inl rfl) | exact .inr (.inr rfl)) rfl rfl rfl rfl rfl rfl (fun _ _ => rfl) (fun _ _ => rfl)) (bindP_of (ps := ["self", "index", "shown"]) (ks := ["shown", "index"]) D (fun _ _ _ _ _ _ us ws h1 h2 => match us, ws, h1, h2 with | [_], [_, _], _, _ => rfl)) rfl rfl (by decide)
theorem sc_law : FnScope ["_law_cells", "_law_at"] ["_law_cells"] (defScope (top 40)) := ⟨rfl, rfl, rfl, by decide +kernel, rfl, by decide +kernel, by decide +kernel⟩
theorem fb_law (F : Fc K mg) (T : Tab P w K mg base k cal) : FB P w K mg base (k + 2) ["_law_cells", "_law_at"] "law" (defScope (top 40)) (defBody (top 40)) (b_law_v66 cal) := by
  intro f cdv A outer s H E hg hr
  have C := ct_of (P := P) (w := w) (K := K) (mg := mg) (base := base) (k := k + 2) (N := ["_law_cells", "_law_at"]) (qual := "law") (scope := defScope (top 40)) (f := f) (cdv := cdv) (A := A) (outer := outer) (s := s) (H := H) (E := E) hg hr
  have nd := sc_law.nd
  exact (sb_cons (ss_if (nCmpT (op_pNe C.hu) (nB (cr_pReprZ T.sys C.gd C.hu) F.b_repr bt_repr (nCons (se_lst (nCons (nInt F.c_MOST_ROWS) (nCons (nInt F.c_MOST_COLUMNS) (nCons (nInt F.c_MOST_PRICE) (nCons (nInt F.c_MOST_STRIKES) (nCons (nInt F.c_MOST_KNOTS) sa_nil)))))) sa_nil)) (nB (cr_pReprZ T.sys C.gd C.hu) F.b_repr bt_repr (nCons (se_lst (nCons se_int (nCons se_int (nCons (se_op op_pPow se_int se_int) (nCons se_int (nCons se_int sa_nil)))))) sa_nil))) (sb_one (ss_ret se_bl)) sb_nil)
    (sb_one (ss_ret (nB (cr_pAll C.calm) F.b_all bt_all (nCons (nLc [("_law_at", 1)] C fin_newL nd (nR1 F.b_range (nCons (nB (cr_pMax C.calm) F.b_max bt_max (nCons se_int (nCons (nB (cr_pMin C.calm) F.b_min bt_min (nCons (nB cr_pLen F.b_len bt_len (nCons (nVar 0) sa_nil)) (nCons se_int sa_nil))) sa_nil))) sa_nil)) (blkOk_by (by kernel_rfl)) (fun _ _ _ _ _ => (uName 1 nd)) (fun _ _ _ _ _ => ptsNil) (fun _ _ _ _ _ => (nCal C.blk T.t__law_right F.g__law_right F.k__law_right (nCons (nCal C.blk T.t__law_tray F.g__law_tray F.k__law_tray (nCons (nVar 0) (nCons (nVar 1) sa_nil))) sa_nil))) upNm) sa_nil)))))
theorem sc__law_right : FnScope ["_law_tray_here", "_law_thing", "_law_mate", "_law_e", "_law_word", "_law_told"] ["_law_tray_here"] (defScope (top 39)) := ⟨rfl, rfl, rfl, by decide +kernel, rfl, by decide +kernel, by decide +kernel⟩
theorem fb__law_right (F : Fc K mg) (T : Tab P w K mg base k cal) : FB P w K mg base (k + 2) ["_law_tray_here", "_law_thing", "_law_mate", "_law_e", "_law_word", "_law_told"] "_law_right" (defScope (top 39)) (defBody (top 39)) (b__law_right_v65 cal) := by
  intro f cdv A outer s H E hg hr
  have C := ct_of (P := P) (w := w) (K := K) (mg := mg) (base := base) (k := k + 2) (N := ["_law_tray_here", "_law_thing", "_law_mate", "_law_e", "_law_word", "_law_told"]) (qual := "_law_right") (scope := defScope (top 39)) (f := f) (cdv := cdv) (A := A) (outer := outer) (s := s) (H := H) (E := E) hg hr
  have nd := sc__law_right.nd
  exact (sb_cons (nPar2 1 2 C nd (nCons (nCal C T.t__law_odd F.g__law_odd F.k__law_odd (nCons (nVar 0) sa_nil)) (nCons (nCal C T.t__law_odd F.g__law_odd F.k__law_odd (nCons (nVar 0) sa_nil)) sa_nil)))
    (sb_cons (nFor C po_of (si_any (se_op op_pAdd (nCal C T.t__law_by_place F.g__law_by_place F.k__law_by_place (nCons (nVar 1) sa_nil)) (nCal C T.t__law_by_name F.g__law_by_name F.k__law_by_name (nCons (nVar 1) sa_nil)))) (gTup C (gCons (gName 3 nd) (gCons (gName 4 nd) sgs_nil))) (sb_one (ss_if (nCmpT (op_pNe C.hu) (nB (cr_pReprZ T.sys C.gd C.hu) F.b_repr bt_repr (nCons (nCal C T.t__law_tale F.g__law_tale F.k__law_tale (nCons (nVar 3) sa_nil)) sa_nil)) (nB (cr_pReprZ T.sys C.gd C.hu) F.b_repr bt_repr (nCons (se_tup (nCons (nVar 4) (nCons (nVar 1) sa_nil))) sa_nil))) (sb_one (ss_ret se_bl)) sb_nil)))
    (sb_cons (nFor C po_of (si_any (se_lst (nCons (se_tup (nCons (nCal0 C (CalG.mono (xv_Empty F) (by omega)) F.g_Empty F.xo_Empty.2.1) (nCons se_str sa_nil))) (nCons (se_tup (nCons (nCal0 C (CalG.mono (xv_NotThePrice F) (by omega)) F.g_NotThePrice F.xo_NotThePrice.2.1) (nCons se_str sa_nil))) (nCons (se_tup (nCons (nCal0 C (CalG.mono (xv_NothingToUndo F) (by omega)) F.g_NothingToUndo F.xo_NothingToUndo.2.1) (nCons se_str sa_nil))) sa_nil))))) (gTup C (gCons (gName 3 nd) (gCons (gName 4 nd) sgs_nil))) (sb_one (ss_if (nCmpT (op_pNe C.hu) (nCal C T.t__law_tale F.g__law_tale F.k__law_tale (nCons (nVar 3) sa_nil)) (se_tup (nCons (nVar 4) (nCons se_str sa_nil)))) (sb_one (ss_ret se_bl)) sb_nil)))
    (sb_cons (nSet 5 (se_lst (nCons (nCal C T.t__law_tale F.g__law_tale F.k__law_tale (nCons (nCal C (CalG.mono (xv_Broken F) (by omega)) F.g_Broken F.x_Broken.oex.kC (nCons (nVar 1) (nCons (nVar 2) sa_nil))) sa_nil)) (nCons (nCal C T.t__law_tale F.g__law_tale F.k__law_tale (nCons (nCalK0 C (CalG.mono (xv_Broken_shown_index F) (by omega)) F.g_Broken F.x_Broken.oex.kC (sk_cons (nVar 2) (sk_cons (nVar 1) sk_nil)) (aCons_len (aCons_len aNil_len))) sa_nil)) sa_nil))) nd)
    (sb_one (ss_ret (nCmp (op_pEq C.hu) (nB (cr_pReprZ T.sys C.gd C.hu) F.b_repr bt_repr (nCons (nVar 5) sa_nil)) (nB (cr_pReprZ T.sys C.gd C.hu) F.b_repr bt_repr (nCons (se_op op_pMul (se_lst (nCons (se_tup (nCons se_str (nCons (se_tup (nCons (nVar 1) (nCons (nVar 2) sa_nil))) sa_nil))) sa_nil)) se_int) sa_nil)))))))))
theorem sc__law_tray : FnScope ["_law_cells", "_law_at", "_law_own", "_law_mixed", "_law_k"] ["_law_cells", "_law_at"] (defScope (top 32)) := ⟨rfl, rfl, rfl, by decide +kernel, rfl, by decide +kernel, by decide +kernel⟩
theorem fb__law_tray (F : Fc K mg) (T : Tab P w K mg base k cal) : FB P w K mg base (k + 2) ["_law_cells", "_law_at", "_law_own", "_law_mixed", "_law_k"] "_law_tray" (defScope (top 32)) (defBody (top 32)) (b__law_tray cal) := by
  intro f cdv A outer s H E hg hr
  have C := ct_of (P := P) (w := w) (K := K) (mg := mg) (base := base) (k := k + 2) (N := ["_law_cells", "_law_at", "_law_own", "_law_mixed", "_law_k"]) (qual := "_law_tray") (scope := defScope (top 32)) (f := f) (cdv := cdv) (A := A) (outer := outer) (s := s) (H := H) (E := E) hg hr
  have nd := sc__law_tray.nd
  exact (sb_cons (nPar2 2 3 C nd (nCons (se_if (nCmpT op_pLt (nVar 1) (nB cr_pLen F.b_len bt_len (nCons (nVar 0) sa_nil))) (nIx (nVar 0) (nVar 1)) se_int) (nCons (se_op op_pAdd se_int (se_op op_pMul se_int (nVar 1))) sa_nil)))
    (sb_cons (nFor C po_of (nR1 F.b_range (nCons (nB (cr_pMin C.calm) F.b_min bt_min (nCons (nB cr_pLen F.b_len bt_len (nCons (nVar 0) sa_nil)) (nCons se_int sa_nil))) sa_nil)) (gName 4 nd) (sb_one (nSet 3 (se_op op_pMod (nT cr_pInt F.b_int bt_int (nCons (se_op op_pAdd (se_op op_pAdd (se_op op_pMul (nVar 3) (se_op op_pAdd se_int (se_op op_pMul se_int (nVar 4)))) (se_op op_pMul se_int (nIx (nVar 0) (nVar 4)))) se_int) sa_nil)) se_int) nd)))
    (sb_one (ss_ret (se_lstC (nCons (se_if (sw_st (sw_or (nCmpT op_pLt (nVar 2) se_int) (sw_or1 (nCmpT op_pGe (nVar 2) (se_op op_pPow se_int se_int))))) (nB cr_pAbs F.b_abs bt_abs (nCons (nVar 2) sa_nil)) se_int) (nCons (se_op op_pMod (nT cr_pInt F.b_int bt_int (nCons (se_op op_pAdd (se_op op_pMul (nVar 3) se_int) (se_op op_pMul (nVar 2) se_int)) sa_nil)) se_int) (nCons se_int sa_nil))))))))
theorem sc__law_tale : FnScope ["_law_e", "_law_kin_here", "_law_word"] ["_law_e"] (defScope (top 35)) := ⟨rfl, rfl, rfl, by decide +kernel, rfl, by decide +kernel, by decide +kernel⟩
theorem fb__law_tale (F : Fc K mg) (T : Tab P w K mg base k cal) : FB P w K mg base (k + 2) ["_law_e", "_law_kin_here", "_law_word"] "_law_tale" (defScope (top 35)) (defBody (top 35)) (b__law_tale_v2 cal) := by
  intro f cdv A outer s H E hg hr
  have C := ct_of (P := P) (w := w) (K := K) (mg := mg) (base := base) (k := k + 2) (N := ["_law_e", "_law_kin_here", "_law_word"]) (qual := "_law_tale") (scope := defScope (top 35)) (f := f) (cdv := cdv) (A := A) (outer := outer) (s := s) (H := H) (E := E) hg hr
  have nd := sc__law_tale.nd
  exact (sb_cons (nSet 1 (nCal C T.t__law_kin F.g__law_kin F.k__law_kin (nCons (nVar 0) sa_nil)) nd)
    (sb_cons (nFor C po_of (si_any (se_lst (nCons se_str (nCons se_str (nCons se_str (nCons se_str (nCons se_str (nCons se_str (nCons se_str (nCons se_str (nCons se_str (nCons se_str sa_nil)))))))))))) (gName 2 nd) (sb_one (ss_if (nCmpT (op_pEq C.hu) (nVar 1) (se_op op_pAdd se_str (nVar 2))) (sb_one (ss_ret (se_tup (nCons (nVar 2) (nCons (nXvf C F.fl (nVar 0)) sa_nil))))) sb_nil)))
    (sb_cons (nFor C po_of (si_any (se_lst (nCons se_str (nCons se_str (nCons se_str (nCons se_str sa_nil)))))) (gName 2 nd) (sb_one (ss_if (nCmpT (op_pEq C.hu) (nVar 1) (se_op op_pAdd se_str (nVar 2))) (sb_one (ss_ret (se_tup (nCons (nVar 2) (nCons (nXvf C F.fl (nVar 0)) sa_nil))))) sb_nil)))
    (sb_cons (nFor C po_of (si_any (se_lst (nCons se_str (nCons se_str (nCons se_str sa_nil))))) (gName 2 nd) (sb_one (ss_if (nCmpT (op_pEq C.hu) (nVar 1) (se_op op_pAdd se_str (nVar 2))) (sb_one (ss_ret (se_tup (nCons (nVar 2) (nCons se_str sa_nil))))) sb_nil)))
    (sb_cons (ss_if (nCmpT (op_pEq C.hu) (nVar 1) se_str) (sb_one (ss_ret (se_tup (nCons se_str (nCons (nXvf C F.fl (nVar 0)) sa_nil))))) sb_nil)
    (sb_cons (ss_if (nCmpT (op_pEq C.hu) (nVar 1) se_str) (sb_one (ss_ret (se_tup (nCons se_str (nCons (nXvf C F.fl (nVar 0)) sa_nil))))) sb_nil)
    (sb_cons (ss_if (nCmpT (op_pEq C.hu) (nVar 1) se_str) (sb_one (ss_ret (se_tup (nCons se_str (nCons (nXvf C F.fl (nVar 0)) sa_nil))))) sb_nil)
    (sb_cons (ss_if (nCmpT (op_pEq C.hu) (nVar 1) se_str) (sb_one (ss_ret (se_tup (nCons se_str (nCons (nXvf C F.fl (nVar 0)) sa_nil))))) sb_nil)
    (sb_one (ss_ret (se_if (nCmpT (op_pEq C.hu) (nVar 1) se_str) (se_tup (nCons se_str (nCons (se_tup (nCons (nXvf C F.fl (nVar 0)) (nCons (nXvf C F.fl (nVar 0)) sa_nil))) sa_nil))) (se_tup (nCons se_str (nCons (nVar 1) sa_nil))))))))))))))
theorem sc__law_by_place : FnScope ["_law_thing", "_law_found"] ["_law_thing"] (defScope (top 37)) := ⟨rfl, rfl, rfl, by decide +kernel, rfl, by decide +kernel, by decide +kernel⟩
theorem fb__law_by_place (F : Fc K mg) (T : Tab P w K mg base k cal) : FB P w K mg base (k + 2) ["_law_thing", "_law_found"] "_law_by_place" (defScope (top 37)) (defBody (top 37)) (b__law_by_place cal) := by
  intro f cdv A outer s H E hg hr
  have C := ct_of (P := P) (w := w) (K := K) (mg := mg) (base := base) (k := k + 2) (N := ["_law_thing", "_law_found"]) (qual := "_law_by_place") (scope := defScope (top 37)) (f := f) (cdv := cdv) (A := A) (outer := outer) (s := s) (H := H) (E := E) hg hr
  have nd := sc__law_by_place.nd
  exact (sb_cons (nSet 1 (se_lst (nCons (se_tup (nCons (nCal C (CalG.mono (xv_InvalidText F) (by omega)) F.g_InvalidText F.x_InvalidText.oex.kC (nCons (nVar 0) sa_nil)) (nCons se_str sa_nil))) (nCons (se_tup (nCons (nCal C (CalG.mono (xv_InvalidNumber F) (by omega)) F.g_InvalidNumber F.x_InvalidNumber.oex.kC (nCons (nVar 0) sa_nil)) (nCons se_str sa_nil))) sa_nil))) nd)
    (sb_cons (nSet 1 (se_op op_pAdd (nVar 1) (se_lst (nCons (se_tup (nCons (nCal C (CalG.mono (xv_InvalidLot F) (by omega)) F.g_InvalidLot F.x_InvalidLot.oex.kC (nCons (nVar 0) sa_nil)) (nCons se_str sa_nil))) (nCons (se_tup (nCons (nCal C (CalG.mono (xv_InvalidPart F) (by omega)) F.g_InvalidPart F.x_InvalidPart.oex.kC (nCons (nVar 0) sa_nil)) (nCons se_str sa_nil))) sa_nil)))) nd)
    (sb_cons (nSet 1 (se_op op_pAdd (nVar 1) (se_lst (nCons (se_tup (nCons (nCal C (CalG.mono (xv_InvalidRow F) (by omega)) F.g_InvalidRow F.x_InvalidRow.oex.kC (nCons (nVar 0) sa_nil)) (nCons se_str sa_nil))) (nCons (se_tup (nCons (nCal C (CalG.mono (xv_InvalidName F) (by omega)) F.g_InvalidName F.x_InvalidName.oex.kC (nCons (nVar 0) sa_nil)) (nCons se_str sa_nil))) sa_nil)))) nd)
    (sb_cons (nSet 1 (se_op op_pAdd (nVar 1) (se_lst (nCons (se_tup (nCons (nCal C (CalG.mono (xv_InvalidIndex F) (by omega)) F.g_InvalidIndex F.x_InvalidIndex.oex.kC (nCons (nVar 0) sa_nil)) (nCons se_str sa_nil))) (nCons (se_tup (nCons (nCal C (CalG.mono (xv_InvalidClaim F) (by omega)) F.g_InvalidClaim F.x_InvalidClaim.oex.kC (nCons (nVar 0) sa_nil)) (nCons se_str sa_nil))) sa_nil)))) nd)
    (sb_cons (nSet 1 (se_op op_pAdd (nVar 1) (se_lst (nCons (se_tup (nCons (nCal C (CalG.mono (xv_InvalidCommand F) (by omega)) F.g_InvalidCommand F.x_InvalidCommand.oex.kC (nCons (nVar 0) sa_nil)) (nCons se_str sa_nil))) (nCons (se_tup (nCons (nCal C (CalG.mono (xv_NotATable F) (by omega)) F.g_NotATable F.x_NotATable.oex.kC (nCons (nVar 0) sa_nil)) (nCons se_str sa_nil))) sa_nil)))) nd)
    (sb_cons (nSet 1 (se_op op_pAdd (nVar 1) (se_lst (nCons (se_tup (nCons (nCal C (CalG.mono (xv_InvalidPrices F) (by omega)) F.g_InvalidPrices F.x_InvalidPrices.oex.kC (nCons (nVar 0) sa_nil)) (nCons se_str sa_nil))) (nCons (se_tup (nCons (nCal C (CalG.mono (xv_InvalidGains F) (by omega)) F.g_InvalidGains F.x_InvalidGains.oex.kC (nCons (nVar 0) sa_nil)) (nCons se_str sa_nil))) sa_nil)))) nd)
    (sb_cons (nSet 1 (se_op op_pAdd (nVar 1) (se_lst (nCons (se_tup (nCons (nCal C (CalG.mono (xv_InvalidShares F) (by omega)) F.g_InvalidShares F.x_InvalidShares.oex.kC (nCons (nVar 0) sa_nil)) (nCons se_str sa_nil))) (nCons (se_tup (nCons (nCal C (CalG.mono (xv_InvalidStretches F) (by omega)) F.g_InvalidStretches F.x_InvalidStretches.oex.kC (nCons (nVar 0) sa_nil)) (nCons se_str sa_nil))) sa_nil)))) nd)
    (sb_cons (nSet 1 (se_op op_pAdd (nVar 1) (se_lst (nCons (se_tup (nCons (nCal C (CalG.mono (xv_UnknownName F) (by omega)) F.g_UnknownName F.x_UnknownName.oex.kC (nCons (nVar 0) sa_nil)) (nCons se_str sa_nil))) (nCons (se_tup (nCons (nCal C (CalG.mono (xv_InUse F) (by omega)) F.g_InUse F.x_InUse.oex.kC (nCons (nVar 0) sa_nil)) (nCons se_str sa_nil))) sa_nil)))) nd)
    (sb_one (ss_ret (se_op op_pAdd (nVar 1) (se_lst (nCons (se_tup (nCons (nCal C (CalG.mono (xv_TooMany F) (by omega)) F.g_TooMany F.x_TooMany.oex.kC (nCons (nVar 0) sa_nil)) (nCons se_str sa_nil))) (nCons (se_tup (nCons (nCal C (CalG.mono (xv_OddRing F) (by omega)) F.g_OddRing F.x_OddRing.oex.kC (nCons (nVar 0) sa_nil)) (nCons se_str sa_nil))) sa_nil))))))))))))))
theorem sc__law_by_name : FnScope ["_law_thing", "_law_found"] ["_law_thing"] (defScope (top 38)) := ⟨rfl, rfl, rfl, by decide +kernel, rfl, by decide +kernel, by decide +kernel⟩
theorem fb__law_by_name (F : Fc K mg) (T : Tab P w K mg base k cal) : FB P w K mg base (k + 2) ["_law_thing", "_law_found"] "_law_by_name" (defScope (top 38)) (defBody (top 38)) (b__law_by_name cal) := by
  intro f cdv A outer s H E hg hr
  have C := ct_of (P := P) (w := w) (K := K) (mg := mg) (base := base) (k := k + 2) (N := ["_law_thing", "_law_found"]) (qual := "_law_by_name") (scope := defScope (top 38)) (f := f) (cdv := cdv) (A := A) (outer := outer) (s := s) (H := H) (E := E) hg hr
  have nd := sc__law_by_name.nd
  exact (sb_cons (nSet 1 (se_lst (nCons (se_tup (nCons (nCalK0 C (CalG.mono (xv_InvalidText_given F) (by omega)) F.g_InvalidText F.x_InvalidText.oex.kC (sk_cons (nVar 0) sk_nil) (aCons_len aNil_len)) (nCons se_str sa_nil))) (nCons (se_tup (nCons (nCalK0 C (CalG.mono (xv_InvalidNumber_given F) (by omega)) F.g_InvalidNumber F.x_InvalidNumber.oex.kC (sk_cons (nVar 0) sk_nil) (aCons_len aNil_len)) (nCons se_str sa_nil))) sa_nil))) nd)
    (sb_cons (nSet 1 (se_op op_pAdd (nVar 1) (se_lst (nCons (se_tup (nCons (nCalK0 C (CalG.mono (xv_InvalidLot_given F) (by omega)) F.g_InvalidLot F.x_InvalidLot.oex.kC (sk_cons (nVar 0) sk_nil) (aCons_len aNil_len)) (nCons se_str sa_nil))) (nCons (se_tup (nCons (nCalK0 C (CalG.mono (xv_InvalidPart_given F) (by omega)) F.g_InvalidPart F.x_InvalidPart.oex.kC (sk_cons (nVar 0) sk_nil) (aCons_len aNil_len)) (nCons se_str sa_nil))) sa_nil)))) nd)
    (sb_cons (nSet 1 (se_op op_pAdd (nVar 1) (se_lst (nCons (se_tup (nCons (nCalK0 C (CalG.mono (xv_InvalidRow_given F) (by omega)) F.g_InvalidRow F.x_InvalidRow.oex.kC (sk_cons (nVar 0) sk_nil) (aCons_len aNil_len)) (nCons se_str sa_nil))) (nCons (se_tup (nCons (nCalK0 C (CalG.mono (xv_InvalidName_given F) (by omega)) F.g_InvalidName F.x_InvalidName.oex.kC (sk_cons (nVar 0) sk_nil) (aCons_len aNil_len)) (nCons se_str sa_nil))) sa_nil)))) nd)
    (sb_cons (nSet 1 (se_op op_pAdd (nVar 1) (se_lst (nCons (se_tup (nCons (nCalK0 C (CalG.mono (xv_InvalidIndex_given F) (by omega)) F.g_InvalidIndex F.x_InvalidIndex.oex.kC (sk_cons (nVar 0) sk_nil) (aCons_len aNil_len)) (nCons se_str sa_nil))) (nCons (se_tup (nCons (nCalK0 C (CalG.mono (xv_InvalidClaim_given F) (by omega)) F.g_InvalidClaim F.x_InvalidClaim.oex.kC (sk_cons (nVar 0) sk_nil) (aCons_len aNil_len)) (nCons se_str sa_nil))) sa_nil)))) nd)
    (sb_cons (nSet 1 (se_op op_pAdd (nVar 1) (se_lst (nCons (se_tup (nCons (nCalK0 C (CalG.mono (xv_InvalidCommand_given F) (by omega)) F.g_InvalidCommand F.x_InvalidCommand.oex.kC (sk_cons (nVar 0) sk_nil) (aCons_len aNil_len)) (nCons se_str sa_nil))) (nCons (se_tup (nCons (nCalK0 C (CalG.mono (xv_NotATable_given F) (by omega)) F.g_NotATable F.x_NotATable.oex.kC (sk_cons (nVar 0) sk_nil) (aCons_len aNil_len)) (nCons se_str sa_nil))) sa_nil)))) nd)
    (sb_cons (nSet 1 (se_op op_pAdd (nVar 1) (se_lst (nCons (se_tup (nCons (nCalK0 C (CalG.mono (xv_InvalidPrices_index F) (by omega)) F.g_InvalidPrices F.x_InvalidPrices.oex.kC (sk_cons (nVar 0) sk_nil) (aCons_len aNil_len)) (nCons se_str sa_nil))) (nCons (se_tup (nCons (nCalK0 C (CalG.mono (xv_InvalidGains_index F) (by omega)) F.g_InvalidGains F.x_InvalidGains.oex.kC (sk_cons (nVar 0) sk_nil) (aCons_len aNil_len)) (nCons se_str sa_nil))) sa_nil)))) nd)
    (sb_cons (nSet 1 (se_op op_pAdd (nVar 1) (se_lst (nCons (se_tup (nCons (nCalK0 C (CalG.mono (xv_InvalidShares_index F) (by omega)) F.g_InvalidShares F.x_InvalidShares.oex.kC (sk_cons (nVar 0) sk_nil) (aCons_len aNil_len)) (nCons se_str sa_nil))) sa_nil))) nd)
    (sb_cons (nSet 1 (se_op op_pAdd (nVar 1) (se_lst (nCons (se_tup (nCons (nCalK0 C (CalG.mono (xv_InvalidStretches_index F) (by omega)) F.g_InvalidStretches F.x_InvalidStretches.oex.kC (sk_cons (nVar 0) sk_nil) (aCons_len aNil_len)) (nCons se_str sa_nil))) sa_nil))) nd)
    (sb_cons (nSet 1 (se_op op_pAdd (nVar 1) (se_lst (nCons (se_tup (nCons (nCalK0 C (CalG.mono (xv_UnknownName_given F) (by omega)) F.g_UnknownName F.x_UnknownName.oex.kC (sk_cons (nVar 0) sk_nil) (aCons_len aNil_len)) (nCons se_str sa_nil))) (nCons (se_tup (nCons (nCalK0 C (CalG.mono (xv_InUse_index F) (by omega)) F.g_InUse F.x_InUse.oex.kC (sk_cons (nVar 0) sk_nil) (aCons_len aNil_len)) (nCons se_str sa_nil))) sa_nil)))) nd)
    (sb_one (ss_ret (se_op op_pAdd (nVar 1) (se_lst (nCons (se_tup (nCons (nCalK0 C (CalG.mono (xv_TooMany_limit F) (by omega)) F.g_TooMany F.x_TooMany.oex.kC (sk_cons (nVar 0) sk_nil) (aCons_len aNil_len)) (nCons se_str sa_nil))) (nCons (se_tup (nCons (nCalK0 C (CalG.mono (xv_OddRing_ring F) (by omega)) F.g_OddRing F.x_OddRing.oex.kC (sk_cons (nVar 0) sk_nil) (aCons_len aNil_len)) (nCons se_str sa_nil))) sa_nil)))))))))))))))
theorem sc__law_odd : FnScope ["_law_tray_here", "_law_some"] ["_law_tray_here"] (defScope (top 36)) := ⟨rfl, rfl, rfl, by decide +kernel, rfl, by decide +kernel, by decide +kernel⟩
theorem fb__law_odd (F : Fc K mg) (T : Tab P w K mg base k cal) : FB P w K mg base (k + 2) ["_law_tray_here", "_law_some"] "_law_odd" (defScope (top 36)) (defBody (top 36)) (b__law_odd_v3 cal) := by
  intro f cdv A outer s H E hg hr
  have C := ct_of (P := P) (w := w) (K := K) (mg := mg) (base := base) (k := k + 2) (N := ["_law_tray_here", "_law_some"]) (qual := "_law_odd") (scope := defScope (top 36)) (f := f) (cdv := cdv) (A := A) (outer := outer) (s := s) (H := H) (E := E) hg hr
  have nd := sc__law_odd.nd
  exact (sb_cons (nSet 1 (se_lst (nCons se_non (nCons se_bl (nCons se_bl (nCons se_str (nCons se_str (nCons se_int (nCons (se_un un_pNeg se_int) (nCons (se_op op_pPow se_int se_int) (nCons (se_tup sa_nil) (nCons (se_tup (nCons se_int sa_nil)) (nCons (se_tup (nCons (se_tup (nCons se_int (nCons se_int sa_nil))) sa_nil)) (nCons (se_lst sa_nil) (nCons (se_lst (nCons se_int (nCons se_int sa_nil))) (nCons se_dT (nCons (se_dI pe_int pe_int) (nCons se_str sa_nil))))))))))))))))) nd)
    (sb_one (ss_ret (nIx (nVar 1) (nCal C T.t__law_take F.g__law_take F.k__law_take (nCons (nVar 0) (nCons se_int sa_nil)))))))
theorem sc__law_kin : FnScope ["_law_e", "_law_found", "_law_entry"] ["_law_e"] (defScope (top 34)) := ⟨rfl, rfl, rfl, by decide +kernel, rfl, by decide +kernel, by decide +kernel⟩
theorem fb__law_kin (F : Fc K mg) (T : Tab P w K mg base k cal) : FB P w K mg base (k + 2) ["_law_e", "_law_found", "_law_entry"] "_law_kin" (defScope (top 34)) (defBody (top 34)) (b__law_kin_v2 cal) := by
  intro f cdv A outer s H E hg hr
  have C := ct_of (P := P) (w := w) (K := K) (mg := mg) (base := base) (k := k + 2) (N := ["_law_e", "_law_found", "_law_entry"]) (qual := "_law_kin") (scope := defScope (top 34)) (f := f) (cdv := cdv) (A := A) (outer := outer) (s := s) (H := H) (E := E) hg hr
  have nd := sc__law_kin.nd
  exact (sb_cons (nSet 1 (se_lst (nCons (se_lst (nCons (nXvi C F.kx (nVar 0) (pe_bltn (v := .ty "ValueError") rfl F.b_ValueError (by decide +kernel) rfl) (.ty _) F.b_isinstance) (nCons se_str sa_nil))) (nCons (se_lst (nCons (nXvi C F.kx (nVar 0) (pe_bltn (v := .ty "LookupError") rfl F.b_LookupError (by decide +kernel) rfl) (.ty _) F.b_isinstance) (nCons se_str sa_nil))) sa_nil))) nd)
    (sb_cons (nSet 1 (se_op op_pAdd (nVar 1) (se_lst (nCons (se_lst (nCons (nXvi C F.kx (nVar 0) (pe_bltn (v := .ty "ArithmeticError") rfl F.b_ArithmeticError (by decide +kernel) rfl) (.ty _) F.b_isinstance) (nCons se_str sa_nil))) (nCons (se_lst (nCons (nXvi C F.kx (nVar 0) (pe_glob (v := .ref (He.ga K "BadValue")) rfl F.g_BadValue rfl) (.own _) F.b_isinstance) (nCons se_str sa_nil))) sa_nil)))) nd)
    (sb_cons (nSet 1 (se_op op_pAdd (nVar 1) (se_lst (nCons (se_lst (nCons (nXvi C F.kx (nVar 0) (pe_glob (v := .ref (He.ga K "BadName")) rfl F.g_BadName rfl) (.own _) F.b_isinstance) (nCons se_str sa_nil))) (nCons (se_lst (nCons (nXvi C F.kx (nVar 0) (pe_glob (v := .ref (He.ga K "NoAnswer")) rfl F.g_NoAnswer rfl) (.own _) F.b_isinstance) (nCons se_str sa_nil))) sa_nil)))) nd)
    (sb_cons (nSet 1 (se_op op_pAdd (nVar 1) (se_lst (nCons (se_lst (nCons (nXvi C F.kx (nVar 0) (pe_glob (v := .ref (He.ga K "InvalidText")) rfl F.g_InvalidText rfl) (.own _) F.b_isinstance) (nCons se_str sa_nil))) (nCons (se_lst (nCons (nXvi C F.kx (nVar 0) (pe_glob (v := .ref (He.ga K "InvalidNumber")) rfl F.g_InvalidNumber rfl) (.own _) F.b_isinstance) (nCons se_str sa_nil))) sa_nil)))) nd)
    (sb_cons (nSet 1 (se_op op_pAdd (nVar 1) (se_lst (nCons (se_lst (nCons (nXvi C F.kx (nVar 0) (pe_glob (v := .ref (He.ga K "InvalidLot")) rfl F.g_InvalidLot rfl) (.own _) F.b_isinstance) (nCons se_str sa_nil))) (nCons (se_lst (nCons (nXvi C F.kx (nVar 0) (pe_glob (v := .ref (He.ga K "InvalidPart")) rfl F.g_InvalidPart rfl) (.own _) F.b_isinstance) (nCons se_str sa_nil))) sa_nil)))) nd)
    (sb_cons (nSet 1 (se_op op_pAdd (nVar 1) (se_lst (nCons (se_lst (nCons (nXvi C F.kx (nVar 0) (pe_glob (v := .ref (He.ga K "InvalidRow")) rfl F.g_InvalidRow rfl) (.own _) F.b_isinstance) (nCons se_str sa_nil))) (nCons (se_lst (nCons (nXvi C F.kx (nVar 0) (pe_glob (v := .ref (He.ga K "InvalidName")) rfl F.g_InvalidName rfl) (.own _) F.b_isinstance) (nCons se_str sa_nil))) sa_nil)))) nd)
    (sb_cons (nSet 1 (se_op op_pAdd (nVar 1) (se_lst (nCons (se_lst (nCons (nXvi C F.kx (nVar 0) (pe_glob (v := .ref (He.ga K "InvalidIndex")) rfl F.g_InvalidIndex rfl) (.own _) F.b_isinstance) (nCons se_str sa_nil))) (nCons (se_lst (nCons (nXvi C F.kx (nVar 0) (pe_glob (v := .ref (He.ga K "InvalidClaim")) rfl F.g_InvalidClaim rfl) (.own _) F.b_isinstance) (nCons se_str sa_nil))) sa_nil)))) nd)
    (sb_cons (nSet 1 (se_op op_pAdd (nVar 1) (se_lst (nCons (se_lst (nCons (nXvi C F.kx (nVar 0) (pe_glob (v := .ref (He.ga K "InvalidCommand")) rfl F.g_InvalidCommand rfl) (.own _) F.b_isinstance) (nCons se_str sa_nil))) (nCons (se_lst (nCons (nXvi C F.kx (nVar 0) (pe_glob (v := .ref (He.ga K "NotATable")) rfl F.g_NotATable rfl) (.own _) F.b_isinstance) (nCons se_str sa_nil))) sa_nil)))) nd)
    (sb_cons (nSet 1 (se_op op_pAdd (nVar 1) (se_lst (nCons (se_lst (nCons (nXvi C F.kx (nVar 0) (pe_glob (v := .ref (He.ga K "InvalidPrices")) rfl F.g_InvalidPrices rfl) (.own _) F.b_isinstance) (nCons se_str sa_nil))) (nCons (se_lst (nCons (nXvi C F.kx (nVar 0) (pe_glob (v := .ref (He.ga K "InvalidGains")) rfl F.g_InvalidGains rfl) (.own _) F.b_isinstance) (nCons se_str sa_nil))) sa_nil)))) nd)
    (sb_cons (nSet 1 (se_op op_pAdd (nVar 1) (se_lst (nCons (se_lst (nCons (nXvi C F.kx (nVar 0) (pe_glob (v := .ref (He.ga K "InvalidShares")) rfl F.g_InvalidShares rfl) (.own _) F.b_isinstance) (nCons se_str sa_nil))) sa_nil))) nd)
    (sb_cons (nSet 1 (se_op op_pAdd (nVar 1) (se_lst (nCons (se_lst (nCons (nXvi C F.kx (nVar 0) (pe_glob (v := .ref (He.ga K "InvalidStretches")) rfl F.g_InvalidStretches rfl) (.own _) F.b_isinstance) (nCons se_str sa_nil))) sa_nil))) nd)
    (sb_cons (nSet 1 (se_op op_pAdd (nVar 1) (se_lst (nCons (se_lst (nCons (nXvi C F.kx (nVar 0) (pe_glob (v := .ref (He.ga K "UnknownName")) rfl F.g_UnknownName rfl) (.own _) F.b_isinstance) (nCons se_str sa_nil))) (nCons (se_lst (nCons (nXvi C F.kx (nVar 0) (pe_glob (v := .ref (He.ga K "InUse")) rfl F.g_InUse rfl) (.own _) F.b_isinstance) (nCons se_str sa_nil))) sa_nil)))) nd)
    (sb_cons (nSet 1 (se_op op_pAdd (nVar 1) (se_lst (nCons (se_lst (nCons (nXvi C F.kx (nVar 0) (pe_glob (v := .ref (He.ga K "Empty")) rfl F.g_Empty rfl) (.own _) F.b_isinstance) (nCons se_str sa_nil))) (nCons (se_lst (nCons (nXvi C F.kx (nVar 0) (pe_glob (v := .ref (He.ga K "NotThePrice")) rfl F.g_NotThePrice rfl) (.own _) F.b_isinstance) (nCons se_str sa_nil))) sa_nil)))) nd)
    (sb_cons (nSet 1 (se_op op_pAdd (nVar 1) (se_lst (nCons (se_lst (nCons (nXvi C F.kx (nVar 0) (pe_glob (v := .ref (He.ga K "TooMany")) rfl F.g_TooMany rfl) (.own _) F.b_isinstance) (nCons se_str sa_nil))) (nCons (se_lst (nCons (nXvi C F.kx (nVar 0) (pe_glob (v := .ref (He.ga K "OddRing")) rfl F.g_OddRing rfl) (.own _) F.b_isinstance) (nCons se_str sa_nil))) sa_nil)))) nd)
    (sb_cons (nSet 1 (se_op op_pAdd (nVar 1) (se_lst (nCons (se_lst (nCons (nXvi C F.kx (nVar 0) (pe_glob (v := .ref (He.ga K "NothingToUndo")) rfl F.g_NothingToUndo rfl) (.own _) F.b_isinstance) (nCons se_str sa_nil))) (nCons (se_lst (nCons (nXvi C F.kx (nVar 0) (pe_glob (v := .ref (He.ga K "Broken")) rfl F.g_Broken rfl) (.own _) F.b_isinstance) (nCons se_str sa_nil))) sa_nil)))) nd)
    (sb_one (ss_ret (nMb PySem.F.plainAttrs_str PySem.F.slot_str_join PySem.F.type_str_join mt_pJoin se_str (nCons (nLc [("_law_entry", 2)] C fin_newL nd (si_any (nVar 1)) (blkOk_by (by kernel_rfl)) (fun _ _ _ _ _ => (uName 2 nd)) (fun _ _ _ _ _ => (ptsOne (nTru (nIx (nVar 2) se_int)))) (fun _ _ _ _ _ => (nIx (nVar 2) se_int)) upNm) sa_nil)))))))))))))))))))
theorem sc__law_take : FnScope ["_law_tray_here", "_law_many", "_law_figure"] ["_law_tray_here", "_law_many"] (defScope (top 33)) := ⟨rfl, rfl, rfl, by decide +kernel, rfl, by decide +kernel, by decide +kernel⟩
theorem fb__law_take (F : Fc K mg) (T : Tab P w K mg base k cal) : FB P w K mg base (k + 2) ["_law_tray_here", "_law_many", "_law_figure"] "_law_take" (defScope (top 33)) (defBody (top 33)) (b__law_take cal) := by
  intro f cdv A outer s H E hg hr
  have C := ct_of (P := P) (w := w) (K := K) (mg := mg) (base := base) (k := k + 2) (N := ["_law_tray_here", "_law_many", "_law_figure"]) (qual := "_law_take") (scope := defScope (top 33)) (f := f) (cdv := cdv) (A := A) (outer := outer) (s := s) (H := H) (E := E) hg hr
  have nd := sc__law_take.nd
  exact (sb_cons (ss_if (nCmpT op_pGt (nIx (nVar 0) se_int) se_int) (sb_cons (nAsg (nB cr_pDivmod F.b_divmod bt_divmod (nCons (nIx (nVar 0) se_int) (nCons (nVar 1) sa_nil))) (gTup C (gCons (gSub (fun cls d _ H' => E cls d H') (nVar 0) se_int set_pStore) (gCons (gName 2 nd) sgs_nil))))
    (sb_one (ss_ret (nVar 2)))) sb_nil)
    (sb_cons (nAsg (se_op op_pAdd (nIx (nVar 0) se_int) se_int) (gSub (fun cls d _ H' => E cls d H') (nVar 0) se_int set_pStore))
    (sb_cons (nAsg (se_op op_pMod (nT cr_pInt F.b_int bt_int (nCons (se_op op_pAdd (se_op op_pAdd (se_op op_pMul (nIx (nVar 0) se_int) (se_op op_pAdd (se_op op_pMod (nT cr_pInt F.b_int bt_int (nCons (se_op op_pFdiv (nIx (nVar 0) se_int) se_int) sa_nil)) se_int) se_int)) (se_op op_pMul se_int (nIx (nVar 0) se_int))) se_int) sa_nil)) se_int) (gSub (fun cls d _ H' => E cls d H') (nVar 0) se_int set_pStore))
    (sb_one (ss_ret (se_op op_pMod (nT cr_pInt F.b_int bt_int (nCons (se_op op_pFdiv (nIx (nVar 0) se_int) se_int) sa_nil)) (nVar 1)))))))
theorem tab0 (F : Fc K mg) (TB : ∀ x ∈ lams, LamX.TabB base mg (tabK K x).1 (tabK K x).2) (SY : ∃ o, base.get? sysModules = some o) : Tab P w K mg base 0 (callN 0) where
  trv := trivial
  sys := SY
  t__law_right := CalG.bad
  t__law_tray := CalG.bad
  t__law_tale := CalG.bad
  t__law_by_place := CalG.bad
  t__law_by_name := CalG.bad
  t__law_odd := CalG.bad
  t__law_kin := CalG.bad
  t__law_take := CalG.bad
theorem tabKS {n : Nat} (F : Fc K mg) (TB : ∀ x ∈ lams, LamX.TabB base mg (tabK K x).1 (tabK K x).2) (SY : ∃ o, base.get? sysModules = some o) (T : Tab P w K mg base k (callN n)) : Tab P w K mg base (k + 3) (callN (n + 1)) where
  trv := trivial
  sys := SY
  t__law_right := (by
    obtain ⟨fd, D⟩ := F.d__law_right
    exact CalG.mono (calG_fn (m := funM 6 1 (b__law_right_v65 (callN n))) (fnG_body D sc__law_right (fb__law_right F T)) (bindK_of D (fun _ _ _ _ _ _ us ws h1 h2 => match us, ws, h1, h2 with | [_], [], _, _ => rfl)) rfl funM_len) (by omega))
  t__law_tray := (by
    obtain ⟨fd, D⟩ := F.d__law_tray
    exact CalG.mono (calG_fn (m := funM 5 2 (b__law_tray (callN n))) (fnG_body D sc__law_tray (fb__law_tray F T)) (bindK_of D (fun _ _ _ _ _ _ us ws h1 h2 => match us, ws, h1, h2 with | [_, _], [], _, _ => rfl)) rfl funM_len) (by omega))
  t__law_tale := (by
    obtain ⟨fd, D⟩ := F.d__law_tale
    exact CalG.mono (calG_fn (m := funM 3 1 (b__law_tale_v2 (callN n))) (fnG_body D sc__law_tale (fb__law_tale F T)) (bindK_of D (fun _ _ _ _ _ _ us ws h1 h2 => match us, ws, h1, h2 with | [_], [], _, _ => rfl)) rfl funM_len) (by omega))
  t__law_by_place := (by
    obtain ⟨fd, D⟩ := F.d__law_by_place
    exact CalG.mono (calG_fn (m := funM 2 1 (b__law_by_place (callN n))) (fnG_body D sc__law_by_place (fb__law_by_place F T)) (bindK_of D (fun _ _ _ _ _ _ us ws h1 h2 => match us, ws, h1, h2 with | [_], [], _, _ => rfl)) rfl funM_len) (by omega))
  t__law_by_name := (by
    obtain ⟨fd, D⟩ := F.d__law_by_name
    exact CalG.mono (calG_fn (m := funM 2 1 (b__law_by_name (callN n))) (fnG_body D sc__law_by_name (fb__law_by_name F T)) (bindK_of D (fun _ _ _ _ _ _ us ws h1 h2 => match us, ws, h1, h2 with | [_], [], _, _ => rfl)) rfl funM_len) (by omega))
  t__law_odd := (by
    obtain ⟨fd, D⟩ := F.d__law_odd
    exact CalG.mono (calG_fn (m := funM 2 1 (b__law_odd_v3 (callN n))) (fnG_body D sc__law_odd (fb__law_odd F T)) (bindK_of D (fun _ _ _ _ _ _ us ws h1 h2 => match us, ws, h1, h2 with | [_], [], _, _ => rfl)) rfl funM_len) (by omega))
  t__law_kin := (by
    obtain ⟨fd, D⟩ := F.d__law_kin
    exact CalG.mono (calG_fn (m := funM 3 1 (b__law_kin_v2 (callN n))) (fnG_body D sc__law_kin (fb__law_kin F T)) (bindK_of D (fun _ _ _ _ _ _ us ws h1 h2 => match us, ws, h1, h2 with | [_], [], _, _ => rfl)) rfl funM_len) (by omega))
  t__law_take := (by
    obtain ⟨fd, D⟩ := F.d__law_take
    exact CalG.mono (calG_fn (m := funM 3 2 (b__law_take (callN n))) (fnG_body D sc__law_take (fb__law_take F T)) (bindK_of D (fun _ _ _ _ _ _ us ws h1 h2 => match us, ws, h1, h2 with | [_, _], [], _, _ => rfl)) rfl funM_len) (by omega))
theorem tabN (F : Fc K mg) (TB : ∀ x ∈ lams, LamX.TabB base mg (tabK K x).1 (tabK K x).2) (SY : ∃ o, base.get? sysModules = some o) : ∀ n : Nat, Tab P w K mg base (3 * n) (callN n)
  | 0 => tab0 F TB SY
  | n + 1 => tabKS F TB SY (tabN F TB SY n)
theorem law_b {fd : FuncData} (D : FunD K "law" "law" (defArgs (top 40)) (defBody (top 40)) (defScope (top 40)) [] [] (He.ga K "law") fd) (s : Shared) (u : Value) : BindsTo s fd ⟨[u], []⟩ [("_law_cells", u)] := bindK_of (ks := []) (ps := ["_law_cells"]) D (fun _ _ _ _ _ _ us ws h1 h2 => match us, ws, h1, h2 with | [_], [], _, _ => rfl) s [u] [] rfl rfl
theorem law_f (F : Fc K mg) (TB : ∀ x ∈ lams, LamX.TabB base mg (tabK K x).1 (tabK K x).2) (SY : ∃ o, base.get? sysModules = some o) (n : Nat) {fd : FuncData} (D : FunD K "law" "law" (defArgs (top 40)) (defBody (top 40)) (defScope (top 40)) [] [] (He.ga K "law") fd) : FnG P w K mg base (3 * n + 3) (He.ga K "law") fd ["_law_cells"] (spM K 1 (funM 2 1 (b_law_v66 (callN n)))) := fnG_body D sc_law (fb_law F (tabN F TB SY n))
end
theorem facts {K : PySem.W.Frag} {h : Heap} {mg : Str → Option Value} (X : K.In h) (G : h.Ns mainGlobals mg) (c : He.SaysD fa fn K) (xx : (ex.all fun f => f K) = true) : Fc K mg := by
  have cc := c
  exact {
    b_ArithmeticError := He.free_ok X G (c.fact 0 (f := .free "ArithmeticError") rfl),
    b_LookupError := He.free_ok X G (c.fact 1 (f := .free "LookupError") rfl),
    b_ValueError := He.free_ok X G (c.fact 2 (f := .free "ValueError") rfl),
    b_abs := He.free_ok X G (c.fact 3 (f := .free "abs") rfl),
    b_all := He.free_ok X G (c.fact 4 (f := .free "all") rfl),
    b_divmod := He.free_ok X G (c.fact 5 (f := .free "divmod") rfl),
    b_int := He.free_ok X G (c.fact 6 (f := .free "int") rfl),
    b_isinstance := He.free_ok X G (c.fact 7 (f := .free "isinstance") rfl),
    b_len := He.free_ok X G (c.fact 8 (f := .free "len") rfl),
    b_max := He.free_ok X G (c.fact 9 (f := .free "max") rfl),
    b_min := He.free_ok X G (c.fact 10 (f := .free "min") rfl),
    b_range := He.free_ok X G (c.fact 11 (f := .free "range") rfl),
    b_repr := He.free_ok X G (c.fact 12 (f := .free "repr") rfl),
    c_MOST_COLUMNS := He.int_ok X G (c.fact 13 (f := .int "MOST_COLUMNS" 8) rfl),
    c_MOST_KNOTS := He.int_ok X G (c.fact 14 (f := .int "MOST_KNOTS" 9) rfl),
    c_MOST_PRICE := He.int_ok X G (c.fact 15 (f := .int "MOST_PRICE" 1000000000000000000000000000000) rfl),
    c_MOST_ROWS := He.int_ok X G (c.fact 16 (f := .int "MOST_ROWS" 8) rfl),
    c_MOST_STRIKES := He.int_ok X G (c.fact 17 (f := .int "MOST_STRIKES" 3) rfl),
    g_BadName := He.glo_ok X G (c.fact 18 (f := .glo "BadName") rfl),
    g_BadValue := He.glo_ok X G (c.fact 19 (f := .glo "BadValue") rfl),
    g_Broken := He.glo_ok X G (c.fact 20 (f := .glo "Broken") rfl),
    g_Empty := He.glo_ok X G (c.fact 21 (f := .glo "Empty") rfl),
    g_InUse := He.glo_ok X G (c.fact 22 (f := .glo "InUse") rfl),
    g_InvalidClaim := He.glo_ok X G (c.fact 23 (f := .glo "InvalidClaim") rfl),
    g_InvalidCommand := He.glo_ok X G (c.fact 24 (f := .glo "InvalidCommand") rfl),
    g_InvalidGains := He.glo_ok X G (c.fact 25 (f := .glo "InvalidGains") rfl),
    g_InvalidIndex := He.glo_ok X G (c.fact 26 (f := .glo "InvalidIndex") rfl),
    g_InvalidLot := He.glo_ok X G (c.fact 27 (f := .glo "InvalidLot") rfl),
    g_InvalidName := He.glo_ok X G (c.fact 28 (f := .glo "InvalidName") rfl),
    g_InvalidNumber := He.glo_ok X G (c.fact 29 (f := .glo "InvalidNumber") rfl),
    g_InvalidPart := He.glo_ok X G (c.fact 30 (f := .glo "InvalidPart") rfl),
    g_InvalidPrices := He.glo_ok X G (c.fact 31 (f := .glo "InvalidPrices") rfl),
    g_InvalidRow := He.glo_ok X G (c.fact 32 (f := .glo "InvalidRow") rfl),
    g_InvalidShares := He.glo_ok X G (c.fact 33 (f := .glo "InvalidShares") rfl),
    g_InvalidStretches := He.glo_ok X G (c.fact 34 (f := .glo "InvalidStretches") rfl),
    g_InvalidText := He.glo_ok X G (c.fact 35 (f := .glo "InvalidText") rfl),
    g_NoAnswer := He.glo_ok X G (c.fact 36 (f := .glo "NoAnswer") rfl),
    g_NotATable := He.glo_ok X G (c.fact 37 (f := .glo "NotATable") rfl),
    g_NotThePrice := He.glo_ok X G (c.fact 38 (f := .glo "NotThePrice") rfl),
    g_NothingToUndo := He.glo_ok X G (c.fact 39 (f := .glo "NothingToUndo") rfl),
    g_OddRing := He.glo_ok X G (c.fact 40 (f := .glo "OddRing") rfl),
    g_TooMany := He.glo_ok X G (c.fact 41 (f := .glo "TooMany") rfl),
    g_UnknownName := He.glo_ok X G (c.fact 42 (f := .glo "UnknownName") rfl),
    x_InvalidText := oexB_ok (ex_at xx 0 (f := oexB "InvalidText" "ValueError.__new__" [.type "ValueError", .type "Exception", .type "BaseException", .type "object"] ["given"])),
    x_InvalidNumber := oexB_ok (ex_at xx 1 (f := oexB "InvalidNumber" "ValueError.__new__" [.type "ValueError", .type "Exception", .type "BaseException", .type "object"] ["given"])),
    x_InvalidLot := oexB_ok (ex_at xx 2 (f := oexB "InvalidLot" "ValueError.__new__" [.type "ValueError", .type "Exception", .type "BaseException", .type "object"] ["given"])),
    x_InvalidPart := oexB_ok (ex_at xx 3 (f := oexB "InvalidPart" "ValueError.__new__" [.type "ValueError", .type "Exception", .type "BaseException", .type "object"] ["given"])),
    x_InvalidRow := oexB_ok (ex_at xx 4 (f := oexB "InvalidRow" "ValueError.__new__" [.type "ValueError", .type "Exception", .type "BaseException", .type "object"] ["given"])),
    x_InvalidName := oexB_ok (ex_at xx 5 (f := oexB "InvalidName" "ValueError.__new__" [.type "ValueError", .type "Exception", .type "BaseException", .type "object"] ["given"])),
    x_InvalidIndex := oexB_ok (ex_at xx 6 (f := oexB "InvalidIndex" "ValueError.__new__" [.type "ValueError", .type "Exception", .type "BaseException", .type "object"] ["given"])),
    x_InvalidClaim := oexB_ok (ex_at xx 7 (f := oexB "InvalidClaim" "ValueError.__new__" [.type "ValueError", .type "Exception", .type "BaseException", .type "object"] ["given"])),
    x_InvalidCommand := oexB_ok (ex_at xx 8 (f := oexB "InvalidCommand" "ValueError.__new__" [.type "ValueError", .type "Exception", .type "BaseException", .type "object"] ["given"])),
    x_NotATable := oexB_ok (ex_at xx 9 (f := oexB "NotATable" "ValueError.__new__" [.type "ValueError", .type "Exception", .type "BaseException", .type "object"] ["given"])),
    x_InvalidPrices := oexB_ok (ex_at xx 10 (f := oexB "InvalidPrices" "ValueError.__new__" [.type "ValueError", .type "Exception", .type "BaseException", .type "object"] ["index"])),
    x_InvalidGains := oexB_ok (ex_at xx 11 (f := oexB "InvalidGains" "ValueError.__new__" [.type "ValueError", .type "Exception", .type "BaseException", .type "object"] ["index"])),
    x_InvalidShares := oexB_ok (ex_at xx 12 (f := oexB "InvalidShares" "ValueError.__new__" [.type "ValueError", .type "Exception", .type "BaseException", .type "object"] ["index"])),
    x_InvalidStretches := oexB_ok (ex_at xx 13 (f := oexB "InvalidStretches" "ValueError.__new__" [.type "ValueError", .type "Exception", .type "BaseException", .type "object"] ["index"])),
    x_UnknownName := oexB_ok (ex_at xx 14 (f := oexB "UnknownName" "LookupError.__new__" [.type "LookupError", .type "Exception", .type "BaseException", .type "object"] ["given"])),
    x_InUse := oexB_ok (ex_at xx 15 (f := oexB "InUse" "LookupError.__new__" [.type "LookupError", .type "Exception", .type "BaseException", .type "object"] ["index"])),
    xo_Empty := ownXB_ok (ex_at xx 16 (f := ownXB "Empty" [.type "ArithmeticError", .type "Exception", .type "BaseException", .type "object"] "ArithmeticError.__new__")),
    xo_NotThePrice := ownXB_ok (ex_at xx 17 (f := ownXB "NotThePrice" [.type "ArithmeticError", .type "Exception", .type "BaseException", .type "object"] "ArithmeticError.__new__")),
    x_TooMany := oexB_ok (ex_at xx 18 (f := oexB "TooMany" "ArithmeticError.__new__" [.type "ArithmeticError", .type "Exception", .type "BaseException", .type "object"] ["limit"])),
    x_OddRing := oexB_ok (ex_at xx 19 (f := oexB "OddRing" "ArithmeticError.__new__" [.type "ArithmeticError", .type "Exception", .type "BaseException", .type "object"] ["ring"])),
    xo_NothingToUndo := ownXB_ok (ex_at xx 20 (f := ownXB "NothingToUndo" [.type "ArithmeticError", .type "Exception", .type "BaseException", .type "object"] "ArithmeticError.__new__")),
    x_Broken := oexB_ok (ex_at xx 21 (f := oexB "Broken" "ArithmeticError.__new__" [.type "ArithmeticError", .type "Exception", .type "BaseException", .type "object"] ["index", "shown"])),
    kx := kxB_ok (ex_at xx 22 (f := kxB xt_v17.kit)),
    fl := flB_ok (ex_at xx 23 (f := flB xt_v17.fl)),
    ex := exB_ok (ex_at xx 24 (f := exB xt_v17.ex)),
    g_law := He.glo_ok X G (c.fact 43 (f := .glo "law") rfl),
    k_law := He.keep_ok (c.fact 44 (f := .keep "law") rfl),
    g__law_right := He.glo_ok X G (c.fact 45 (f := .glo "_law_right") rfl),
    k__law_right := He.keep_ok (c.fact 46 (f := .keep "_law_right") rfl),
    g__law_tray := He.glo_ok X G (c.fact 47 (f := .glo "_law_tray") rfl),
    k__law_tray := He.keep_ok (c.fact 48 (f := .keep "_law_tray") rfl),
    g__law_tale := He.glo_ok X G (c.fact 49 (f := .glo "_law_tale") rfl),
    k__law_tale := He.keep_ok (c.fact 50 (f := .keep "_law_tale") rfl),
    g__law_by_place := He.glo_ok X G (c.fact 51 (f := .glo "_law_by_place") rfl),
    k__law_by_place := He.keep_ok (c.fact 52 (f := .keep "_law_by_place") rfl),
    g__law_by_name := He.glo_ok X G (c.fact 53 (f := .glo "_law_by_name") rfl),
    k__law_by_name := He.keep_ok (c.fact 54 (f := .keep "_law_by_name") rfl),
    g__law_odd := He.glo_ok X G (c.fact 55 (f := .glo "_law_odd") rfl),
    k__law_odd := He.keep_ok (c.fact 56 (f := .keep "_law_odd") rfl),
    g__law_kin := He.glo_ok X G (c.fact 57 (f := .glo "_law_kin") rfl),
    k__law_kin := He.keep_ok (c.fact 58 (f := .keep "_law_kin") rfl),
    g__law_take := He.glo_ok X G (c.fact 59 (f := .glo "_law_take") rfl),
    k__law_take := He.keep_ok (c.fact 60 (f := .keep "_law_take") rfl),
    isi := isi_ok (cs := []) (ex_at xx 25) (ex_at xx 26) (by decide +kernel),
    d_law := c.def_ 0 (d := dd_law) rfl,
    d__law_right := c.def_ 1 (d := dd__law_right) rfl,
    d__law_tray := c.def_ 2 (d := dd__law_tray) rfl,
    d__law_tale := c.def_ 3 (d := dd__law_tale) rfl,
    d__law_by_place := c.def_ 4 (d := dd__law_by_place) rfl,
    d__law_by_name := c.def_ 5 (d := dd__law_by_name) rfl,
    d__law_odd := c.def_ 6 (d := dd__law_odd) rfl,
    d__law_kin := c.def_ 7 (d := dd__law_kin) rfl,
    d__law_take := c.def_ 8 (d := dd__law_take) rfl,
    d_InvalidText___init__ := c.def_ 9 (d := dd_InvalidText___init__) rfl,
    d_InvalidNumber___init__ := c.def_ 10 (d := dd_InvalidNumber___init__) rfl,
    d_InvalidLot___init__ := c.def_ 11 (d := dd_InvalidLot___init__) rfl,
    d_InvalidPart___init__ := c.def_ 12 (d := dd_InvalidPart___init__) rfl,
    d_InvalidRow___init__ := c.def_ 13 (d := dd_InvalidRow___init__) rfl,
    d_InvalidName___init__ := c.def_ 14 (d := dd_InvalidName___init__) rfl,
    d_InvalidIndex___init__ := c.def_ 15 (d := dd_InvalidIndex___init__) rfl,
    d_InvalidClaim___init__ := c.def_ 16 (d := dd_InvalidClaim___init__) rfl,
    d_InvalidCommand___init__ := c.def_ 17 (d := dd_InvalidCommand___init__) rfl,
    d_NotATable___init__ := c.def_ 18 (d := dd_NotATable___init__) rfl,
    d_InvalidPrices___init__ := c.def_ 19 (d := dd_InvalidPrices___init__) rfl,
    d_InvalidGains___init__ := c.def_ 20 (d := dd_InvalidGains___init__) rfl,
    d_InvalidShares___init__ := c.def_ 21 (d := dd_InvalidShares___init__) rfl,
    d_InvalidStretches___init__ := c.def_ 22 (d := dd_InvalidStretches___init__) rfl,
    d_UnknownName___init__ := c.def_ 23 (d := dd_UnknownName___init__) rfl,
    d_InUse___init__ := c.def_ 24 (d := dd_InUse___init__) rfl,
    d_TooMany___init__ := c.def_ 25 (d := dd_TooMany___init__) rfl,
    d_OddRing___init__ := c.def_ 26 (d := dd_OddRing___init__) rfl,
    d_Broken___init__ := c.def_ 27 (d := dd_Broken___init__) rfl }
theorem holds (n : Nat) (hn : n ≤ 60) (h : ∀ ns : List Int, ns.length ≤ 63 → (∀ i ∈ ns, Builtin.Int.intBits i ≤ 1048576) → ∃ S, funM 2 1 (b_law_v66 (callN n)) [.scr ns] (store0 lams) = .ok (.bl true) S) : PySem.Challenge.rw_oddrings_k01_limits_and_errors.Holds := by
  w_on; o_law
  refine HandSHeadRun.head_any (r := PySem.W.OpenLaw.row PySem.Challenge.rw_oddrings_k01_limits_and_errors) (q := PySem.W.view (PySem.W.OpenLaw.row PySem.Challenge.rw_oddrings_k01_limits_and_errors).prog [40]) (H := hk) (ob := ob) (M := 40000) (loose := names) (d := HandSHeadRun.topDef (PySem.W.OpenLaw.row PySem.Challenge.rw_oddrings_k01_limits_and_errors).prog 40) (kwd := []) ob_eq
    (by kernel_rfl) (fun s => by kernel_rfl) run (by kernel_rfl) (by kernel_rfl) (by kernel_rfl) (by rfl) (by first | assumption | decide +kernel) (by decide +kernel) ⟨rfl, rfl, rfl, rfl, rfl, by decide +kernel⟩ ?hw ?hc
  case hw => w_witness2
  case hc =>
    refine walk_evT (lams := lams) (l := PySem.Challenge.rw_oddrings_k01_limits_and_errors) (n := 63) (k := 3 * n + 3) (x := "_law_cells") rfl (by decide) (by kernel_rfl) ⟨rfl, ?_, ?_⟩ ?F h
    · show 1 + claimMargin + 3 * (3 * n + 3) + 5 < recursionLimit
      have e : 1 + claimMargin + 3 * (3 * 60 + 3) + 5 < recursionLimit := by decide
      omega
    · show 4 + 16 * (3 * n + 3) + 200 < cLine
      have e : 4 + 16 * (3 * 60 + 3) + 200 < cLine := by decide
      omega
    intro w mg fa h Y G hmg0
    obtain ⟨K, ⟨KX, c, xx, tb, te, sy⟩, _, _⟩ := Y
    have hmg : mg ("law" : PySem.Str) = some (.ref fa) := by
      have e : (HandSHeadRun.topDef (PySem.W.OpenLaw.row PySem.Challenge.rw_oddrings_k01_limits_and_errors).prog 40).name = ("law" : PySem.Str) := by kernel_rfl
      rw [← e]
      exact hmg0
    have F := facts KX G c xx
    have e := hmg.symm.trans F.g_law
    cases e
    obtain ⟨fd, D⟩ := F.d_law
    exact ⟨K, fd, KX, tb, te, sy, law_b D, fun base _ _ TB SY => law_f F TB SY n D⟩
end Lw
namespace Sp
open PySem L2 Ev
abbrev Rw := List (List Int)
def iD (r : List Int) : List D := r.map D.int
abbrev tI (r : List Int) : D := .tup (iD r)
abbrev lI (r : List Int) : D := .lst (iD r)
abbrev rowsL (R : Rw) : D := .lst (R.map lI)
abbrev rowsT (R : Rw) : D := .tup (R.map tI)
abbrev lotsL (R : Rw) : D := .lst (R.map tI)
theorem small {n : Nat} (h : n ≤ 1000000) : n ≤ sizeLine := Nat.le_trans h (by decide)
theorem iD_len {r : List Int} : (iD r).length = r.length := by simp [iD]
theorem ints_iD : ∀ r : List Int, intsOf (iD r) = some r
  | [] => rfl
  | i :: r => by
    have := ints_iD r
    simp only [iD, List.map_cons] at this ⊢
    simp [intsOf, this]
theorem bls_of : ∀ l : List Bool, blsOf (l.map D.bl) = some l
  | [] => rfl
  | x :: l => by simp [blsOf, bls_of l]
section
variable {S S1 S2 : Store} {i j : Int} {ns : List Int} {R : Rw} {xs ys : List D} {δ : En}
theorem all_ok {l : List Bool} : pAll true [.lst (l.map D.bl)] S = some (.bl (l.all id), S) := by simp [pAll, lstOf, bls_of]
theorem any_ok {l : List Bool} : pAll false [.lst (l.map D.bl)] S = some (.bl (l.any id), S) := by simp [pAll, lstOf, bls_of]
theorem sum_lI : pSum [lI ns] S = some (.int ns.sum, S) := by simp [pSum, lstOf, ints_iD]
theorem len_lI : pLen [lI ns] S = some (.int ns.length, S) := by rw [pLen_lst, iD_len]
theorem len_tI : pLen [tI ns] S = some (.int ns.length, S) := by rw [pLen_tup, iD_len]
theorem len_rL : pLen [rowsL R] S = some (.int R.length, S) := by rw [pLen_lst, List.length_map]
theorem len_rT : pLen [rowsT R] S = some (.int R.length, S) := by rw [pLen_tup, List.length_map]
theorem len_lo : pLen [lotsL R] S = some (.int R.length, S) := by rw [pLen_lst, List.length_map]
theorem eVarR {k : Nat} {d : D} (h : δ[k]? = some (some d)) (hd : d ≠ .slf) : eVar k δ S = .ok d S := by
  unfold eVar
  rw [h]
  cases d <;> first | rfl | exact absurd rfl hd
theorem add_ll (h : xs.length + ys.length ≤ sizeLine) : pAdd (.lst xs) (.lst ys) S = some (.lst (xs ++ ys), S) := by
  have : (xs ++ ys).length ≤ sizeLine := by simpa using h
  simp only [pAdd, plstOf]
  exact newL_ev this
variable {α β : Type} {me : ME} {mt : MT} {δ0 : En} {k : Nat}
theorem lc_filE (enc : α → D) (enc' : β → D) (q : α → Bool) (g : α → β) {zs : List α} (hl : zs.length ≤ sizeLine) (h1 : ∀ x ∈ zs, mt (δ0.set k (some (enc x))) S = .ok (q x) S) (h : ∀ x ∈ zs, q x = true → me (δ0.set k (some (enc x))) S = .ok (enc' (g x)) S) :
    loopC (uNm k) mt me δ0 (zs.map enc) [] S = .ok (((zs.filter q).map g).map enc') S := by
  have key : ∀ (zs : List α) (acc : List D), acc.length + zs.length ≤ sizeLine → (∀ x ∈ zs, mt (δ0.set k (some (enc x))) S = .ok (q x) S) → (∀ x ∈ zs, q x = true → me (δ0.set k (some (enc x))) S = .ok (enc' (g x)) S) → loopC (uNm k) mt me δ0 (zs.map enc) acc S = .ok (acc ++ ((zs.filter q).map g).map enc') S := by
    intro zs
    induction zs with
    | nil => intro acc _ _ _; simp [loopC, M.pure]
    | cons x zs ih =>
      intro acc hl h1 h
      have e1 := h1 x (List.mem_cons_self ..)
      simp only [List.length_cons] at hl
      have ih2 := fun acc hl => ih acc hl (fun y hy => h1 y (List.mem_cons_of_mem _ hy)) fun y hy => h y (List.mem_cons_of_mem _ hy)
      cases hq : q x with
      | false =>
        rw [hq] at e1
        simp only [List.map_cons, loopC, uNm, setsD, M.bind, noX, e1, cond_false, List.filter_cons, hq, Bool.false_eq_true, if_false]
        exact ih2 acc (by omega)
      | true =>
        rw [hq] at e1
        have e2 := h x (List.mem_cons_self ..) hq
        simp only [List.map_cons, loopC, uNm, setsD, M.bind, noX, e1, e2, cond_true, List.filter_cons, hq, if_true]
        rw [if_pos (by omega), ih2 (acc ++ [enc' (g x)]) (by simp; omega)]
        simp
  have := key zs [] (by simpa using hl) h1 h
  simpa using this
end
end Sp
namespace Sp
open PySem L2 Ev Bd
def dig (i : Int) : Str := toString i
def ln (r : List Int) : Str := Txt.join "" (r.map dig)
theorem strs_of : ∀ l : List Str, strsOf (l.map D.str) = some l
  | [] => rfl
  | x :: l => by simp [strsOf, strs_of l]
theorem join_ok {a : Str} {ys : List Str} {S : Store} (h : (ys.map (·.length)).sum + ys.length * a.length ≤ 16777216) : pJoin (.str a) [.lst (ys.map D.str)] S = some (.str (Txt.join a ys), S) := by
  simp only [pJoin, seqOf, lstOf, Option.bind_some, strs_of, h, if_true]
theorem sum_le {l : List Nat} {b : Nat} (h : ∀ x ∈ l, x ≤ b) : l.sum ≤ l.length * b := by
  induction l with
  | nil => simp
  | cons x l ih =>
    have h1 := h x (List.mem_cons_self ..)
    have h2 := ih fun y hy => h y (List.mem_cons_of_mem _ hy)
    simp only [List.sum_cons, List.length_cons, Nat.succ_mul]
    omega
end Sp
namespace Sp
open PySem L2 Ev Bd
theorem set_get {S : Store} {t : Nat} {c c' : Cell} (h : S[t]? = some (some c)) : (S.set t (some c'))[t]? = some (some c') := by
  rw [List.getElem?_set_self (List.getElem?_eq_some_iff.mp h).1]
end Sp
namespace Sp
open PySem L2 Ev Bd
def rng (n : Nat) : List Int := (List.range n).map fun (i : Nat) => (i : Int)
end Sp
namespace Sp
open PySem L2 Ev Bd
def turn (R : Rw) (w : Nat) : Rw := (rng w).map fun k => R.map fun r => r.getD k.toNat 0
end Sp
namespace Sp
open PySem L2 Ev
def nxt (l : List Int) : Int := 1 + maxL (-1 :: l)
def lim (K : Nat) (l : List Int) : Nat := if nxt l + 1 < K then (nxt l + 1).toNat else K
end Sp
namespace Sp
open PySem PySem.W L2 Ev Bd
section
variable {S S1 S2 : Store} {δ : En} {ma mb mc : ME} {i j x y z : Int} {ns : List Int}
theorem pNe_ii : pNe (.int i) (.int j) S = some (.bl (!(i == j)), S) := by
  simp [pNe, eqD, toPS, PyData.depth, PyData.eqv]
end
end Sp
namespace Rg
open Sp
abbrev at_ (p : List Int) (i : Nat) : Int := p.getD i 0
variable {adj : Int → Int → Bool}
end Rg
namespace Sp
open PySem PySem.W L2 Ev Bd
theorem loop_nx {mg : TGM} {mb : MS} {d : D} {ds : List D} {δ δ1 δ2 : En} {S S1 S2 : Store} (h1 : mg d δ S = some (δ1, S1)) (h2 : mb δ1 S1 = .nx δ2 S2) : loopF mg mb (d :: ds) δ S = loopF mg mb ds δ2 S2 := by simp only [loopF, h1, h2]
theorem loop_rt {mg : TGM} {mb : MS} {d d' : D} {ds : List D} {δ δ1 : En} {S S1 S2 : Store} (h1 : mg d δ S = some (δ1, S1)) (h2 : mb δ1 S1 = .rt d' S2) : loopF mg mb (d :: ds) δ S = .rt d' S2 := by simp only [loopF, h1, h2]
end Sp
namespace Rg
open PySem PySem.W PyProof.Rows L2 Ev Bd Sp
abbrev Pq := List Int × List Int
end Rg
namespace Rg
open PySem PySem.W PyProof.Rows L2 Ev Bd Sp
def Keep (S S' : Store) : Prop := S.length ≤ S'.length ∧ ∀ j, j < S.length → S'[j]? = S[j]?
end Rg
namespace Wp
open PySem L2 Ev Sp
structure WE {α : Type} (m : M α) (S : Store) (Q : α → Store → Prop) : Prop where
  ex : ∃ a S', m S = .ok a S' ∧ Q a S'
structure Post where
  nx : En → Store → Prop
  rt : D → Store → Prop
  ct : En → Store → Prop
  bk : En → Store → Prop
  ex : Xc → En → Store → Prop
def wsP (r : Fl) (P : Post) : Prop := match r with
  | .nx δ S => P.nx δ S
  | .rt d S => P.rt d S
  | .ct δ S => P.ct δ S
  | .bk δ S => P.bk δ S
  | .exc x δ S => P.ex x δ S
  | .bad => False
structure WS (r : Fl) (P : Post) : Prop where
  ex : wsP r P
def Br (c : Bool) (A B : Prop) : Prop := (c = true → A) ∧ (c = false → B)
theorem br_t {A B : Prop} (h : A) : Br true A B := ⟨fun _ => h, (fun e => by cases e)⟩
theorem br_f {A B : Prop} (h : B) : Br false A B := ⟨(fun e => by cases e), fun _ => h⟩
section
variable {α β : Type} {S S1 S2 : Store} {δ : En} {Q : D → Store → Prop} {QA : List D → Store → Prop} {QT : Bool → Store → Prop} {ma mb mc mo : ME} {mas mbs : MA} {ta tb : MT}
theorem we_bind {m : M α} {f : α → M β} {QB : β → Store → Prop} (h : WE m S fun a S1 => WE (f a) S1 QB) : WE (M.bind m f) S QB := by
  obtain ⟨a, S1, e1, b, S2, e2, q⟩ := h
  exact ⟨b, S2, by simp only [M.bind, e1, e2], q⟩
theorem we_ok {m : M α} {QB : α → Store → Prop} {a : α} (e : m S = .ok a S1) (q : QB a S1) : WE m S QB := ⟨a, S1, e, q⟩
theorem we_imp {m : M α} {QA QB : α → Store → Prop} (h : WE m S QA) (i : ∀ a S1, QA a S1 → QB a S1) : WE m S QB := by
  obtain ⟨a, S1, e1, q⟩ := h
  exact ⟨a, S1, e1, i _ _ q⟩
theorem we_pure {a : α} {QB : α → Store → Prop} (q : QB a S) : WE (M.pure a) S QB := ⟨a, S, rfl, q⟩
theorem we_lft {p : PO} {z : D} (e : p S = some (z, S1)) (q : Q z S1) : WE (lft p) S Q := ⟨z, S1, by simp only [lft, e], q⟩
theorem we_var {k : Nat} {d : D} (h : δ[k]? = some (some d)) (hd : d ≠ .slf) (q : Q d S) : WE (eVar k δ) S Q := ⟨d, S, eVarR h hd, q⟩
theorem we_isv {k : Nat} (h : WE (eVar k δ) S Q) : WE (eVar k δ) S Q := h
theorem we_c {d : D} (q : Q d S) : WE (eC d δ) S Q := ⟨d, S, rfl, q⟩
theorem we_op {f : D → D → PO} (h : WE (ma δ) S fun x S1 => WE (mb δ) S1 fun y S2 => WE (lft (f x y)) S2 Q) : WE (eOp f ma mb δ) S Q := we_bind (we_imp h fun _ _ h => we_bind h)
theorem we_un {f : D → PO} (h : WE (ma δ) S fun x S1 => WE (lft (f x)) S1 Q) : WE (eUn f ma δ) S Q := we_bind h
theorem we_callV {f : List D → PO} (h : WE (mas δ) S fun xs S1 => WE (lft (f xs)) S1 Q) : WE (eCallV f mas δ) S Q := we_bind h
theorem we_tup (h : WE (mas δ) S fun xs S1 => xs.length ≤ sizeLine ∧ Q (.tup xs) S1) : WE (eTup mas δ) S Q := we_bind (we_imp h fun xs S1 ⟨hl, q⟩ => we_lft (newT_ev hl) q)
theorem we_lst (h : WE (mas δ) S fun xs S1 => xs.length ≤ sizeLine ∧ Q (.lst xs) S1) : WE (eLst mas δ) S Q := we_bind (we_imp h fun xs S1 ⟨hl, q⟩ => we_lft (newL_ev hl) q)
theorem we_lstC (h : WE (mas δ) S fun xs S1 => xs.length ≤ sizeLine ∧ Q (.ref S1.length) (S1 ++ [some (.lst xs)])) : WE (eLstC mas δ) S Q := we_bind (we_imp h fun xs S1 ⟨hl, q⟩ => we_lft (newC_ev hl) q)
theorem we_nil (q : QA [] S) : WE (aNil δ) S QA := we_pure q
theorem we_cons (h : WE (ma δ) S fun x S1 => WE (mas δ) S1 fun xs S2 => QA (x :: xs) S2) : WE (aCons ma mas δ) S QA := we_bind (we_imp h fun _ _ h => we_bind (we_imp h fun _ _ h => we_pure h))
theorem we_star (h : WE (ma δ) S fun x S1 => ∃ xs, seqOf S1 x = some xs ∧ WE (mas δ) S1 fun ys S2 => QA (xs ++ ys) S2) : WE (aStar ma mas δ) S QA := we_bind (we_imp h fun x S1 ⟨xs, e, ys, S2, e2, q⟩ => ⟨xs ++ ys, S2, by simp only [e, M.bind, e2, M.pure], q⟩)
theorem we_cal {m : List D → M D} (h : WE (mas δ) S fun xs S1 => WE (m xs) S1 Q) : WE (eCal m mas δ) S Q := we_bind h
theorem we_asB {m : M D} (h : WE m S fun x S1 => ∃ b, x = .bl b ∧ QT b S1) : WE (asB m) S QT := we_bind (we_imp h fun x S1 ⟨b, e, q⟩ => by subst e; exact we_pure q)
theorem we_tru {m : M D} (h : WE m S fun x S1 => ∃ b, truD S1 x = some b ∧ QT b S1) : WE (tru m) S QT := we_bind (we_imp h fun x S1 ⟨b, e, q⟩ => ⟨b, S1, by simp only [e], q⟩)
theorem we_and (h : WE (ma δ) S fun x S1 => ∃ b, truD S1 x = some b ∧ Br b (WE (mb δ) S1 Q) (Q x S1)) : WE (eAnd ma mb δ) S Q := we_bind (we_imp h fun x S1 ⟨b, e, q⟩ => by
  cases b with
  | true =>
    obtain ⟨y, S2, e2, q⟩ := q.1 rfl
    exact ⟨y, S2, by simp only [e, e2], q⟩
  | false => exact ⟨x, S1, by simp only [e], q.2 rfl⟩)
theorem we_or (h : WE (ma δ) S fun x S1 => ∃ b, truD S1 x = some b ∧ Br b (Q x S1) (WE (mb δ) S1 Q)) : WE (eOr ma mb δ) S Q := we_bind (we_imp h fun x S1 ⟨b, e, q⟩ => by
  cases b with
  | false =>
    obtain ⟨y, S2, e2, q⟩ := q.2 rfl
    exact ⟨y, S2, by simp only [e, e2], q⟩
  | true => exact ⟨x, S1, by simp only [e], q.1 rfl⟩)
theorem we_not (h : WE (ma δ) S fun x S1 => ∃ b, truD S1 x = some b ∧ Q (.bl (!b)) S1) : WE (eNot ma δ) S Q := we_bind (we_tru (we_imp h fun x S1 ⟨b, e, q⟩ => ⟨b, e, we_pure q⟩))
theorem we_if (h : WE (ta δ) S fun c S1 => Br c (WE (ma δ) S1 Q) (WE (mb δ) S1 Q)) : WE (eIf ta ma mb δ) S Q := we_bind (we_imp h fun c S1 q => by
  cases c
  · exact q.2 rfl
  · exact q.1 rfl)
theorem wt_and (h : WE (ta δ) S fun c S1 => Br c (WE (tb δ) S1 QT) (QT false S1)) : WE (tAndM ta tb δ) S QT := we_bind (we_imp h fun c S1 q => by
  cases c
  · exact we_pure (q.2 rfl)
  · exact q.1 rfl)
theorem wt_or (h : WE (ta δ) S fun c S1 => Br c (QT true S1) (WE (tb δ) S1 QT)) : WE (tOrM ta tb δ) S QT := we_bind (we_imp h fun c S1 q => by
  cases c
  · exact q.2 rfl
  · exact we_pure (q.1 rfl))
theorem wt_not (h : WE (ta δ) S fun c S1 => QT (!c) S1) : WE (tNotM ta δ) S QT := we_bind (we_imp h fun c S1 q => we_pure q)
theorem wt_yes (q : QT true S) : WE (tYesM δ) S QT := we_pure q
theorem we_chain {f f' : D → D → PO} (h : WE (ma δ) S fun x S1 => WE (mb δ) S1 fun y S2 => WE (lft (f x y)) S2 fun z S3 => ∃ b, z = .bl b ∧ Br b (WE (mc δ) S3 fun w S4 => WE (lft (f' y w)) S4 Q) (Q (.bl false) S3)) : WE (eChain f f' ma mb mc δ) S Q :=
  we_bind (we_imp h fun x S1 h => we_bind (we_imp h fun y S2 h => we_bind (we_imp h fun z S3 ⟨b, e, q⟩ => by
    subst e
    cases b
    · exact we_pure (q.2 rfl)
    · exact we_bind (q.1 rfl))))
theorem we_fld {okf : Str → Bool} {fl : Str} (h : WE (mo δ) S fun x S1 => ∃ c fs d, clsOf S1 x = some (c, fs) ∧ okf c = true ∧ fs.lookup fl = some d ∧ Q d S1) : WE (eFld okf fl mo δ) S Q := by
  obtain ⟨x, S1, e, c, fs, d, h1, h2, h3, q⟩ := h
  exact ⟨d, S1, eFld_ok e h1 h2 h3, q⟩
theorem we_isi {isi : Ty → Ty → Option Bool} {c : Ty} (h : WE (mo δ) S fun x S1 => ∃ t b, tyOf S1 x = some t ∧ isi t c = some b ∧ Q (.bl b) S1) : WE (eIsi isi c mo δ) S Q := by
  obtain ⟨x, S1, e, t, b, h1, h2, q⟩ := h
  exact ⟨_, S1, eIsi_ok e h1 h2, q⟩
theorem we_mb {T : String} {f : D → List D → PO} (h : WE (mo δ) S fun x S1 => tyD T S1 x = true ∧ WE (mas δ) S1 fun xs S2 => WE (lft (f x xs)) S2 Q) : WE (eMB T f mo mas δ) S Q := by
  obtain ⟨x, S1, e, h1, xs, S2, e2, z, S3, e3, q⟩ := h
  exact ⟨z, S3, by simp only [eMB, M.bind, e, h1, if_true, e2, e3], q⟩
theorem we_frz (h : WE (ma δ) S fun x S1 => WE (lft (frzD 4 x)) S1 Q) : WE (eFrz ma δ) S Q := we_bind h
theorem we_cut {ml mh : Option ME} (h : WE (mo δ) S fun x S1 => WE (oPart ml δ) S1 fun lo S2 => WE (oPart mh δ) S2 fun hi S3 => WE (lft (pCut x lo hi)) S3 Q) : WE (eCut mo ml mh δ) S Q := we_bind (we_imp h fun _ _ h => we_bind (we_imp h fun _ _ h => we_bind h))
theorem we_oN {QO : Option Int → Store → Prop} (q : QO none S) : WE (oPart none δ) S QO := we_pure q
theorem we_oS {QO : Option Int → Store → Prop} (h : WE (ma δ) S fun x S1 => ∃ i, x = .int i ∧ QO (some i) S1) : WE (oPart (some ma) δ) S QO := we_bind (we_imp h fun x S1 ⟨i, e, q⟩ => by subst e; exact we_pure q)
theorem we_any (h : WE (ma δ) S fun x S1 => ∃ ds, anyOf x = some ds ∧ QA ds S1) : WE (iAny ma δ) S QA := we_bind (we_imp h fun x S1 ⟨ds, e, q⟩ => ⟨ds, S1, by simp only [e], q⟩)
theorem we_R1 (h : WE (mas δ) S fun xs S1 => ∃ k : Nat, xs = [.int k] ∧ k < 4611686018427387904 ∧ QA (rngD 0 k) S1) : WE (iR1 mas δ) S QA := by
  obtain ⟨xs, S1, e, k, rfl, hk, q⟩ := h
  exact ⟨_, S1, iR1_ok e hk, q⟩
theorem we_R2 (h : WE (mas δ) S fun xs S1 => ∃ i j : Int, xs = [.int i, .int j] ∧ (-(2 ^ 62) ≤ i ∧ i < 2 ^ 62 ∧ -(2 ^ 62) ≤ j ∧ j < 2 ^ 62) ∧ QA (rngD i (j - i).toNat) S1) : WE (iR2 mas δ) S QA := by
  obtain ⟨xs, S1, e, i, j, rfl, hk, q⟩ := h
  exact ⟨_, S1, by simp only [iR2, M.bind, e, hk, and_self, if_true, M.pure], q⟩
theorem we_rg {fin : List D → PO} (h : WE (ma δ) S fun x S1 => ∃ n : Int, x = .int n ∧ rgOk 0 n = true ∧ WE (lft (fin (rgD 0 n))) S1 Q) : WE (eRg fin (g1 ma) δ) S Q := by
  obtain ⟨x, S1, e, n, rfl, hk, z, S2, e2, q⟩ := h
  refine ⟨z, S2, ?_, q⟩
  simp only [lft] at e2
  simp only [eRg, g1, M.bind, e, M.pure, lft, hk, if_true]
  exact e2
theorem we_enu (h : WE (mas δ) S fun xs S1 => ∃ zs, (xs = [.lst zs] ∨ xs = [.tup zs]) ∧ QA (enumD zs) S1) : WE (iEnu mas δ) S QA := by
  obtain ⟨xs, S1, e, zs, h, q⟩ := h
  refine ⟨_, S1, ?_, q⟩
  rcases h with rfl | rfl <;> simp only [iEnu, M.bind, e]
theorem we_zip (h : WE (mas δ) S fun xs S1 => ∃ zs, pZip xs = some zs ∧ QA zs S1) : WE (iZip mas δ) S QA := by
  obtain ⟨xs, S1, e, zs, h, q⟩ := h
  exact ⟨_, S1, iZip_ok e h, q⟩
variable {P : Post} {ms mt : MS}
theorem ws_ofE {m : M α} {k : α → Store → Fl} (h : WE m S fun a S1 => WS (k a S1) P) : WS (ofE m δ k S) P := by
  obtain ⟨a, S1, e, q⟩ := h
  refine ⟨?_⟩
  simp only [ofE, e]
  exact q.ex
theorem ws_seq {n : En → Store → Prop} {r : D → Store → Prop} {c b : En → Store → Prop} {x : Xc → En → Store → Prop} (h : WS (ms δ S) ⟨fun δ1 S1 => WS (mt δ1 S1) ⟨n, r, c, b, x⟩, r, c, b, x⟩) : WS (sSeq ms mt δ S) ⟨n, r, c, b, x⟩ := by
  replace h := h.ex
  refine ⟨?_⟩
  unfold sSeq
  cases e : ms δ S with
  | nx δ1 S1 => rw [e] at h; exact WS.ex h
  | rt d S1 => rw [e] at h; exact h
  | bk δ1 S1 => rw [e] at h; exact h
  | ct δ1 S1 => rw [e] at h; exact h
  | exc x δ1 S1 => rw [e] at h; exact h
  | bad => rw [e] at h; exact h
theorem ws_next {n : En → Store → Prop} {r : D → Store → Prop} {c b : En → Store → Prop} {x : Xc → En → Store → Prop} (h : n δ S) : WS (sNext δ S) ⟨n, r, c, b, x⟩ := ⟨h⟩
theorem ws_cnt {n : En → Store → Prop} {r : D → Store → Prop} {c b : En → Store → Prop} {x : Xc → En → Store → Prop} (h : c δ S) : WS (sCnt δ S) ⟨n, r, c, b, x⟩ := ⟨h⟩
theorem ws_brk {n : En → Store → Prop} {r : D → Store → Prop} {c b : En → Store → Prop} {x : Xc → En → Store → Prop} (h : b δ S) : WS (sBrk δ S) ⟨n, r, c, b, x⟩ := ⟨h⟩
theorem ws_retN {n : En → Store → Prop} {r : D → Store → Prop} {c b : En → Store → Prop} {x : Xc → En → Store → Prop} (h : r .non S) : WS (sRetN δ S) ⟨n, r, c, b, x⟩ := ⟨h⟩
theorem ws_ret {n : En → Store → Prop} {r : D → Store → Prop} {c b : En → Store → Prop} {x : Xc → En → Store → Prop} (h : WE (ma δ) S r) : WS (sRet ma δ S) ⟨n, r, c, b, x⟩ := ws_ofE (we_imp h fun _ _ h => ⟨h⟩)
theorem ws_expr {n : En → Store → Prop} {r : D → Store → Prop} {c b : En → Store → Prop} {x : Xc → En → Store → Prop} (h : WE (ma δ) S fun _ S1 => n δ S1) : WS (sExpr ma δ S) ⟨n, r, c, b, x⟩ := ws_ofE (we_imp h fun _ _ h => ⟨h⟩)
theorem ws_if (h : WE (ta δ) S fun c S1 => Br c (WS (ms δ S1) P) (WS (mt δ S1) P)) : WS (sIf ta ms mt δ S) P := ws_ofE (we_imp h fun c S1 q => by
  cases c
  · exact q.2 rfl
  · exact q.1 rfl)
structure WG (r : Option (En × Store)) (Q : En → Store → Prop) : Prop where
  ex : ∃ δ' S', r = some (δ', S') ∧ Q δ' S'
variable {QG : En → Store → Prop} {mg : TGM} {mgs : TGMs} {d : D} {ds : List D}
theorem wg_nm {i : Nat} (h : QG (δ.set i (some d)) S) : WG (gNm i d δ S) QG := ⟨_, _, rfl, h⟩
theorem wg_nl (h : QG δ S) : WG (gNl [] δ S) QG := ⟨_, _, rfl, h⟩
theorem wg_cs (h : WG (mg d δ S) fun δ1 S1 => WG (mgs ds δ1 S1) QG) : WG (gCs mg mgs (d :: ds) δ S) QG := by
  obtain ⟨δ1, S1, e1, δ2, S2, e2, q⟩ := h
  exact ⟨δ2, S2, by simp only [gCs, e1, Option.bind_some, e2], q⟩
theorem wg_tp {n : Nat} (hl : ds.length = n) (h : WG (mgs ds δ S) QG) : WG (gTp n mgs (.tup ds) δ S) QG := by
  obtain ⟨δ1, S1, e1, q⟩ := h
  exact ⟨δ1, S1, by simp only [gTp, hl, if_true, e1], q⟩
theorem wg_istp {n : Nat} (h : WG (gTp n mgs d δ S) QG) : WG (gTp n mgs d δ S) QG := h
theorem wg_sb {f : PSt} (h : WE (mo δ) S fun o S1 => WE (ma δ) S1 fun i S2 => ∃ S3, f o i d S2 = some S3 ∧ QG δ S3) : WG (gSb f mo ma d δ S) QG := by
  obtain ⟨o, S1, e1, i, S2, e2, S3, e3, q⟩ := h
  exact ⟨δ, S3, gSb_ok e1 e2 e3, q⟩
theorem ws_asg {n : En → Store → Prop} {r : D → Store → Prop} {c b : En → Store → Prop} {x : Xc → En → Store → Prop} (h : WE (ma δ) S fun d S1 => WG (mg d δ S1) n) : WS (sAsg ma mg δ S) ⟨n, r, c, b, x⟩ := ws_ofE (we_imp h fun d S1 ⟨δ2, S2, e, q⟩ => by rw [e]; exact ⟨q⟩)
theorem ws_par2 {n : En → Store → Prop} {r : D → Store → Prop} {c b : En → Store → Prop} {x : Xc → En → Store → Prop} {i j : Nat} (h : WE (mas δ) S fun ds S1 => ∃ x y, ds = [x, y] ∧ n ((δ.set i (some x)).set j (some y)) S1) : WS (sPar2 i j mas δ S) ⟨n, r, c, b, x⟩ := ws_ofE (we_imp h fun ds S1 ⟨x, y, e, q⟩ => by subst e; exact ⟨q⟩)
theorem ws_par3 {n : En → Store → Prop} {r : D → Store → Prop} {c b : En → Store → Prop} {x : Xc → En → Store → Prop} {i j l : Nat} (h : WE (mas δ) S fun ds S1 => ∃ x y z, ds = [x, y, z] ∧ n (((δ.set i (some x)).set j (some y)).set l (some z)) S1) : WS (sPar3 i j l mas δ S) ⟨n, r, c, b, x⟩ := ws_ofE (we_imp h fun ds S1 ⟨x, y, z, e, q⟩ => by subst e; exact ⟨q⟩)
theorem ws_for {mi : MA} {mb : MS} (h : WE (mi δ) S fun ds S1 => WS (loopF mg mb ds δ S1) P) : WS (sFor mi mg mb δ S) P := ws_ofE h
variable {fin : List D → PO} {mi : MA} {up : UpD} {me : ME} {vs : List Nat} {δ0 : En}
theorem we_loopC {mt : MT} (I : Nat → List D → Store → Prop) (step : ∀ (k : Nat) (hk : k < ds.length) acc S, I k acc S → ∃ us, up ds[k] = some us ∧ WE (mt (setsD δ0 us)) S fun b S1 => Br b (WE (me (setsD δ0 us)) S1 fun y S2 => acc.length < sizeLine ∧ I (k + 1) (acc ++ [y]) S2) (I (k + 1) acc S1)) (h0 : I 0 [] S) : WE (loopC up mt me δ0 ds []) S (I ds.length) := by
  have key : ∀ (n k : Nat), k + n = ds.length → ∀ acc S, I k acc S → WE (loopC up mt me δ0 (ds.drop k) acc) S (I ds.length) := by
    intro n
    induction n with
    | zero =>
      intro k hk acc S h
      rw [List.drop_of_length_le (by omega)]
      have : k = ds.length := by omega
      subst this
      exact ⟨acc, S, rfl, h⟩
    | succ n ih =>
      intro k hk acc S h
      have hlt : k < ds.length := by omega
      rw [List.drop_eq_getElem_cons hlt]
      obtain ⟨us, e0, b, S1, e1, q⟩ := step k hlt acc S h
      cases b with
      | false =>
        obtain ⟨zs, S3, e3, q3⟩ := ih (k + 1) (by omega) acc S1 (q.2 rfl)
        exact ⟨zs, S3, by simp only [loopC, e0, M.bind, noX, e1, e3], q3⟩
      | true =>
        obtain ⟨y, S2, e2, hl, q2⟩ := q.1 rfl
        obtain ⟨zs, S3, e3, q3⟩ := ih (k + 1) (by omega) (acc ++ [y]) S2 q2
        exact ⟨zs, S3, by simp only [loopC, e0, M.bind, noX, e1, e2, hl, if_true, e3], q3⟩
  have := key ds.length 0 (by omega) [] S h0
  rwa [List.drop_zero] at this
theorem we_lc {mt : MT} (h : WE (mi δ) S fun ds S1 => WE (loopC up mt me (wipeD δ vs) ds []) S1 fun ys S2 => WE (lft (fin ys)) S2 Q) : WE (eLc fin mi up mt me vs δ) S Q := we_bind (we_imp h fun _ _ h => we_bind h)
theorem we_newL (hl : ds.length ≤ sizeLine) (q : Q (.lst ds) S) : WE (lft (newL ds)) S Q := we_lft (newL_ev hl) q
theorem we_fun {nN n : Nat} {m : MS} (hl : ds.length = n) (h : WS (m (startD nN ds) S) ⟨fun _ S1 => Q .non S1, Q, fun _ _ => False, fun _ _ => False, fun _ _ _ => False⟩) : WE (funM nN n m ds) S Q := by
  replace h := h.ex
  refine ⟨?_⟩
  unfold funM
  simp only [hl, if_true]
  cases e : m (startD nN ds) S with
  | nx δ1 S1 => rw [e] at h; exact ⟨.non, S1, by simp, h⟩
  | rt d S1 => rw [e] at h; exact ⟨d, S1, by simp, h⟩
  | ct δ1 S1 => rw [e] at h; exact h.elim
  | bk δ1 S1 => rw [e] at h; exact h.elim
  | exc x δ1 S1 => rw [e] at h; exact h.elim
  | bad => rw [e] at h; exact h.elim
end
end Wp
namespace Wp
open PySem L2 Ev Sp
section
variable {S S1 S2 : Store} {δ : En} {Q : D → Store → Prop} {P : Bool → Prop} {PL : List D → Prop} {A B : Prop} {c : Bool} {xs ys ds : List D} {ns ms : List Int} {i j : Int} {mo : ME}
theorem x_bl (h : P c) : ∃ b, (D.bl c) = .bl b ∧ P b := ⟨c, rfl, h⟩
theorem t_bl (h : P c) : ∃ b, truD S (.bl c) = some b ∧ P b := ⟨c, rfl, h⟩
theorem t_lst (h : P (!ds.isEmpty)) : ∃ b, truD S (.lst ds) = some b ∧ P b := ⟨_, rfl, h⟩
theorem t_tup (h : P (!ds.isEmpty)) : ∃ b, truD S (.tup ds) = some b ∧ P b := ⟨_, rfl, h⟩
theorem t_int (h : P (i != 0)) : ∃ b, truD S (.int i) = some b ∧ P b := ⟨_, rfl, h⟩
theorem t_non (h : P false) : ∃ b, truD S .non = some b ∧ P b := ⟨_, rfl, h⟩
theorem a_lst (h : PL ds) : ∃ l, anyOf (.lst ds) = some l ∧ PL l := ⟨_, rfl, h⟩
theorem a_tup (h : PL ds) : ∃ l, anyOf (.tup ds) = some l ∧ PL l := ⟨_, rfl, h⟩
theorem s_lst (h : PL ds) : ∃ l, seqOf S (.lst ds) = some l ∧ PL l := ⟨_, rfl, h⟩
theorem s_tup (h : PL ds) : ∃ l, seqOf S (.tup ds) = some l ∧ PL l := ⟨_, rfl, h⟩
theorem br_not (h : Br c B A) : Br (!c) A B := by
  cases c
  · exact ⟨fun _ => h.2 rfl, fun e => (by cases e)⟩
  · exact ⟨fun e => (by cases e), fun _ => h.1 rfl⟩
theorem len_nil2 {A : Prop} {n : Nat} (h : A) : ([] : List D).length ≤ n ∧ A := ⟨Nat.zero_le _, h⟩
theorem len_isl {l : List D} {A : Prop} (h : l.length ≤ sizeLine ∧ A) : l.length ≤ sizeLine ∧ A := h
theorem len_lit {l : List D} {A : Prop} (e : Nat.ble l.length 1000000 = true) (h : A) : l.length ≤ sizeLine ∧ A := ⟨small (Nat.le_of_ble_eq_true e), h⟩
theorem we_dT (q : Q (.ref S.length) (S ++ [some (.dT [])])) : WE (eDT δ) S Q := ⟨_, _, rfl, q⟩
theorem neg_i : pNeg (.int i) S = some (.int (-i), S) := rfl
theorem x_int {PI : Int → Prop} (h : PI i) : ∃ k, (D.int i) = .int k ∧ PI k := ⟨i, rfl, h⟩
theorem wl_ix {k : Nat} (hk : k < xs.length) (h : Q (xs[k]) S) : WE (lft (pIx (.lst xs) (.int k))) S Q := we_lft (pIx_lst hk) h
end
end Wp
namespace Ty
open PySem L2 Ev Bd Sp
def Tr (t : Nat) (S : Store) : Prop := ∃ a b c : Int, S[t]? = some (some (.lst [.int a, .int b, .int c])) ∧ 0 ≤ a
theorem pos_p : (0 : Int) < 2147483323 := by omega
theorem store3 {S : Store} {t : Nat} {x0 x1 x2 v : D} {k : Nat} (hS : S[t]? = some (some (.lst [x0, x1, x2]))) (hk : k < 3) : pStore (.ref t) (.int k) v S = some (S.set t (some (.lst ([x0, x1, x2].set k v)))) := by
  have h0 : (0 : Int) ≤ k := by omega
  have h1 : (k : Int) < 3 := by omega
  simp [pStore, hS, ixN, h0, h1]
theorem ix3_0 {S : Store} {t : Nat} {x0 x1 x2 : D} (hS : S[t]? = some (some (.lst [x0, x1, x2]))) : pIx (.ref t) (.int 0) S = some (x0, S) := pIx_ref (k := 0) hS (by simp)
theorem ix3_1 {S : Store} {t : Nat} {x0 x1 x2 : D} (hS : S[t]? = some (some (.lst [x0, x1, x2]))) : pIx (.ref t) (.int 1) S = some (x1, S) := pIx_ref (k := 1) hS (by simp)
theorem ix3_2 {S : Store} {t : Nat} {x0 x1 x2 : D} (hS : S[t]? = some (some (.lst [x0, x1, x2]))) : pIx (.ref t) (.int 2) S = some (x2, S) := pIx_ref (k := 2) hS (by simp)
theorem take_tr0 {cal : Nat → List D → M D} {t : Nat} {m : Int} {S : Store} (h : Tr t S) (hm : 0 < m) (hm2 : m < 1073741824) : ∃ (f : Nat) (x : Cell), funM 3 2 (b__law_take cal) [.ref t, .int m] S = .ok (.int f) (S.set t (some x)) ∧ (f : Int) < m ∧ Tr t (S.set t (some x)) := by
  obtain ⟨a, b, c, hS, ha⟩ := h
  have nat : ∀ z : Int, 0 ≤ z % m → ∃ f : Nat, z % m = f ∧ (f : Int) < m := fun z hz => ⟨(z % m).toNat, by omega, by have := Int.emod_lt_of_pos z hm; omega⟩
  by_cases h : 0 < a
  · obtain ⟨f, ef, hf⟩ := nat a (Int.emod_nonneg _ (by omega))
    have g0 := store3 (v := .int (a / m)) (k := 0) hS (by omega)
    refine ⟨f, _, ?_, hf, a / m, b, c, set_get hS, Int.ediv_nonneg ha (by omega)⟩
    unfold b__law_take
    refine funM_rt rfl (sSeq_rt (sIf_t (asB_ok (eOp_ok (eOp_ok rfl rfl (ix3_0 hS)) rfl ?_)) (sSeq_nx (sAsg_ok (eCallV_ok (aCons_ok (eOp_ok rfl rfl (ix3_0 hS)) (aCons_ok rfl rfl)) (z := .tup [.int (a / m), .int f]) (S2 := S) ?_) (δ2 := [some (.ref t), some (.int m), some (.int f)]) (S2 := S.set t (some (.lst [.int (a / m), .int b, .int c]))) ?_) (sRet_ok rfl))))
    · rw [pGt_ii, decide_eq_true h]
    · simp only [pDivmod, hm, hm2, and_self, if_true, ef]
    · exact gTp2_ok (gSb_ok rfl rfl g0) rfl
  · have h0 : a = 0 := by omega
    subst h0
    have m1 : mulOk b ((b / 64) % 26003 + 23) = true := mul_r (by have := Int.emod_nonneg (b / 64) (show (26003 : Int) ≠ 0 by decide); omega) (by have := Int.emod_lt_of_pos (b / 64) (show (0 : Int) < 26003 by decide); omega)
    have m2 : mulOk 18013 (c + 1) = true := mul_l (by omega) (by omega)
    obtain ⟨f, ef, hf⟩ := nat ((b * ((b / 64) % 26003 + 23) + 18013 * (c + 1) + 11) % 2147483323 / 1024) (Int.emod_nonneg _ (by omega))
    have g1 := set_get (c' := .lst [.int 0, .int b, .int (c + 1)]) hS
    have g0 := store3 (v := .int (c + 1)) (k := 2) hS (by omega)
    have g2 := store3 (v := .int ((b * ((b / 64) % 26003 + 23) + 18013 * (c + 1) + 11) % 2147483323)) (k := 1) g1 (by omega)
    rw [List.set_set] at g2
    have g3 := set_get (c' := .lst [.int 0, .int ((b * ((b / 64) % 26003 + 23) + 18013 * (c + 1) + 11) % 2147483323), .int (c + 1)]) hS
    refine ⟨f, _, ?_, hf, 0, _, _, g3, Int.le_refl _⟩
    unfold b__law_take
    refine funM_rt rfl (sSeq_nx (sIf_f (asB_ok (eOp_ok (eOp_ok rfl rfl (ix3_0 hS)) rfl rfl)) rfl)
      (sSeq_nx (sAsg_ok (eOp_ok (eOp_ok rfl rfl (ix3_2 hS)) rfl rfl) (gSb_ok rfl rfl g0))
      (sSeq_nx (sAsg_ok (eOp_ok (eCallV_ok (aCons_ok (eOp_ok (eOp_ok (eOp_ok (eOp_ok rfl rfl (ix3_1 g1)) (eOp_ok (eOp_ok (eCallV_ok (aCons_ok (eOp_ok (eOp_ok rfl rfl (ix3_1 g1)) rfl (pFdiv_ii (by omega) (by omega))) rfl) pInt_i) rfl (pMod_ii (by omega))) rfl pAdd_ii) (pMul_ii m1)) (eOp_ok rfl (eOp_ok rfl rfl (ix3_2 g1)) (pMul_ii m2)) pAdd_ii) rfl pAdd_ii) rfl) pInt_i) rfl (pMod_ii pos_p)) (gSb_ok rfl rfl g2))
      (sRet_ok (eOp_ok (eCallV_ok (aCons_ok (eOp_ok (eOp_ok rfl rfl (ix3_1 g3)) rfl (pFdiv_ii (by omega) (by omega))) rfl) pInt_i) rfl ?_)))))
    rw [pMod_ii hm, ef]
    rfl
theorem tray_ev {cal : Nat → List D → M D} {at_ : Nat} {ns : List Int} {S : Store} (hl : ns.length ≤ 1000) (ha_ : at_ ≤ 1000) : ∃ a b : Int, funM 5 2 (b__law_tray cal) [.scr ns, .int at_] S = .ok (.ref S.length) (S ++ [some (.lst [.int a, .int b, .int 3])]) ∧ 0 ≤ a := by
  unfold b__law_tray
  have k0 : ∃ k : Nat, (if (9 : Int) < (ns.length : Int) then (9 : Int) else (ns.length : Int)) = (k : Int) ∧ k ≤ ns.length ∧ k ≤ 9 := by
    by_cases h : (9 : Int) < ns.length
    · exact ⟨9, by rw [if_pos h]; rfl, by omega, by omega⟩
    · exact ⟨ns.length, by rw [if_neg h], by omega, by omega⟩
  obtain ⟨k, ek, hk1, hk2⟩ := k0
  have own0 : ∃ own : Int, (eIf (fun δ => asB (eOp pLt (eVar 1) (eCallV (pLen) (aCons (eVar 0) aNil)) δ)) (eOp pIx (eVar 0) (eVar 1)) (eC (.int 0))) [some (.scr ns), some (.int at_), none, none, none] S = .ok (.int own) S := by
    by_cases h : at_ < ns.length
    · exact ⟨ns[at_], eIf_t (asB_ok (eOp_ok rfl (eCallV_ok (aCons_ok rfl rfl) pLen_scr) (by rw [pLt_ii, decide_eq_true (by omega)]))) (eOp_ok rfl rfl (pIx_scr h))⟩
    · exact ⟨0, eIf_f (asB_ok (eOp_ok rfl (eCallV_ok (aCons_ok rfl rfl) pLen_scr) (by rw [pLt_ii, decide_eq_false (by omega)]))) rfl⟩
  obtain ⟨own, eown⟩ := own0
  have m0 : mulOk 80021 (at_ : Int) = true := mul_l (by omega) (by omega)
  obtain ⟨δ2, S2, e2, x, o, rfl, rfl⟩ := loop_inv (mg := gNm 4) (mb := (sAsg (eOp pMod (eCallV pInt (aCons (eOp pAdd (eOp pAdd (eOp pMul (eVar 3) (eOp pAdd (eC (.int 30011)) (eOp pMul (eC (.int 2)) (eVar 4)))) (eOp pMul (eC (.int 13)) (eOp pIx (eVar 0) (eVar 4)))) (eC (.int 8009))) aNil)) (eC (.int 2147483323))) (gNm 3)))
    (ds := rngD 0 k) (δ := [some (.scr ns), some (.int at_), some (.int own), some (.int (173205 + 80021 * (at_ : Int))), none]) (S := S)
    (fun i δ S' => ∃ x o, δ = ([some (.scr ns), some (.int at_), some (.int own), some (.int x), o] : En) ∧ S' = S) (by
      rintro i δ S' hi ⟨x, o, rfl, rfl⟩
      rw [rng_get]
      rw [rng_len] at hi
      have m1 : mulOk x (30011 + 2 * (i : Int)) = true := mul_r (by omega) (by omega)
      exact ⟨_, _, rfl, _, _, sAsg_ok (eOp_ok (eCallV_ok (aCons_ok (eOp_ok (eOp_ok (eOp_ok rfl (eOp_ok rfl (eOp_ok rfl rfl (pMul_ii (mul_l (by omega) (by omega)))) pAdd_ii) (pMul_ii m1)) (eOp_ok rfl (eOp_ok rfl rfl (pIx_scr (k := i) (by omega))) (pMul_ii (mul_l (by omega) (by omega)))) pAdd_ii) rfl pAdd_ii) rfl) pInt_i) rfl (pMod_ii pos_p)) rfl, _, _, rfl, rfl⟩) ⟨_, none, rfl, rfl⟩
  have fin : ∃ a : Int, 0 ≤ a ∧ (eIf (tOrM (fun δ => asB (eOp pLt (eVar 2) (eC (.int 0)) δ)) (fun δ => asB (eOp pGe (eVar 2) (eOp pPow (eC (.int 10)) (eC (.int 18))) δ))) (eCallV (pAbs) (aCons (eVar 2) aNil)) (eC (.int 0))) [some (.scr ns), some (.int at_), some (.int own), some (.int x), o] S2 = .ok (.int a) S2 := by
    have hp : ∀ S, pPow (.int 10) (.int 18) S = some (.int (10 ^ 18), S) := fun S => rfl
    by_cases h : own < 0
    · exact ⟨-own, by omega, eIf_t (tOr_t (asB_ok (eOp_ok rfl rfl (by rw [pLt_ii, decide_eq_true h])))) (eCallV_ok (aCons_ok rfl rfl) (by simp only [pAbs, h, if_true]))⟩
    · by_cases h2 : 10 ^ 18 ≤ own
      · exact ⟨own, by omega, eIf_t (tOr_f (asB_ok (eOp_ok rfl rfl (by rw [pLt_ii, decide_eq_false h]))) (asB_ok (eOp_ok rfl (eOp_ok rfl rfl (hp _)) (by rw [pGe_ii, decide_eq_true h2])))) (eCallV_ok (aCons_ok rfl rfl) (by simp only [pAbs, h, if_false]))⟩
      · exact ⟨0, by omega, eIf_f (tOr_f (asB_ok (eOp_ok rfl rfl (by rw [pLt_ii, decide_eq_false h]))) (asB_ok (eOp_ok rfl (eOp_ok rfl rfl (hp _)) (by rw [pGe_ii, decide_eq_false h2])))) rfl⟩
  obtain ⟨a, ha, efin⟩ := fin
  refine ⟨a, (x * 5 + own * 6007) % 2147483323, ?_, ha⟩
  refine funM_rt rfl (sSeq_nx (sPar2_ok (aCons_ok eown (aCons_ok (eOp_ok rfl (eOp_ok rfl rfl (pMul_ii m0)) pAdd_ii) rfl))) (sSeq_nx (sFor_ok (iR1_ok (k := k) (aCons_ok (eCallV_ok (aCons_ok (eCallV_ok (aCons_ok rfl rfl) pLen_scr) (aCons_ok rfl rfl)) ?_) rfl) (by omega)) e2)
    (sRet_ok (eLstC_ok (aCons_ok efin (aCons_ok (eOp_ok (eCallV_ok (aCons_ok (eOp_ok (eOp_ok rfl rfl (pMul_ii (mul_r (by omega) (by omega)))) (eOp_ok rfl rfl (pMul_ii (mul_r (by omega) (by omega)))) pAdd_ii) rfl) pInt_i) rfl (pMod_ii pos_p)) (aCons_ok rfl rfl))) (show (3 : Nat) ≤ sizeLine by decide)))))
  show some (D.int (if (9 : Int) < (ns.length : Int) then (9 : Int) else (ns.length : Int)), S2) = _
  rw [ek]
end Ty
namespace Tl
open PySem L2 Ev Bd Sp Rg Wp Ty
def lawM (m : Int) (r e : List D → M D) : MS := sRet (eCallV (pAll true) (aCons (eLc newL (iR1 (aCons (eCallV (pMax) (aCons (eC (.int 2)) (aCons (eCallV (pMin) (aCons (eCallV (pLen) (aCons (eVar 0) aNil)) (aCons (eC (.int m)) aNil))) aNil))) aNil)) (uNm 1) tYesM (eCal r (aCons (eCal e (aCons (eVar 0) (aCons (eVar 1) aNil))) aNil)) [1]) aNil))
def Tr (L : Store) (t : Nat) (S : Store) : Prop := (∃ a b c : Int, S[t]? = some (some (.lst [.int a, .int b, .int c])) ∧ 0 ≤ a) ∧ L.length ≤ t ∧ ∀ j, j < L.length → S[j]? = L[j]?
theorem tr_set {L : Store} {t : Nat} {S : Store} {x : Option Cell} (h : Tr L t S) (h2 : Ty.Tr t (S.set t x)) : Tr L t (S.set t x) := ⟨h2, h.2.1, fun j hj => by rw [List.getElem?_set_ne (by have := h.2.1; omega)]; exact h.2.2 j hj⟩
structure TakF (L : Store) (dr : List D → M D) : Prop where
  tr : ∀ {t : Nat} {S : Store} {m : Int}, Tr L t S → 0 < m → m < 1073741824 → ∃ (f : Nat) (x : Cell), dr [.ref t, .int m] S = .ok (.int f) (S.set t (some x)) ∧ (f : Int) < m ∧ Tr L t (S.set t (some x))
theorem take_tak {L : Store} {cal : Nat → List D → M D} : TakF L (funM 3 2 (b__law_take cal)) := ⟨fun h hm hm2 => by
  obtain ⟨f, x, e, hf, q⟩ := take_tr0 h.1 hm hm2
  exact ⟨f, x, e, hf, tr_set h q⟩⟩
end Tl
namespace Xr
open PySem L2 Ev Bd Sp Rg Wp Ty Tl Xm
theorem pEq_ss {a b : Str} {S : Store} : pEq (.str a) (.str b) S = some (.bl (a == b), S) := by
  simp [pEq, eqD, toPS, PyData.eqv, PyData.depth]
theorem sm {n : Nat} (e : Nat.ble n 1000000 = true) : n ≤ sizeLine := Sp.small (Nat.le_of_ble_eq_true e)
def kitQ (t : List (Str × Ty × Bool)) (c : Str) (ty : Ty) : Option Bool := if (c, ty, true) ∈ t then some true else if (c, ty, false) ∈ t then some false else none
def kinW (g : Ty → Bool) : List (Bool × Str) := (((((((((((((([(g (.blt "ValueError"), ("V" : Str)), (g (.blt "LookupError"), ("L" : Str))] ++ [(g (.blt "ArithmeticError"), ("A" : Str)), (g (.own "BadValue"), ("BadValue" : Str))]) ++ [(g (.own "BadName"), ("BadName" : Str)), (g (.own "NoAnswer"), ("NoAnswer" : Str))]) ++ [(g (.own "InvalidText"), ("InvalidText" : Str)), (g (.own "InvalidNumber"), ("InvalidNumber" : Str))]) ++ [(g (.own "InvalidLot"), ("InvalidLot" : Str)), (g (.own "InvalidPart"), ("InvalidPart" : Str))]) ++ [(g (.own "InvalidRow"), ("InvalidRow" : Str)), (g (.own "InvalidName"), ("InvalidName" : Str))]) ++ [(g (.own "InvalidIndex"), ("InvalidIndex" : Str)), (g (.own "InvalidClaim"), ("InvalidClaim" : Str))]) ++ [(g (.own "InvalidCommand"), ("InvalidCommand" : Str)), (g (.own "NotATable"), ("NotATable" : Str))]) ++ [(g (.own "InvalidPrices"), ("InvalidPrices" : Str)), (g (.own "InvalidGains"), ("InvalidGains" : Str))]) ++ [(g (.own "InvalidShares"), ("InvalidShares" : Str))]) ++ [(g (.own "InvalidStretches"), ("InvalidStretches" : Str))]) ++ [(g (.own "UnknownName"), ("UnknownName" : Str)), (g (.own "InUse"), ("InUse" : Str))]) ++ [(g (.own "Empty"), ("Empty" : Str)), (g (.own "NotThePrice"), ("NotThePrice" : Str))]) ++ [(g (.own "TooMany"), ("TooMany" : Str)), (g (.own "OddRing"), ("OddRing" : Str))]) ++ [(g (.own "NothingToUndo"), ("NothingToUndo" : Str)), (g (.own "Broken"), ("Broken" : Str))])
def kinS (g : Ty → Bool) : Str := Txt.join " " (((kinW g).filter (·.1)).map (·.2))
def encW (p : Bool × Str) : D := .lst [.bl p.1, .str p.2]
def tysK : List Ty := [(.blt "ValueError"), (.blt "LookupError"), (.blt "ArithmeticError"), (.own "BadValue"), (.own "BadName"), (.own "NoAnswer"), (.own "InvalidText"), (.own "InvalidNumber"), (.own "InvalidLot"), (.own "InvalidPart"), (.own "InvalidRow"), (.own "InvalidName"), (.own "InvalidIndex"), (.own "InvalidClaim"), (.own "InvalidCommand"), (.own "NotATable"), (.own "InvalidPrices"), (.own "InvalidGains"), (.own "InvalidShares"), (.own "InvalidStretches"), (.own "UnknownName"), (.own "InUse"), (.own "Empty"), (.own "NotThePrice"), (.own "TooMany"), (.own "OddRing"), (.own "NothingToUndo"), (.own "Broken")]
end Xr
namespace Xr
open PySem L2 Ev Bd Sp Rg Wp Ty Tl Xm
section
variable {z : D} {kin pre : Str} {body : MS} {S : Store} {r : D}
abbrev cW (pre : Str) : MT := fun δ => asB (eOp pEq (eVar 1) (eOp pAdd (eC (.str pre)) (eVar 2)) δ)
theorem cond_ev {w : Str} {b : Bool} (hp : pAdd (.str pre) (.str w) S = some (.str (pre ++ w), S)) (h : (kin == pre ++ w) = b) : cW pre [some z, some (.str kin), some (.str w)] S = .ok b S :=
  asB_ok (eOp_ok rfl (eOp_ok rfl rfl hp) (by rw [pEq_ss, h]))
theorem condc_ev {w : Str} {b : Bool} {o : Option D} (h : (kin == w) = b) : (fun δ => asB (eOp pEq (eVar 1) (eC (.str w)) δ)) [some z, some (.str kin), o] S = .ok b S :=
  asB_ok (eOp_ok rfl rfl (by rw [pEq_ss, h]))
theorem tupW {me : ME} {w : Str} {e : D} {δ : En} (h2 : δ[2]? = some (some (.str w))) (h : me δ S = .ok e S) : sRet (eTup (aCons (eVar 2) (aCons me aNil))) δ S = .rt (.tup [.str w, e]) S := sRet_ok (eTup_ok (aCons_ok (eVarR h2 (by simp)) (aCons_ok h rfl)) (sm rfl))
theorem tupC {me : ME} {w : Str} {e : D} {δ : En} (h : me δ S = .ok e S) : eTup (aCons (eC (.str w)) (aCons me aNil)) δ S = .ok (.tup [.str w, e]) S := eTup_ok (aCons_ok rfl (aCons_ok h rfl)) (sm rfl)
theorem tup2 {m1 m2 : ME} {e1 e2 : D} {δ : En} (h1 : m1 δ S = .ok e1 S) (h2 : m2 δ S = .ok e2 S) : eTup (aCons m1 (aCons m2 aNil)) δ S = .ok (.tup [e1, e2]) S := eTup_ok (aCons_ok h1 (aCons_ok h2 rfl)) (sm rfl)
theorem add_ss {a b : Str} (h : a.length + b.length ≤ 1000) : pAdd (.str a) (.str b) S = some (.str (a ++ b), S) := by
  simp only [pAdd]
  rw [if_pos (sm (Nat.ble_eq_true_of_le (by omega)))]
def okW (kin pre : Str) (w : Str) : Bool := !(kin == pre ++ w) && Nat.ble (pre.length + w.length) 1000
theorem words_ev : ∀ (ws : List Str), (ws.all (okW kin pre)) = true → ∀ o, ∃ o', loopF (gNm 2) (sIf (cW pre) body sNext) (ws.map D.str) [some z, some (.str kin), o] S = .nx [some z, some (.str kin), o'] S
  | [], _, o => ⟨o, rfl⟩
  | w :: ws, h, o => by
    rw [List.all_cons, Bool.and_eq_true] at h
    have h1 := h.1
    unfold okW at h1
    rw [Bool.and_eq_true, Bool.not_eq_true'] at h1
    obtain ⟨o', e⟩ := words_ev ws h.2 (some (.str w))
    exact ⟨o', (loop_nx rfl (sIf_f (cond_ev (add_ss (Nat.le_of_ble_eq_true h1.2)) h1.1) rfl)).trans e⟩
theorem words_at {w : Str} {vs : List Str} (hw : (kin == pre ++ w) = true) (hl : Nat.ble (pre.length + w.length) 1000 = true) (hb : body [some z, some (.str kin), some (.str w)] S = .rt r S) : ∀ (us : List Str), (us.all (okW kin pre)) = true → ∀ o, loopF (gNm 2) (sIf (cW pre) body sNext) ((us ++ w :: vs).map D.str) [some z, some (.str kin), o] S = .rt r S
  | [], _, o => loop_rt rfl (sIf_t (cond_ev (add_ss (Nat.le_of_ble_eq_true hl)) hw) hb)
  | u :: us, h, o => by
    rw [List.all_cons, Bool.and_eq_true] at h
    have h1 := h.1
    unfold okW at h1
    rw [Bool.and_eq_true, Bool.not_eq_true'] at h1
    have e := words_at (vs := vs) hw hl hb us h.2 (some (.str u))
    exact (loop_nx rfl (sIf_f (cond_ev (add_ss (Nat.le_of_ble_eq_true h1.2)) h1.1) rfl)).trans e
end
end Xr
namespace Ek
open PySem L2 Ev Bd Sp Rg Wp Ty Tl Xm Xr
theorem vi_ev {t : List (Str × Ty × Bool)} {c : Str} {fs : List (Str × D)} {ty : Ty} {b : Bool} {i : Nat} {δ : En} {S : Store} (h : δ[i]? = some (some (.exv c fs))) (hq : kitQ t c ty = some b) : eXvi t ty (eVar i) δ S = .ok (.bl b) S := by
  have e := eVarR (S := S) h (by simp)
  unfold kitQ at hq
  simp only [eXvi, M.bind, e, if_true]
  split at hq
  · rename_i h1
    cases hq
    rw [if_pos h1]
  · rename_i h1
    rw [if_neg h1]
    split at hq
    · rename_i h2
      cases hq
      rw [if_pos h2]
    · cases hq
theorem vf_ev {t : List (Str × Str)} {c f : Str} {fs : List (Str × D)} {e : D} {i : Nat} {δ : En} {S : Store} (h : δ[i]? = some (some (.exv c fs))) (hm : (c, f) ∈ t) (hl : fs.lookup f = some e) : eXvf t f (eVar i) δ S = .ok e S := by
  have e0 := eVarR (S := S) h (by simp)
  simp only [eXvf, M.bind, e0, hm, if_true, hl]
section
variable {t : List (Str × Ty × Bool)} {c : Str} {fs : List (Str × D)} {S : Store} {A : List (Bool × Str)} {o : Option D} {y1 y2 : Ty} {b1 b2 : Bool} {w1 w2 : Str}
abbrev pairM (t : List (Str × Ty × Bool)) (y : Ty) (w : Str) : ME := eLst (aCons (eXvi t y (eVar 0)) (aCons (eC (.str w)) aNil))
theorem pair_ev {δ : En} (h : δ[0]? = some (some (.exv c fs))) (h1 : kitQ t c y1 = some b1) : pairM t y1 w1 δ S = .ok (encW (b1, w1)) S := eLst_ok (aCons_ok (vi_ev h h1) (aCons_ok rfl rfl)) (sm rfl)
theorem kin0 (h1 : kitQ t c y1 = some b1) (h2 : kitQ t c y2 = some b2) : sAsg (eLst (aCons (pairM t y1 w1) (aCons (pairM t y2 w2) aNil))) (gNm 1) [some (.exv c fs), none, o] S = .nx [some (.exv c fs), some (.lst ([(b1, w1), (b2, w2)].map encW)), o] S :=
  sAsg_ok (eLst_ok (aCons_ok (pair_ev rfl h1) (aCons_ok (pair_ev rfl h2) rfl)) (sm rfl)) rfl
theorem kin2 (hl : Nat.ble A.length 100 = true) (h1 : kitQ t c y1 = some b1) (h2 : kitQ t c y2 = some b2) : sAsg (eOp pAdd (eVar 1) (eLst (aCons (pairM t y1 w1) (aCons (pairM t y2 w2) aNil)))) (gNm 1) [some (.exv c fs), some (.lst (A.map encW)), o] S = .nx [some (.exv c fs), some (.lst ((A ++ [(b1, w1), (b2, w2)]).map encW)), o] S := by
  have := Nat.le_of_ble_eq_true hl
  rw [List.map_append]
  exact sAsg_ok (eOp_ok rfl (eLst_ok (aCons_ok (pair_ev rfl h1) (aCons_ok (pair_ev rfl h2) rfl)) (sm rfl)) (add_ll (Sp.small (by simp; omega)))) rfl
theorem kin1 (hl : Nat.ble A.length 100 = true) (h1 : kitQ t c y1 = some b1) : sAsg (eOp pAdd (eVar 1) (eLst (aCons (pairM t y1 w1) aNil))) (gNm 1) [some (.exv c fs), some (.lst (A.map encW)), o] S = .nx [some (.exv c fs), some (.lst ((A ++ [(b1, w1)]).map encW)), o] S := by
  have := Nat.le_of_ble_eq_true hl
  rw [List.map_append]
  exact sAsg_ok (eOp_ok rfl (eLst_ok (aCons_ok (pair_ev rfl h1) rfl) (sm rfl)) (add_ll (Sp.small (by simp; omega)))) rfl
end
theorem kin_ev {cal : Nat → List D → M D} {c : Str} {fs : List (Str × D)} {g : Ty → Bool} {S : Store} (hq : ∀ ty ∈ tysK, kitQ xt_v17.kit c ty = some (g ty)) : funM 3 1 (b__law_kin_v2 cal) [.exv c fs] S = .ok (.str (kinS g)) S := by
  unfold b__law_kin_v2
  have hl : ((((kinW g).filter (·.1)).map (·.2)).map D.str).length ≤ 100 := by
    rw [List.length_map, List.length_map]
    exact Nat.le_trans (List.length_filter_le _ _) (Nat.le_of_ble_eq_true rfl)
  have hb : ∀ w ∈ (((kinW g).filter (·.1)).map (·.2)).map (·.length), w ≤ 100 := fun n hn => by
    obtain ⟨w, hw, rfl⟩ := List.mem_map.mp hn
    obtain ⟨p, hp, rfl⟩ := List.mem_map.mp hw
    have h1 := (List.mem_filter.mp hp).1
    have h2 : p.2 ∈ (kinW g).map (·.2) := List.mem_map.mpr ⟨p, h1, rfl⟩
    have h3 : (kinW g).map (·.2) = (kinW fun _ => true).map (·.2) := rfl
    rw [h3] at h2
    have h4 : ∀ w ∈ (kinW fun _ => true).map (·.2), w.length ≤ 100 := by decide +kernel
    exact h4 _ h2
  have hj : ((((kinW g).filter (·.1)).map (·.2)).map (·.length)).sum + (((kinW g).filter (·.1)).map (·.2)).length * (" " : Str).length ≤ 16777216 := by
    have h1 := sum_le hb
    have h2 : (((kinW g).filter (·.1)).map (·.2)).length ≤ 100 := by simpa using hl
    have h3 : (" " : Str).length = 1 := rfl
    rw [List.length_map] at h1
    rw [h3]
    omega
  have lc : loopC (uNm 2) (fun δ => tru ((eOp pIx (eVar 2) (eC (.int 0))) δ)) (eOp pIx (eVar 2) (eC (.int 1))) (wipeD [some (.exv c fs), some (.lst ((kinW g).map encW)), none] [2]) ((kinW g).map encW) [] S = .ok ((((kinW g).filter (·.1)).map (·.2)).map D.str) S := by
    refine lc_filE (k := 2) encW D.str (·.1) (·.2) (sm rfl) (fun p _ => ?_) fun p _ _ => ?_
    · exact tru_ok (d := .bl p.1) (eOp_ok (x := encW p) rfl rfl (pIx_lst (k := 0) (by simp))) rfl
    · exact eOp_ok (x := encW p) rfl rfl (pIx_lst (k := 1) (by simp))
  have e0 : iAny (eVar 1) [some (.exv c fs), some (.lst ((kinW g).map encW)), none] S = .ok ((kinW g).map encW) S := rfl
  exact funM_rt rfl (sSeq_nx (kin0 (hq _ (List.mem_of_getElem? (i := 0) rfl)) (hq _ (List.mem_of_getElem? (i := 1) rfl)))
    (sSeq_nx (kin2 rfl (hq _ (List.mem_of_getElem? (i := 2) rfl)) (hq _ (List.mem_of_getElem? (i := 3) rfl)))
    (sSeq_nx (kin2 rfl (hq _ (List.mem_of_getElem? (i := 4) rfl)) (hq _ (List.mem_of_getElem? (i := 5) rfl)))
    (sSeq_nx (kin2 rfl (hq _ (List.mem_of_getElem? (i := 6) rfl)) (hq _ (List.mem_of_getElem? (i := 7) rfl)))
    (sSeq_nx (kin2 rfl (hq _ (List.mem_of_getElem? (i := 8) rfl)) (hq _ (List.mem_of_getElem? (i := 9) rfl)))
    (sSeq_nx (kin2 rfl (hq _ (List.mem_of_getElem? (i := 10) rfl)) (hq _ (List.mem_of_getElem? (i := 11) rfl)))
    (sSeq_nx (kin2 rfl (hq _ (List.mem_of_getElem? (i := 12) rfl)) (hq _ (List.mem_of_getElem? (i := 13) rfl)))
    (sSeq_nx (kin2 rfl (hq _ (List.mem_of_getElem? (i := 14) rfl)) (hq _ (List.mem_of_getElem? (i := 15) rfl)))
    (sSeq_nx (kin2 rfl (hq _ (List.mem_of_getElem? (i := 16) rfl)) (hq _ (List.mem_of_getElem? (i := 17) rfl)))
    (sSeq_nx (kin1 rfl (hq _ (List.mem_of_getElem? (i := 18) rfl)))
    (sSeq_nx (kin1 rfl (hq _ (List.mem_of_getElem? (i := 19) rfl)))
    (sSeq_nx (kin2 rfl (hq _ (List.mem_of_getElem? (i := 20) rfl)) (hq _ (List.mem_of_getElem? (i := 21) rfl)))
    (sSeq_nx (kin2 rfl (hq _ (List.mem_of_getElem? (i := 22) rfl)) (hq _ (List.mem_of_getElem? (i := 23) rfl)))
    (sSeq_nx (kin2 rfl (hq _ (List.mem_of_getElem? (i := 24) rfl)) (hq _ (List.mem_of_getElem? (i := 25) rfl)))
    (sSeq_nx (kin2 rfl (hq _ (List.mem_of_getElem? (i := 26) rfl)) (hq _ (List.mem_of_getElem? (i := 27) rfl)))
    (sRet_ok (eMB_ok rfl rfl (aCons_ok (eLc_ok e0 lc (newL_ev (Nat.le_trans hl (sm rfl)))) rfl) (join_ok hj))))))))))))))))))
end Ek
namespace Ek
open PySem L2 Ev Bd Sp Rg Wp Ty Tl Xm Xr
variable {cal : Nat → List D → M D}
theorem tale_InvalidText {c : Str} {fs : List (Str × D)} {S : Store} {e0 : D} (hk : cal 548 [.exv c fs] S = .ok (.str "V BadValue InvalidText") S) (h0 : fs.lookup ("given" : Str) = some e0) (m0 : (c, ("given" : Str)) ∈ xt_v17.fl) : funM 3 1 (b__law_tale_v2 cal) [.exv c fs] S = .ok (.tup [.str "InvalidText", e0]) S := by
  unfold b__law_tale_v2
  have f0 := words_at (z := .exv c fs) (S := S) (kin := "V BadValue InvalidText") (pre := "V BadValue ") (w := "InvalidText") (vs := ["InvalidNumber", "InvalidLot", "InvalidPart", "InvalidRow", "InvalidName", "InvalidIndex", "InvalidClaim", "InvalidCommand", "NotATable"]) (body := _) (by decide +kernel) (by decide +kernel) (tupW rfl (vf_ev (i := 0) rfl m0 h0)) [] (by decide +kernel) none
  exact funM_rt rfl (sSeq_nx (sAsg_ok (eCal_ok (aCons_ok rfl rfl) hk) rfl) (sSeq_rt (sFor_ok rfl f0)))
theorem tale_InvalidNumber {c : Str} {fs : List (Str × D)} {S : Store} {e0 : D} (hk : cal 548 [.exv c fs] S = .ok (.str "V BadValue InvalidNumber") S) (h0 : fs.lookup ("given" : Str) = some e0) (m0 : (c, ("given" : Str)) ∈ xt_v17.fl) : funM 3 1 (b__law_tale_v2 cal) [.exv c fs] S = .ok (.tup [.str "InvalidNumber", e0]) S := by
  unfold b__law_tale_v2
  have f0 := words_at (z := .exv c fs) (S := S) (kin := "V BadValue InvalidNumber") (pre := "V BadValue ") (w := "InvalidNumber") (vs := ["InvalidLot", "InvalidPart", "InvalidRow", "InvalidName", "InvalidIndex", "InvalidClaim", "InvalidCommand", "NotATable"]) (body := _) (by decide +kernel) (by decide +kernel) (tupW rfl (vf_ev (i := 0) rfl m0 h0)) ["InvalidText"] (by decide +kernel) none
  exact funM_rt rfl (sSeq_nx (sAsg_ok (eCal_ok (aCons_ok rfl rfl) hk) rfl) (sSeq_rt (sFor_ok rfl f0)))
theorem tale_InvalidLot {c : Str} {fs : List (Str × D)} {S : Store} {e0 : D} (hk : cal 548 [.exv c fs] S = .ok (.str "V BadValue InvalidLot") S) (h0 : fs.lookup ("given" : Str) = some e0) (m0 : (c, ("given" : Str)) ∈ xt_v17.fl) : funM 3 1 (b__law_tale_v2 cal) [.exv c fs] S = .ok (.tup [.str "InvalidLot", e0]) S := by
  unfold b__law_tale_v2
  have f0 := words_at (z := .exv c fs) (S := S) (kin := "V BadValue InvalidLot") (pre := "V BadValue ") (w := "InvalidLot") (vs := ["InvalidPart", "InvalidRow", "InvalidName", "InvalidIndex", "InvalidClaim", "InvalidCommand", "NotATable"]) (body := _) (by decide +kernel) (by decide +kernel) (tupW rfl (vf_ev (i := 0) rfl m0 h0)) ["InvalidText", "InvalidNumber"] (by decide +kernel) none
  exact funM_rt rfl (sSeq_nx (sAsg_ok (eCal_ok (aCons_ok rfl rfl) hk) rfl) (sSeq_rt (sFor_ok rfl f0)))
theorem tale_InvalidPart {c : Str} {fs : List (Str × D)} {S : Store} {e0 : D} (hk : cal 548 [.exv c fs] S = .ok (.str "V BadValue InvalidPart") S) (h0 : fs.lookup ("given" : Str) = some e0) (m0 : (c, ("given" : Str)) ∈ xt_v17.fl) : funM 3 1 (b__law_tale_v2 cal) [.exv c fs] S = .ok (.tup [.str "InvalidPart", e0]) S := by
  unfold b__law_tale_v2
  have f0 := words_at (z := .exv c fs) (S := S) (kin := "V BadValue InvalidPart") (pre := "V BadValue ") (w := "InvalidPart") (vs := ["InvalidRow", "InvalidName", "InvalidIndex", "InvalidClaim", "InvalidCommand", "NotATable"]) (body := _) (by decide +kernel) (by decide +kernel) (tupW rfl (vf_ev (i := 0) rfl m0 h0)) ["InvalidText", "InvalidNumber", "InvalidLot"] (by decide +kernel) none
  exact funM_rt rfl (sSeq_nx (sAsg_ok (eCal_ok (aCons_ok rfl rfl) hk) rfl) (sSeq_rt (sFor_ok rfl f0)))
theorem tale_InvalidRow {c : Str} {fs : List (Str × D)} {S : Store} {e0 : D} (hk : cal 548 [.exv c fs] S = .ok (.str "V BadValue InvalidRow") S) (h0 : fs.lookup ("given" : Str) = some e0) (m0 : (c, ("given" : Str)) ∈ xt_v17.fl) : funM 3 1 (b__law_tale_v2 cal) [.exv c fs] S = .ok (.tup [.str "InvalidRow", e0]) S := by
  unfold b__law_tale_v2
  have f0 := words_at (z := .exv c fs) (S := S) (kin := "V BadValue InvalidRow") (pre := "V BadValue ") (w := "InvalidRow") (vs := ["InvalidName", "InvalidIndex", "InvalidClaim", "InvalidCommand", "NotATable"]) (body := _) (by decide +kernel) (by decide +kernel) (tupW rfl (vf_ev (i := 0) rfl m0 h0)) ["InvalidText", "InvalidNumber", "InvalidLot", "InvalidPart"] (by decide +kernel) none
  exact funM_rt rfl (sSeq_nx (sAsg_ok (eCal_ok (aCons_ok rfl rfl) hk) rfl) (sSeq_rt (sFor_ok rfl f0)))
theorem tale_InvalidName {c : Str} {fs : List (Str × D)} {S : Store} {e0 : D} (hk : cal 548 [.exv c fs] S = .ok (.str "V BadValue InvalidName") S) (h0 : fs.lookup ("given" : Str) = some e0) (m0 : (c, ("given" : Str)) ∈ xt_v17.fl) : funM 3 1 (b__law_tale_v2 cal) [.exv c fs] S = .ok (.tup [.str "InvalidName", e0]) S := by
  unfold b__law_tale_v2
  have f0 := words_at (z := .exv c fs) (S := S) (kin := "V BadValue InvalidName") (pre := "V BadValue ") (w := "InvalidName") (vs := ["InvalidIndex", "InvalidClaim", "InvalidCommand", "NotATable"]) (body := _) (by decide +kernel) (by decide +kernel) (tupW rfl (vf_ev (i := 0) rfl m0 h0)) ["InvalidText", "InvalidNumber", "InvalidLot", "InvalidPart", "InvalidRow"] (by decide +kernel) none
  exact funM_rt rfl (sSeq_nx (sAsg_ok (eCal_ok (aCons_ok rfl rfl) hk) rfl) (sSeq_rt (sFor_ok rfl f0)))
theorem tale_InvalidIndex {c : Str} {fs : List (Str × D)} {S : Store} {e0 : D} (hk : cal 548 [.exv c fs] S = .ok (.str "V BadValue InvalidIndex") S) (h0 : fs.lookup ("given" : Str) = some e0) (m0 : (c, ("given" : Str)) ∈ xt_v17.fl) : funM 3 1 (b__law_tale_v2 cal) [.exv c fs] S = .ok (.tup [.str "InvalidIndex", e0]) S := by
  unfold b__law_tale_v2
  have f0 := words_at (z := .exv c fs) (S := S) (kin := "V BadValue InvalidIndex") (pre := "V BadValue ") (w := "InvalidIndex") (vs := ["InvalidClaim", "InvalidCommand", "NotATable"]) (body := _) (by decide +kernel) (by decide +kernel) (tupW rfl (vf_ev (i := 0) rfl m0 h0)) ["InvalidText", "InvalidNumber", "InvalidLot", "InvalidPart", "InvalidRow", "InvalidName"] (by decide +kernel) none
  exact funM_rt rfl (sSeq_nx (sAsg_ok (eCal_ok (aCons_ok rfl rfl) hk) rfl) (sSeq_rt (sFor_ok rfl f0)))
theorem tale_InvalidClaim {c : Str} {fs : List (Str × D)} {S : Store} {e0 : D} (hk : cal 548 [.exv c fs] S = .ok (.str "V BadValue InvalidClaim") S) (h0 : fs.lookup ("given" : Str) = some e0) (m0 : (c, ("given" : Str)) ∈ xt_v17.fl) : funM 3 1 (b__law_tale_v2 cal) [.exv c fs] S = .ok (.tup [.str "InvalidClaim", e0]) S := by
  unfold b__law_tale_v2
  have f0 := words_at (z := .exv c fs) (S := S) (kin := "V BadValue InvalidClaim") (pre := "V BadValue ") (w := "InvalidClaim") (vs := ["InvalidCommand", "NotATable"]) (body := _) (by decide +kernel) (by decide +kernel) (tupW rfl (vf_ev (i := 0) rfl m0 h0)) ["InvalidText", "InvalidNumber", "InvalidLot", "InvalidPart", "InvalidRow", "InvalidName", "InvalidIndex"] (by decide +kernel) none
  exact funM_rt rfl (sSeq_nx (sAsg_ok (eCal_ok (aCons_ok rfl rfl) hk) rfl) (sSeq_rt (sFor_ok rfl f0)))
theorem tale_InvalidCommand {c : Str} {fs : List (Str × D)} {S : Store} {e0 : D} (hk : cal 548 [.exv c fs] S = .ok (.str "V BadValue InvalidCommand") S) (h0 : fs.lookup ("given" : Str) = some e0) (m0 : (c, ("given" : Str)) ∈ xt_v17.fl) : funM 3 1 (b__law_tale_v2 cal) [.exv c fs] S = .ok (.tup [.str "InvalidCommand", e0]) S := by
  unfold b__law_tale_v2
  have f0 := words_at (z := .exv c fs) (S := S) (kin := "V BadValue InvalidCommand") (pre := "V BadValue ") (w := "InvalidCommand") (vs := ["NotATable"]) (body := _) (by decide +kernel) (by decide +kernel) (tupW rfl (vf_ev (i := 0) rfl m0 h0)) ["InvalidText", "InvalidNumber", "InvalidLot", "InvalidPart", "InvalidRow", "InvalidName", "InvalidIndex", "InvalidClaim"] (by decide +kernel) none
  exact funM_rt rfl (sSeq_nx (sAsg_ok (eCal_ok (aCons_ok rfl rfl) hk) rfl) (sSeq_rt (sFor_ok rfl f0)))
theorem tale_NotATable {c : Str} {fs : List (Str × D)} {S : Store} {e0 : D} (hk : cal 548 [.exv c fs] S = .ok (.str "V BadValue NotATable") S) (h0 : fs.lookup ("given" : Str) = some e0) (m0 : (c, ("given" : Str)) ∈ xt_v17.fl) : funM 3 1 (b__law_tale_v2 cal) [.exv c fs] S = .ok (.tup [.str "NotATable", e0]) S := by
  unfold b__law_tale_v2
  have f0 := words_at (z := .exv c fs) (S := S) (kin := "V BadValue NotATable") (pre := "V BadValue ") (w := "NotATable") (vs := []) (body := _) (by decide +kernel) (by decide +kernel) (tupW rfl (vf_ev (i := 0) rfl m0 h0)) ["InvalidText", "InvalidNumber", "InvalidLot", "InvalidPart", "InvalidRow", "InvalidName", "InvalidIndex", "InvalidClaim", "InvalidCommand"] (by decide +kernel) none
  exact funM_rt rfl (sSeq_nx (sAsg_ok (eCal_ok (aCons_ok rfl rfl) hk) rfl) (sSeq_rt (sFor_ok rfl f0)))
theorem tale_InvalidPrices {c : Str} {fs : List (Str × D)} {S : Store} {e0 : D} (hk : cal 548 [.exv c fs] S = .ok (.str "V BadValue InvalidPrices") S) (h0 : fs.lookup ("index" : Str) = some e0) (m0 : (c, ("index" : Str)) ∈ xt_v17.fl) : funM 3 1 (b__law_tale_v2 cal) [.exv c fs] S = .ok (.tup [.str "InvalidPrices", e0]) S := by
  unfold b__law_tale_v2
  obtain ⟨o0, f0⟩ := words_ev (z := .exv c fs) (S := S) (kin := "V BadValue InvalidPrices") (pre := "V BadValue ") (body := sRet (eTup (aCons (eVar 2) (aCons (eXvf xt_v17.fl "given" (eVar 0)) aNil)))) ["InvalidText", "InvalidNumber", "InvalidLot", "InvalidPart", "InvalidRow", "InvalidName", "InvalidIndex", "InvalidClaim", "InvalidCommand", "NotATable"] (by decide +kernel) none
  have f1 := words_at (z := .exv c fs) (S := S) (kin := "V BadValue InvalidPrices") (pre := "V BadValue ") (w := "InvalidPrices") (vs := ["InvalidGains", "InvalidShares", "InvalidStretches"]) (body := _) (by decide +kernel) (by decide +kernel) (tupW rfl (vf_ev (i := 0) rfl m0 h0)) [] (by decide +kernel) o0
  exact funM_rt rfl (sSeq_nx (sAsg_ok (eCal_ok (aCons_ok rfl rfl) hk) rfl) (sSeq_nx (sFor_ok rfl f0)
    (sSeq_rt (sFor_ok rfl f1))))
theorem tale_InvalidGains {c : Str} {fs : List (Str × D)} {S : Store} {e0 : D} (hk : cal 548 [.exv c fs] S = .ok (.str "V BadValue InvalidGains") S) (h0 : fs.lookup ("index" : Str) = some e0) (m0 : (c, ("index" : Str)) ∈ xt_v17.fl) : funM 3 1 (b__law_tale_v2 cal) [.exv c fs] S = .ok (.tup [.str "InvalidGains", e0]) S := by
  unfold b__law_tale_v2
  obtain ⟨o0, f0⟩ := words_ev (z := .exv c fs) (S := S) (kin := "V BadValue InvalidGains") (pre := "V BadValue ") (body := sRet (eTup (aCons (eVar 2) (aCons (eXvf xt_v17.fl "given" (eVar 0)) aNil)))) ["InvalidText", "InvalidNumber", "InvalidLot", "InvalidPart", "InvalidRow", "InvalidName", "InvalidIndex", "InvalidClaim", "InvalidCommand", "NotATable"] (by decide +kernel) none
  have f1 := words_at (z := .exv c fs) (S := S) (kin := "V BadValue InvalidGains") (pre := "V BadValue ") (w := "InvalidGains") (vs := ["InvalidShares", "InvalidStretches"]) (body := _) (by decide +kernel) (by decide +kernel) (tupW rfl (vf_ev (i := 0) rfl m0 h0)) ["InvalidPrices"] (by decide +kernel) o0
  exact funM_rt rfl (sSeq_nx (sAsg_ok (eCal_ok (aCons_ok rfl rfl) hk) rfl) (sSeq_nx (sFor_ok rfl f0)
    (sSeq_rt (sFor_ok rfl f1))))
theorem tale_InvalidShares {c : Str} {fs : List (Str × D)} {S : Store} {e0 : D} (hk : cal 548 [.exv c fs] S = .ok (.str "V BadValue InvalidShares") S) (h0 : fs.lookup ("index" : Str) = some e0) (m0 : (c, ("index" : Str)) ∈ xt_v17.fl) : funM 3 1 (b__law_tale_v2 cal) [.exv c fs] S = .ok (.tup [.str "InvalidShares", e0]) S := by
  unfold b__law_tale_v2
  obtain ⟨o0, f0⟩ := words_ev (z := .exv c fs) (S := S) (kin := "V BadValue InvalidShares") (pre := "V BadValue ") (body := sRet (eTup (aCons (eVar 2) (aCons (eXvf xt_v17.fl "given" (eVar 0)) aNil)))) ["InvalidText", "InvalidNumber", "InvalidLot", "InvalidPart", "InvalidRow", "InvalidName", "InvalidIndex", "InvalidClaim", "InvalidCommand", "NotATable"] (by decide +kernel) none
  have f1 := words_at (z := .exv c fs) (S := S) (kin := "V BadValue InvalidShares") (pre := "V BadValue ") (w := "InvalidShares") (vs := ["InvalidStretches"]) (body := _) (by decide +kernel) (by decide +kernel) (tupW rfl (vf_ev (i := 0) rfl m0 h0)) ["InvalidPrices", "InvalidGains"] (by decide +kernel) o0
  exact funM_rt rfl (sSeq_nx (sAsg_ok (eCal_ok (aCons_ok rfl rfl) hk) rfl) (sSeq_nx (sFor_ok rfl f0)
    (sSeq_rt (sFor_ok rfl f1))))
theorem tale_InvalidStretches {c : Str} {fs : List (Str × D)} {S : Store} {e0 : D} (hk : cal 548 [.exv c fs] S = .ok (.str "V BadValue InvalidStretches") S) (h0 : fs.lookup ("index" : Str) = some e0) (m0 : (c, ("index" : Str)) ∈ xt_v17.fl) : funM 3 1 (b__law_tale_v2 cal) [.exv c fs] S = .ok (.tup [.str "InvalidStretches", e0]) S := by
  unfold b__law_tale_v2
  obtain ⟨o0, f0⟩ := words_ev (z := .exv c fs) (S := S) (kin := "V BadValue InvalidStretches") (pre := "V BadValue ") (body := sRet (eTup (aCons (eVar 2) (aCons (eXvf xt_v17.fl "given" (eVar 0)) aNil)))) ["InvalidText", "InvalidNumber", "InvalidLot", "InvalidPart", "InvalidRow", "InvalidName", "InvalidIndex", "InvalidClaim", "InvalidCommand", "NotATable"] (by decide +kernel) none
  have f1 := words_at (z := .exv c fs) (S := S) (kin := "V BadValue InvalidStretches") (pre := "V BadValue ") (w := "InvalidStretches") (vs := []) (body := _) (by decide +kernel) (by decide +kernel) (tupW rfl (vf_ev (i := 0) rfl m0 h0)) ["InvalidPrices", "InvalidGains", "InvalidShares"] (by decide +kernel) o0
  exact funM_rt rfl (sSeq_nx (sAsg_ok (eCal_ok (aCons_ok rfl rfl) hk) rfl) (sSeq_nx (sFor_ok rfl f0)
    (sSeq_rt (sFor_ok rfl f1))))
theorem tale_Empty {c : Str} {fs : List (Str × D)} {S : Store} (hk : cal 548 [.exv c fs] S = .ok (.str "A NoAnswer Empty") S) : funM 3 1 (b__law_tale_v2 cal) [.exv c fs] S = .ok (.tup [.str "Empty", .str ""]) S := by
  unfold b__law_tale_v2
  obtain ⟨o0, f0⟩ := words_ev (z := .exv c fs) (S := S) (kin := "A NoAnswer Empty") (pre := "V BadValue ") (body := sRet (eTup (aCons (eVar 2) (aCons (eXvf xt_v17.fl "given" (eVar 0)) aNil)))) ["InvalidText", "InvalidNumber", "InvalidLot", "InvalidPart", "InvalidRow", "InvalidName", "InvalidIndex", "InvalidClaim", "InvalidCommand", "NotATable"] (by decide +kernel) none
  obtain ⟨o1, f1⟩ := words_ev (z := .exv c fs) (S := S) (kin := "A NoAnswer Empty") (pre := "V BadValue ") (body := sRet (eTup (aCons (eVar 2) (aCons (eXvf xt_v17.fl "index" (eVar 0)) aNil)))) ["InvalidPrices", "InvalidGains", "InvalidShares", "InvalidStretches"] (by decide +kernel) o0
  have f2 := words_at (z := .exv c fs) (S := S) (kin := "A NoAnswer Empty") (pre := "A NoAnswer ") (w := "Empty") (vs := ["NotThePrice", "NothingToUndo"]) (body := _) (by decide +kernel) (by decide +kernel) (tupW rfl (show eC (.str "") _ _ = .ok (.str "") _ from rfl)) [] (by decide +kernel) o1
  exact funM_rt rfl (sSeq_nx (sAsg_ok (eCal_ok (aCons_ok rfl rfl) hk) rfl) (sSeq_nx (sFor_ok rfl f0)
    (sSeq_nx (sFor_ok rfl f1)
    (sSeq_rt (sFor_ok rfl f2)))))
theorem tale_NotThePrice {c : Str} {fs : List (Str × D)} {S : Store} (hk : cal 548 [.exv c fs] S = .ok (.str "A NoAnswer NotThePrice") S) : funM 3 1 (b__law_tale_v2 cal) [.exv c fs] S = .ok (.tup [.str "NotThePrice", .str ""]) S := by
  unfold b__law_tale_v2
  obtain ⟨o0, f0⟩ := words_ev (z := .exv c fs) (S := S) (kin := "A NoAnswer NotThePrice") (pre := "V BadValue ") (body := sRet (eTup (aCons (eVar 2) (aCons (eXvf xt_v17.fl "given" (eVar 0)) aNil)))) ["InvalidText", "InvalidNumber", "InvalidLot", "InvalidPart", "InvalidRow", "InvalidName", "InvalidIndex", "InvalidClaim", "InvalidCommand", "NotATable"] (by decide +kernel) none
  obtain ⟨o1, f1⟩ := words_ev (z := .exv c fs) (S := S) (kin := "A NoAnswer NotThePrice") (pre := "V BadValue ") (body := sRet (eTup (aCons (eVar 2) (aCons (eXvf xt_v17.fl "index" (eVar 0)) aNil)))) ["InvalidPrices", "InvalidGains", "InvalidShares", "InvalidStretches"] (by decide +kernel) o0
  have f2 := words_at (z := .exv c fs) (S := S) (kin := "A NoAnswer NotThePrice") (pre := "A NoAnswer ") (w := "NotThePrice") (vs := ["NothingToUndo"]) (body := _) (by decide +kernel) (by decide +kernel) (tupW rfl (show eC (.str "") _ _ = .ok (.str "") _ from rfl)) ["Empty"] (by decide +kernel) o1
  exact funM_rt rfl (sSeq_nx (sAsg_ok (eCal_ok (aCons_ok rfl rfl) hk) rfl) (sSeq_nx (sFor_ok rfl f0)
    (sSeq_nx (sFor_ok rfl f1)
    (sSeq_rt (sFor_ok rfl f2)))))
theorem tale_NothingToUndo {c : Str} {fs : List (Str × D)} {S : Store} (hk : cal 548 [.exv c fs] S = .ok (.str "A NoAnswer NothingToUndo") S) : funM 3 1 (b__law_tale_v2 cal) [.exv c fs] S = .ok (.tup [.str "NothingToUndo", .str ""]) S := by
  unfold b__law_tale_v2
  obtain ⟨o0, f0⟩ := words_ev (z := .exv c fs) (S := S) (kin := "A NoAnswer NothingToUndo") (pre := "V BadValue ") (body := sRet (eTup (aCons (eVar 2) (aCons (eXvf xt_v17.fl "given" (eVar 0)) aNil)))) ["InvalidText", "InvalidNumber", "InvalidLot", "InvalidPart", "InvalidRow", "InvalidName", "InvalidIndex", "InvalidClaim", "InvalidCommand", "NotATable"] (by decide +kernel) none
  obtain ⟨o1, f1⟩ := words_ev (z := .exv c fs) (S := S) (kin := "A NoAnswer NothingToUndo") (pre := "V BadValue ") (body := sRet (eTup (aCons (eVar 2) (aCons (eXvf xt_v17.fl "index" (eVar 0)) aNil)))) ["InvalidPrices", "InvalidGains", "InvalidShares", "InvalidStretches"] (by decide +kernel) o0
  have f2 := words_at (z := .exv c fs) (S := S) (kin := "A NoAnswer NothingToUndo") (pre := "A NoAnswer ") (w := "NothingToUndo") (vs := []) (body := _) (by decide +kernel) (by decide +kernel) (tupW rfl (show eC (.str "") _ _ = .ok (.str "") _ from rfl)) ["Empty", "NotThePrice"] (by decide +kernel) o1
  exact funM_rt rfl (sSeq_nx (sAsg_ok (eCal_ok (aCons_ok rfl rfl) hk) rfl) (sSeq_nx (sFor_ok rfl f0)
    (sSeq_nx (sFor_ok rfl f1)
    (sSeq_rt (sFor_ok rfl f2)))))
theorem tale_UnknownName {c : Str} {fs : List (Str × D)} {S : Store} {e0 : D} (hk : cal 548 [.exv c fs] S = .ok (.str "L BadName UnknownName") S) (h0 : fs.lookup ("given" : Str) = some e0) (m0 : (c, ("given" : Str)) ∈ xt_v17.fl) : funM 3 1 (b__law_tale_v2 cal) [.exv c fs] S = .ok (.tup [.str "UnknownName", e0]) S := by
  unfold b__law_tale_v2
  obtain ⟨o0, f0⟩ := words_ev (z := .exv c fs) (S := S) (kin := "L BadName UnknownName") (pre := "V BadValue ") (body := sRet (eTup (aCons (eVar 2) (aCons (eXvf xt_v17.fl "given" (eVar 0)) aNil)))) ["InvalidText", "InvalidNumber", "InvalidLot", "InvalidPart", "InvalidRow", "InvalidName", "InvalidIndex", "InvalidClaim", "InvalidCommand", "NotATable"] (by decide +kernel) none
  obtain ⟨o1, f1⟩ := words_ev (z := .exv c fs) (S := S) (kin := "L BadName UnknownName") (pre := "V BadValue ") (body := sRet (eTup (aCons (eVar 2) (aCons (eXvf xt_v17.fl "index" (eVar 0)) aNil)))) ["InvalidPrices", "InvalidGains", "InvalidShares", "InvalidStretches"] (by decide +kernel) o0
  obtain ⟨o2, f2⟩ := words_ev (z := .exv c fs) (S := S) (kin := "L BadName UnknownName") (pre := "A NoAnswer ") (body := sRet (eTup (aCons (eVar 2) (aCons (eC (.str "")) aNil)))) ["Empty", "NotThePrice", "NothingToUndo"] (by decide +kernel) o1
  exact funM_rt rfl (sSeq_nx (sAsg_ok (eCal_ok (aCons_ok rfl rfl) hk) rfl) (sSeq_nx (sFor_ok rfl f0)
    (sSeq_nx (sFor_ok rfl f1)
    (sSeq_nx (sFor_ok rfl f2)
    (sSeq_rt (sIf_t (condc_ev (by decide +kernel)) (sRet_ok (tupC (vf_ev (i := 0) rfl m0 h0)))))))))
theorem tale_InUse {c : Str} {fs : List (Str × D)} {S : Store} {e0 : D} (hk : cal 548 [.exv c fs] S = .ok (.str "L BadName InUse") S) (h0 : fs.lookup ("index" : Str) = some e0) (m0 : (c, ("index" : Str)) ∈ xt_v17.fl) : funM 3 1 (b__law_tale_v2 cal) [.exv c fs] S = .ok (.tup [.str "InUse", e0]) S := by
  unfold b__law_tale_v2
  obtain ⟨o0, f0⟩ := words_ev (z := .exv c fs) (S := S) (kin := "L BadName InUse") (pre := "V BadValue ") (body := sRet (eTup (aCons (eVar 2) (aCons (eXvf xt_v17.fl "given" (eVar 0)) aNil)))) ["InvalidText", "InvalidNumber", "InvalidLot", "InvalidPart", "InvalidRow", "InvalidName", "InvalidIndex", "InvalidClaim", "InvalidCommand", "NotATable"] (by decide +kernel) none
  obtain ⟨o1, f1⟩ := words_ev (z := .exv c fs) (S := S) (kin := "L BadName InUse") (pre := "V BadValue ") (body := sRet (eTup (aCons (eVar 2) (aCons (eXvf xt_v17.fl "index" (eVar 0)) aNil)))) ["InvalidPrices", "InvalidGains", "InvalidShares", "InvalidStretches"] (by decide +kernel) o0
  obtain ⟨o2, f2⟩ := words_ev (z := .exv c fs) (S := S) (kin := "L BadName InUse") (pre := "A NoAnswer ") (body := sRet (eTup (aCons (eVar 2) (aCons (eC (.str "")) aNil)))) ["Empty", "NotThePrice", "NothingToUndo"] (by decide +kernel) o1
  exact funM_rt rfl (sSeq_nx (sAsg_ok (eCal_ok (aCons_ok rfl rfl) hk) rfl) (sSeq_nx (sFor_ok rfl f0)
    (sSeq_nx (sFor_ok rfl f1)
    (sSeq_nx (sFor_ok rfl f2)
    (sSeq_nx (sIf_f (condc_ev (by decide +kernel)) rfl)
    (sSeq_rt (sIf_t (condc_ev (by decide +kernel)) (sRet_ok (tupC (vf_ev (i := 0) rfl m0 h0))))))))))
theorem tale_TooMany {c : Str} {fs : List (Str × D)} {S : Store} {e0 : D} (hk : cal 548 [.exv c fs] S = .ok (.str "A NoAnswer TooMany") S) (h0 : fs.lookup ("limit" : Str) = some e0) (m0 : (c, ("limit" : Str)) ∈ xt_v17.fl) : funM 3 1 (b__law_tale_v2 cal) [.exv c fs] S = .ok (.tup [.str "TooMany", e0]) S := by
  unfold b__law_tale_v2
  obtain ⟨o0, f0⟩ := words_ev (z := .exv c fs) (S := S) (kin := "A NoAnswer TooMany") (pre := "V BadValue ") (body := sRet (eTup (aCons (eVar 2) (aCons (eXvf xt_v17.fl "given" (eVar 0)) aNil)))) ["InvalidText", "InvalidNumber", "InvalidLot", "InvalidPart", "InvalidRow", "InvalidName", "InvalidIndex", "InvalidClaim", "InvalidCommand", "NotATable"] (by decide +kernel) none
  obtain ⟨o1, f1⟩ := words_ev (z := .exv c fs) (S := S) (kin := "A NoAnswer TooMany") (pre := "V BadValue ") (body := sRet (eTup (aCons (eVar 2) (aCons (eXvf xt_v17.fl "index" (eVar 0)) aNil)))) ["InvalidPrices", "InvalidGains", "InvalidShares", "InvalidStretches"] (by decide +kernel) o0
  obtain ⟨o2, f2⟩ := words_ev (z := .exv c fs) (S := S) (kin := "A NoAnswer TooMany") (pre := "A NoAnswer ") (body := sRet (eTup (aCons (eVar 2) (aCons (eC (.str "")) aNil)))) ["Empty", "NotThePrice", "NothingToUndo"] (by decide +kernel) o1
  exact funM_rt rfl (sSeq_nx (sAsg_ok (eCal_ok (aCons_ok rfl rfl) hk) rfl) (sSeq_nx (sFor_ok rfl f0)
    (sSeq_nx (sFor_ok rfl f1)
    (sSeq_nx (sFor_ok rfl f2)
    (sSeq_nx (sIf_f (condc_ev (by decide +kernel)) rfl)
    (sSeq_nx (sIf_f (condc_ev (by decide +kernel)) rfl)
    (sSeq_rt (sIf_t (condc_ev (by decide +kernel)) (sRet_ok (tupC (vf_ev (i := 0) rfl m0 h0)))))))))))
theorem tale_OddRing {c : Str} {fs : List (Str × D)} {S : Store} {e0 : D} (hk : cal 548 [.exv c fs] S = .ok (.str "A NoAnswer OddRing") S) (h0 : fs.lookup ("ring" : Str) = some e0) (m0 : (c, ("ring" : Str)) ∈ xt_v17.fl) : funM 3 1 (b__law_tale_v2 cal) [.exv c fs] S = .ok (.tup [.str "OddRing", e0]) S := by
  unfold b__law_tale_v2
  obtain ⟨o0, f0⟩ := words_ev (z := .exv c fs) (S := S) (kin := "A NoAnswer OddRing") (pre := "V BadValue ") (body := sRet (eTup (aCons (eVar 2) (aCons (eXvf xt_v17.fl "given" (eVar 0)) aNil)))) ["InvalidText", "InvalidNumber", "InvalidLot", "InvalidPart", "InvalidRow", "InvalidName", "InvalidIndex", "InvalidClaim", "InvalidCommand", "NotATable"] (by decide +kernel) none
  obtain ⟨o1, f1⟩ := words_ev (z := .exv c fs) (S := S) (kin := "A NoAnswer OddRing") (pre := "V BadValue ") (body := sRet (eTup (aCons (eVar 2) (aCons (eXvf xt_v17.fl "index" (eVar 0)) aNil)))) ["InvalidPrices", "InvalidGains", "InvalidShares", "InvalidStretches"] (by decide +kernel) o0
  obtain ⟨o2, f2⟩ := words_ev (z := .exv c fs) (S := S) (kin := "A NoAnswer OddRing") (pre := "A NoAnswer ") (body := sRet (eTup (aCons (eVar 2) (aCons (eC (.str "")) aNil)))) ["Empty", "NotThePrice", "NothingToUndo"] (by decide +kernel) o1
  exact funM_rt rfl (sSeq_nx (sAsg_ok (eCal_ok (aCons_ok rfl rfl) hk) rfl) (sSeq_nx (sFor_ok rfl f0)
    (sSeq_nx (sFor_ok rfl f1)
    (sSeq_nx (sFor_ok rfl f2)
    (sSeq_nx (sIf_f (condc_ev (by decide +kernel)) rfl)
    (sSeq_nx (sIf_f (condc_ev (by decide +kernel)) rfl)
    (sSeq_nx (sIf_f (condc_ev (by decide +kernel)) rfl)
    (sSeq_rt (sIf_t (condc_ev (by decide +kernel)) (sRet_ok (tupC (vf_ev (i := 0) rfl m0 h0))))))))))))
theorem tale_Broken {c : Str} {fs : List (Str × D)} {S : Store} {e0 e1 : D} (hk : cal 548 [.exv c fs] S = .ok (.str "A NoAnswer Broken") S) (h0 : fs.lookup ("index" : Str) = some e0) (m0 : (c, ("index" : Str)) ∈ xt_v17.fl) (h1 : fs.lookup ("shown" : Str) = some e1) (m1 : (c, ("shown" : Str)) ∈ xt_v17.fl) : funM 3 1 (b__law_tale_v2 cal) [.exv c fs] S = .ok (.tup [.str "Broken", .tup [e0, e1]]) S := by
  unfold b__law_tale_v2
  obtain ⟨o0, f0⟩ := words_ev (z := .exv c fs) (S := S) (kin := "A NoAnswer Broken") (pre := "V BadValue ") (body := sRet (eTup (aCons (eVar 2) (aCons (eXvf xt_v17.fl "given" (eVar 0)) aNil)))) ["InvalidText", "InvalidNumber", "InvalidLot", "InvalidPart", "InvalidRow", "InvalidName", "InvalidIndex", "InvalidClaim", "InvalidCommand", "NotATable"] (by decide +kernel) none
  obtain ⟨o1, f1⟩ := words_ev (z := .exv c fs) (S := S) (kin := "A NoAnswer Broken") (pre := "V BadValue ") (body := sRet (eTup (aCons (eVar 2) (aCons (eXvf xt_v17.fl "index" (eVar 0)) aNil)))) ["InvalidPrices", "InvalidGains", "InvalidShares", "InvalidStretches"] (by decide +kernel) o0
  obtain ⟨o2, f2⟩ := words_ev (z := .exv c fs) (S := S) (kin := "A NoAnswer Broken") (pre := "A NoAnswer ") (body := sRet (eTup (aCons (eVar 2) (aCons (eC (.str "")) aNil)))) ["Empty", "NotThePrice", "NothingToUndo"] (by decide +kernel) o1
  exact funM_rt rfl (sSeq_nx (sAsg_ok (eCal_ok (aCons_ok rfl rfl) hk) rfl) (sSeq_nx (sFor_ok rfl f0)
    (sSeq_nx (sFor_ok rfl f1)
    (sSeq_nx (sFor_ok rfl f2)
    (sSeq_nx (sIf_f (condc_ev (by decide +kernel)) rfl)
    (sSeq_nx (sIf_f (condc_ev (by decide +kernel)) rfl)
    (sSeq_nx (sIf_f (condc_ev (by decide +kernel)) rfl)
    (sSeq_nx (sIf_f (condc_ev (by decide +kernel)) rfl)
    (sRet_ok (eIf_t (condc_ev (by decide +kernel)) (tupC (tup2 (vf_ev (i := 0) rfl m0 h0) (vf_ev (i := 0) rfl m1 h1)))))))))))))
end Ek
namespace Ek
open PySem L2 Ev Bd Sp Rg Wp Ty Tl Xm Xr
variable {cal : Nat → List D → M D} {S : Store} {v w : D}
def gX (c : Str) (ty : Ty) : Bool := decide ((c, ty, true) ∈ xt_v17.kit)
def Kin (cal : Nat → List D → M D) : Prop := ∀ c fs S (g : Ty → Bool), (∀ ty ∈ tysK, kitQ xt_v17.kit c ty = some (g ty)) → cal 548 [.exv c fs] S = .ok (.str (kinS g)) S
theorem kin_InvalidText (hk : Kin cal) {fs : List (Str × D)} : cal 548 [.exv "InvalidText" fs] S = .ok (.str "V BadValue InvalidText") S := by
  rw [hk "InvalidText" fs S (gX "InvalidText") (by decide +kernel), show kinS (gX "InvalidText") = ("V BadValue InvalidText" : Str) from by decide +kernel]
theorem kin_InvalidNumber (hk : Kin cal) {fs : List (Str × D)} : cal 548 [.exv "InvalidNumber" fs] S = .ok (.str "V BadValue InvalidNumber") S := by
  rw [hk "InvalidNumber" fs S (gX "InvalidNumber") (by decide +kernel), show kinS (gX "InvalidNumber") = ("V BadValue InvalidNumber" : Str) from by decide +kernel]
theorem kin_InvalidLot (hk : Kin cal) {fs : List (Str × D)} : cal 548 [.exv "InvalidLot" fs] S = .ok (.str "V BadValue InvalidLot") S := by
  rw [hk "InvalidLot" fs S (gX "InvalidLot") (by decide +kernel), show kinS (gX "InvalidLot") = ("V BadValue InvalidLot" : Str) from by decide +kernel]
theorem kin_InvalidPart (hk : Kin cal) {fs : List (Str × D)} : cal 548 [.exv "InvalidPart" fs] S = .ok (.str "V BadValue InvalidPart") S := by
  rw [hk "InvalidPart" fs S (gX "InvalidPart") (by decide +kernel), show kinS (gX "InvalidPart") = ("V BadValue InvalidPart" : Str) from by decide +kernel]
theorem kin_InvalidRow (hk : Kin cal) {fs : List (Str × D)} : cal 548 [.exv "InvalidRow" fs] S = .ok (.str "V BadValue InvalidRow") S := by
  rw [hk "InvalidRow" fs S (gX "InvalidRow") (by decide +kernel), show kinS (gX "InvalidRow") = ("V BadValue InvalidRow" : Str) from by decide +kernel]
theorem kin_InvalidName (hk : Kin cal) {fs : List (Str × D)} : cal 548 [.exv "InvalidName" fs] S = .ok (.str "V BadValue InvalidName") S := by
  rw [hk "InvalidName" fs S (gX "InvalidName") (by decide +kernel), show kinS (gX "InvalidName") = ("V BadValue InvalidName" : Str) from by decide +kernel]
theorem kin_InvalidIndex (hk : Kin cal) {fs : List (Str × D)} : cal 548 [.exv "InvalidIndex" fs] S = .ok (.str "V BadValue InvalidIndex") S := by
  rw [hk "InvalidIndex" fs S (gX "InvalidIndex") (by decide +kernel), show kinS (gX "InvalidIndex") = ("V BadValue InvalidIndex" : Str) from by decide +kernel]
theorem kin_InvalidClaim (hk : Kin cal) {fs : List (Str × D)} : cal 548 [.exv "InvalidClaim" fs] S = .ok (.str "V BadValue InvalidClaim") S := by
  rw [hk "InvalidClaim" fs S (gX "InvalidClaim") (by decide +kernel), show kinS (gX "InvalidClaim") = ("V BadValue InvalidClaim" : Str) from by decide +kernel]
theorem kin_InvalidCommand (hk : Kin cal) {fs : List (Str × D)} : cal 548 [.exv "InvalidCommand" fs] S = .ok (.str "V BadValue InvalidCommand") S := by
  rw [hk "InvalidCommand" fs S (gX "InvalidCommand") (by decide +kernel), show kinS (gX "InvalidCommand") = ("V BadValue InvalidCommand" : Str) from by decide +kernel]
theorem kin_NotATable (hk : Kin cal) {fs : List (Str × D)} : cal 548 [.exv "NotATable" fs] S = .ok (.str "V BadValue NotATable") S := by
  rw [hk "NotATable" fs S (gX "NotATable") (by decide +kernel), show kinS (gX "NotATable") = ("V BadValue NotATable" : Str) from by decide +kernel]
theorem kin_InvalidPrices (hk : Kin cal) {fs : List (Str × D)} : cal 548 [.exv "InvalidPrices" fs] S = .ok (.str "V BadValue InvalidPrices") S := by
  rw [hk "InvalidPrices" fs S (gX "InvalidPrices") (by decide +kernel), show kinS (gX "InvalidPrices") = ("V BadValue InvalidPrices" : Str) from by decide +kernel]
theorem kin_InvalidGains (hk : Kin cal) {fs : List (Str × D)} : cal 548 [.exv "InvalidGains" fs] S = .ok (.str "V BadValue InvalidGains") S := by
  rw [hk "InvalidGains" fs S (gX "InvalidGains") (by decide +kernel), show kinS (gX "InvalidGains") = ("V BadValue InvalidGains" : Str) from by decide +kernel]
theorem kin_InvalidShares (hk : Kin cal) {fs : List (Str × D)} : cal 548 [.exv "InvalidShares" fs] S = .ok (.str "V BadValue InvalidShares") S := by
  rw [hk "InvalidShares" fs S (gX "InvalidShares") (by decide +kernel), show kinS (gX "InvalidShares") = ("V BadValue InvalidShares" : Str) from by decide +kernel]
theorem kin_InvalidStretches (hk : Kin cal) {fs : List (Str × D)} : cal 548 [.exv "InvalidStretches" fs] S = .ok (.str "V BadValue InvalidStretches") S := by
  rw [hk "InvalidStretches" fs S (gX "InvalidStretches") (by decide +kernel), show kinS (gX "InvalidStretches") = ("V BadValue InvalidStretches" : Str) from by decide +kernel]
theorem kin_UnknownName (hk : Kin cal) {fs : List (Str × D)} : cal 548 [.exv "UnknownName" fs] S = .ok (.str "L BadName UnknownName") S := by
  rw [hk "UnknownName" fs S (gX "UnknownName") (by decide +kernel), show kinS (gX "UnknownName") = ("L BadName UnknownName" : Str) from by decide +kernel]
theorem kin_InUse (hk : Kin cal) {fs : List (Str × D)} : cal 548 [.exv "InUse" fs] S = .ok (.str "L BadName InUse") S := by
  rw [hk "InUse" fs S (gX "InUse") (by decide +kernel), show kinS (gX "InUse") = ("L BadName InUse" : Str) from by decide +kernel]
theorem kin_TooMany (hk : Kin cal) {fs : List (Str × D)} : cal 548 [.exv "TooMany" fs] S = .ok (.str "A NoAnswer TooMany") S := by
  rw [hk "TooMany" fs S (gX "TooMany") (by decide +kernel), show kinS (gX "TooMany") = ("A NoAnswer TooMany" : Str) from by decide +kernel]
theorem kin_OddRing (hk : Kin cal) {fs : List (Str × D)} : cal 548 [.exv "OddRing" fs] S = .ok (.str "A NoAnswer OddRing") S := by
  rw [hk "OddRing" fs S (gX "OddRing") (by decide +kernel), show kinS (gX "OddRing") = ("A NoAnswer OddRing" : Str) from by decide +kernel]
theorem kin_Empty (hk : Kin cal) {fs : List (Str × D)} : cal 548 [.exv "Empty" fs] S = .ok (.str "A NoAnswer Empty") S := by
  rw [hk "Empty" fs S (gX "Empty") (by decide +kernel), show kinS (gX "Empty") = ("A NoAnswer Empty" : Str) from by decide +kernel]
theorem kin_NotThePrice (hk : Kin cal) {fs : List (Str × D)} : cal 548 [.exv "NotThePrice" fs] S = .ok (.str "A NoAnswer NotThePrice") S := by
  rw [hk "NotThePrice" fs S (gX "NotThePrice") (by decide +kernel), show kinS (gX "NotThePrice") = ("A NoAnswer NotThePrice" : Str) from by decide +kernel]
theorem kin_NothingToUndo (hk : Kin cal) {fs : List (Str × D)} : cal 548 [.exv "NothingToUndo" fs] S = .ok (.str "A NoAnswer NothingToUndo") S := by
  rw [hk "NothingToUndo" fs S (gX "NothingToUndo") (by decide +kernel), show kinS (gX "NothingToUndo") = ("A NoAnswer NothingToUndo" : Str) from by decide +kernel]
theorem kin_Broken (hk : Kin cal) {fs : List (Str × D)} : cal 548 [.exv "Broken" fs] S = .ok (.str "A NoAnswer Broken") S := by
  rw [hk "Broken" fs S (gX "Broken") (by decide +kernel), show kinS (gX "Broken") = ("A NoAnswer Broken" : Str) from by decide +kernel]
def rowsX : List (Str × Str) := [("InvalidText", "given"), ("InvalidNumber", "given"), ("InvalidLot", "given"), ("InvalidPart", "given"), ("InvalidRow", "given"), ("InvalidName", "given"), ("InvalidIndex", "given"), ("InvalidClaim", "given"), ("InvalidCommand", "given"), ("NotATable", "given"), ("InvalidPrices", "index"), ("InvalidGains", "index"), ("InvalidShares", "index"), ("InvalidStretches", "index"), ("UnknownName", "given"), ("InUse", "index"), ("TooMany", "limit"), ("OddRing", "ring")]
theorem tale_row (hk : Kin cal) : ∀ p ∈ rowsX, funM 3 1 (b__law_tale_v2 cal) [.exv p.1 [(p.2, v)]] S = .ok (.tup [.str p.1, v]) S := by
  intro p hp
  simp only [rowsX, List.mem_cons, List.not_mem_nil, or_false] at hp
  rcases hp with rfl | rfl | rfl | rfl | rfl | rfl | rfl | rfl | rfl | rfl | rfl | rfl | rfl | rfl | rfl | rfl | rfl | rfl
  · exact tale_InvalidText (kin_InvalidText hk) rfl (by decide +kernel)
  · exact tale_InvalidNumber (kin_InvalidNumber hk) rfl (by decide +kernel)
  · exact tale_InvalidLot (kin_InvalidLot hk) rfl (by decide +kernel)
  · exact tale_InvalidPart (kin_InvalidPart hk) rfl (by decide +kernel)
  · exact tale_InvalidRow (kin_InvalidRow hk) rfl (by decide +kernel)
  · exact tale_InvalidName (kin_InvalidName hk) rfl (by decide +kernel)
  · exact tale_InvalidIndex (kin_InvalidIndex hk) rfl (by decide +kernel)
  · exact tale_InvalidClaim (kin_InvalidClaim hk) rfl (by decide +kernel)
  · exact tale_InvalidCommand (kin_InvalidCommand hk) rfl (by decide +kernel)
  · exact tale_NotATable (kin_NotATable hk) rfl (by decide +kernel)
  · exact tale_InvalidPrices (kin_InvalidPrices hk) rfl (by decide +kernel)
  · exact tale_InvalidGains (kin_InvalidGains hk) rfl (by decide +kernel)
  · exact tale_InvalidShares (kin_InvalidShares hk) rfl (by decide +kernel)
  · exact tale_InvalidStretches (kin_InvalidStretches hk) rfl (by decide +kernel)
  · exact tale_UnknownName (kin_UnknownName hk) rfl (by decide +kernel)
  · exact tale_InUse (kin_InUse hk) rfl (by decide +kernel)
  · exact tale_TooMany (kin_TooMany hk) rfl (by decide +kernel)
  · exact tale_OddRing (kin_OddRing hk) rfl (by decide +kernel)
theorem tale0_Empty (hk : Kin cal) : funM 3 1 (b__law_tale_v2 cal) [.exv "Empty" []] S = .ok (.tup [.str "Empty", .str ""]) S := tale_Empty (kin_Empty hk)
theorem tale0_NotThePrice (hk : Kin cal) : funM 3 1 (b__law_tale_v2 cal) [.exv "NotThePrice" []] S = .ok (.tup [.str "NotThePrice", .str ""]) S := tale_NotThePrice (kin_NotThePrice hk)
theorem tale0_NothingToUndo (hk : Kin cal) : funM 3 1 (b__law_tale_v2 cal) [.exv "NothingToUndo" []] S = .ok (.tup [.str "NothingToUndo", .str ""]) S := tale_NothingToUndo (kin_NothingToUndo hk)
theorem tale_B (hk : Kin cal) : funM 3 1 (b__law_tale_v2 cal) [.exv "Broken" [("shown", w), ("index", v)]] S = .ok (.tup [.str "Broken", .tup [v, w]]) S := tale_Broken (kin_Broken hk) rfl (by decide +kernel) rfl (by decide +kernel)
def xE (v : D) (p : Str × Str) : D := .tup [.exv p.1 [(p.2, v)], .str p.1]
abbrev xM (c f : Str) : ME := eTup (aCons (eCal (mkXv c [f]) (aCons (eVar 0) aNil)) (aCons (eC (.str c)) aNil))
theorem x_ev {δ : En} {c f : Str} (h : δ[0]? = some (some v)) (nv : v ≠ .slf) : xM c f δ S = .ok (xE v (c, f)) S := eTup_ok (aCons_ok (eCal_ok (aCons_ok (eVarR h nv) rfl) rfl) (aCons_ok rfl rfl)) (sm rfl)
theorem x0 {c1 f1 c2 f2 : Str} (nv : v ≠ .slf) : sAsg (eLst (aCons (xM c1 f1) (aCons (xM c2 f2) aNil))) (gNm 1) [some v, none] S = .nx [some v, some (.lst ([(c1, f1), (c2, f2)].map (xE v)))] S :=
  sAsg_ok (eLst_ok (aCons_ok (x_ev rfl nv) (aCons_ok (x_ev rfl nv) rfl)) (sm rfl)) rfl
theorem xe2 {A : List (Str × Str)} {c1 f1 c2 f2 : Str} (nv : v ≠ .slf) (hl : Nat.ble A.length 100 = true) : eOp pAdd (eVar 1) (eLst (aCons (xM c1 f1) (aCons (xM c2 f2) aNil))) [some v, some (.lst (A.map (xE v)))] S = .ok (.lst ((A ++ [(c1, f1), (c2, f2)]).map (xE v))) S := by
  have := Nat.le_of_ble_eq_true hl
  rw [List.map_append]
  exact eOp_ok rfl (eLst_ok (aCons_ok (x_ev rfl nv) (aCons_ok (x_ev rfl nv) rfl)) (sm rfl)) (add_ll (Sp.small (by simp; omega)))
theorem x2 {A : List (Str × Str)} {c1 f1 c2 f2 : Str} (nv : v ≠ .slf) (hl : Nat.ble A.length 100 = true) : sAsg (eOp pAdd (eVar 1) (eLst (aCons (xM c1 f1) (aCons (xM c2 f2) aNil)))) (gNm 1) [some v, some (.lst (A.map (xE v)))] S = .nx [some v, some (.lst ((A ++ [(c1, f1), (c2, f2)]).map (xE v)))] S := sAsg_ok (xe2 nv hl) rfl
theorem x1 {A : List (Str × Str)} {c1 f1 : Str} (nv : v ≠ .slf) (hl : Nat.ble A.length 100 = true) : sAsg (eOp pAdd (eVar 1) (eLst (aCons (xM c1 f1) aNil))) (gNm 1) [some v, some (.lst (A.map (xE v)))] S = .nx [some v, some (.lst ((A ++ [(c1, f1)]).map (xE v)))] S := by
  have := Nat.le_of_ble_eq_true hl
  rw [List.map_append]
  exact sAsg_ok (eOp_ok rfl (eLst_ok (aCons_ok (x_ev rfl nv) rfl) (sm rfl)) (add_ll (Sp.small (by simp; omega)))) rfl
theorem place_ev (nv : v ≠ .slf) : funM 2 1 (b__law_by_place cal) [v] S = .ok (.lst (rowsX.map (xE v))) S := by
  unfold b__law_by_place
  exact funM_rt rfl (sSeq_nx (x0 nv) (sSeq_nx (x2 nv rfl) (sSeq_nx (x2 nv rfl) (sSeq_nx (x2 nv rfl) (sSeq_nx (x2 nv rfl) (sSeq_nx (x2 nv rfl) (sSeq_nx (x2 nv rfl) (sSeq_nx (x2 nv rfl) (sRet_ok (xe2 nv rfl))))))))))
theorem name_ev (nv : v ≠ .slf) : funM 2 1 (b__law_by_name cal) [v] S = .ok (.lst (rowsX.map (xE v))) S := by
  unfold b__law_by_name
  exact funM_rt rfl (sSeq_nx (x0 nv) (sSeq_nx (x2 nv rfl) (sSeq_nx (x2 nv rfl) (sSeq_nx (x2 nv rfl) (sSeq_nx (x2 nv rfl) (sSeq_nx (x2 nv rfl) (sSeq_nx (x1 nv rfl) (sSeq_nx (x1 nv rfl) (sSeq_nx (x2 nv rfl) (sRet_ok (xe2 nv rfl)))))))))))
end Ek
namespace Pp
open PySem L2 Ev Bd Sp Wp Rg
abbrev JB := Nat → List D → Prop
end Pp
namespace Pp
open PySem PySem.W PyProof.Rows L2 Ev Bd Sp Wp Rg
structure Shw (p : PyData) (n dp : Nat) : Prop where
  sh : p.showable = true
  ln : p.shown.length ≤ n
  dp : p.depth ≤ dp
theorem Shw.mono {p : PyData} {n n' d d' : Nat} (h : Shw p n d) (hn : n ≤ n') (hd : d ≤ d') : Shw p n' d' := ⟨h.sh, Nat.le_trans h.ln hn, Nat.le_trans h.dp hd⟩
theorem shw_int {i : Int} (h : i.natAbs < 10 ^ 40) : Shw (.int i) 41 0 := by
  refine ⟨?_, ?_, by simp [PyData.depth]⟩
  · simp only [PyData.showable, decide_eq_true_eq]
    by_cases h0 : i.natAbs = 0
    · rw [h0]; decide
    · have : i.natAbs.log2 < 133 := (Nat.log2_lt h0).mpr (Nat.lt_of_lt_of_le h (by decide))
      omega
  · have e := int_text_length_le10 (k := 40) (by decide) h
    show (Str.ofString (toString i)).length ≤ 41
    rw [PySem.ofString_length]; exact e
theorem shw_all {n d : Nat} : ∀ {ps : List PyData}, (∀ p ∈ ps, Shw p n d) → PyData.showableAll ps = true ∧ ((PyData.shownAll ps).map (·.length)).sum ≤ n * ps.length ∧ PyData.depthAll ps ≤ d
  | [], _ => ⟨rfl, by simp [PyData.shownAll], Nat.zero_le _⟩
  | p :: ps, h => by
    obtain ⟨a, b, c⟩ := shw_all (n := n) (d := d) fun q hq => h q (List.mem_cons_of_mem _ hq)
    have f := h p (List.mem_cons_self ..)
    have f1 := f.ln
    have f2 := f.dp
    refine ⟨?_, ?_, ?_⟩
    · simp only [PyData.showableAll, f.sh, a, Bool.and_self]
    · simp only [PyData.shownAll, List.map_cons, List.sum_cons, List.length_cons, Nat.mul_succ]; omega
    · simp only [PyData.depthAll]; omega
theorem shw_tuple {ps : List PyData} {n d k : Nat} (h : ∀ p ∈ ps, Shw p n d) (hn : ps.length ≤ k) : Shw (.tuple ps) ((n + 2) * k + 3) (d + 1) := by
  obtain ⟨a, b, c⟩ := shw_all h
  have e := tupleText_len_le (PyData.shownAll ps)
  rw [PyData.shownAll_length] at e
  have e2 := Nat.mul_le_mul_left (n + 2) hn
  rw [Nat.add_mul] at e2
  refine ⟨by simp only [PyData.showable, a], ?_, ?_⟩
  · simp only [PyData.shown]; omega
  · simp only [PyData.depth]; omega
theorem shw_list {ps : List PyData} {n d k : Nat} (h : ∀ p ∈ ps, Shw p n d) (hn : ps.length ≤ k) : Shw (.list ps) ((n + 2) * k + 3) (d + 1) := by
  obtain ⟨a, b, c⟩ := shw_all h
  have e := listText_len_le (PyData.shownAll ps)
  rw [PyData.shownAll_length] at e
  have e2 := Nat.mul_le_mul_left (n + 2) hn
  rw [Nat.add_mul] at e2
  refine ⟨by simp only [PyData.showable, a], ?_, ?_⟩
  · simp only [PyData.shown]; omega
  · simp only [PyData.depth]; omega
end Pp
namespace Xr
open PySem L2 Ev Bd Sp Rg Wp Ty Xm
local macro_rules | `(tactic| walk_at "wp1e") => `(tactic| first | with_reducible refine we_c ?_ | with_reducible refine we_op ?_ | with_reducible refine we_un ?_ | with_reducible refine we_callV ?_ | with_reducible refine we_cons ?_ | with_reducible refine we_nil ?_ | with_reducible refine we_asB ?_ | with_reducible refine we_tru ?_ | with_reducible refine we_and ?_ | with_reducible refine we_or ?_ | with_reducible refine we_not ?_ | with_reducible refine we_if ?_ | with_reducible refine wt_and ?_ | with_reducible refine wt_or ?_ | with_reducible refine wt_not ?_ | with_reducible refine wt_yes ?_ | with_reducible refine we_chain ?_ | with_reducible refine we_fld ?_ | with_reducible refine we_isi ?_ | with_reducible refine we_mb ?_ | with_reducible refine we_frz ?_ | with_reducible refine we_cut ?_ | with_reducible refine we_oN ?_ | with_reducible refine we_oS ?_ | with_reducible refine we_any ?_ | with_reducible refine we_star ?_ | with_reducible refine we_lc ?_ | with_reducible refine we_R1 ?_ | with_reducible refine we_R2 ?_ | with_reducible refine we_rg ?_ | with_reducible refine we_enu ?_ | with_reducible refine we_zip ?_ | with_reducible refine we_tup ?_ | with_reducible refine we_lst ?_ | with_reducible refine we_lstC ?_ | with_reducible refine we_cal ?_ | with_reducible refine wg_nm ?_ | with_reducible refine wg_nl ?_ | with_reducible refine wg_cs ?_ | ((with_reducible refine wg_istp ?_); refine wg_tp rfl ?_) | with_reducible refine wg_sb ?_)
local macro_rules | `(tactic| walk_at "noslf") => `(tactic| first | (intro h; cases h; done) | assumption | nofun)
local macro_rules | `(tactic| walk_at "wp2") => `(tactic| first | ((with_reducible refine we_isv ?_); refine we_var rfl (by walk_at "noslf") ?_) | with_reducible refine br_t ?_ | with_reducible refine br_f ?_ | refine ⟨_, rfl, br_t ?_⟩ | refine ⟨_, rfl, br_f ?_⟩)
local macro_rules | `(tactic| walk_at "wpx") => `(tactic| first | with_reducible refine x_bl ?_ | with_reducible refine t_bl ?_ | with_reducible refine t_lst ?_ | with_reducible refine t_tup ?_ | with_reducible refine t_int ?_ | with_reducible refine t_non ?_ | with_reducible refine a_lst ?_ | with_reducible refine a_tup ?_ | with_reducible refine s_lst ?_ | with_reducible refine s_tup ?_ | with_reducible refine br_not ?_ | with_reducible refine we_lft pAdd_ii ?_ | with_reducible refine we_lft pSub_ii ?_ | with_reducible refine we_lft pLt_ii ?_ | with_reducible refine we_lft pLe_ii ?_ | with_reducible refine we_lft pGt_ii ?_ | with_reducible refine we_lft pGe_ii ?_ | with_reducible refine we_lft pEq_ii ?_ | with_reducible refine we_lft pNe_ii ?_ | with_reducible refine we_lft len_lI ?_ | with_reducible refine we_lft len_tI ?_ | with_reducible refine we_lft len_rL ?_ | with_reducible refine we_lft len_rT ?_ | with_reducible refine we_lft len_lo ?_ | with_reducible refine we_lft pLen_lst ?_ | with_reducible refine we_lft pLen_tup ?_ | with_reducible refine we_lft pInt_i ?_ | with_reducible refine we_lft pInt_b ?_ | with_reducible refine we_lft all_ok ?_ | with_reducible refine we_lft any_ok ?_ | with_reducible refine we_lft sum_lI ?_ | with_reducible refine we_dT ?_ | with_reducible refine we_lft neg_i ?_ | with_reducible refine x_int ?_ | with_reducible refine len_nil2 ?_ | ((with_reducible refine len_isl ?_); refine len_lit rfl ?_))
local macro_rules | `(tactic| walk_at "wpe") => `(tactic| repeat (first | walk_at "wp1e" | walk_at "wp2" | walk_at "wpx"))
def Pre (L S : Store) : Prop := L.length ≤ S.length ∧ ∀ j, j < L.length → S[j]? = L[j]?
theorem tr_new {L S : Store} {a b c : Int} (h : Pre L S) (ha : 0 ≤ a) : Tl.Tr L S.length (S ++ [some (.lst [.int a, .int b, .int c])]) :=
  ⟨⟨a, b, c, by simp, ha⟩, h.1, fun j hj => by rw [List.getElem?_append_left (by have := h.1; omega)]; exact h.2 j hj⟩
theorem lawL_ev {L : Store} {m : Int} {r e : List D → M D} {ns : List Int} (hm : 2 ≤ m ∧ m ≤ 20) (hr : ∀ (k : Nat) S, k ≤ 1000 → Pre L S → ∃ S', e [.scr ns, .int k] S = .ok (.ref S.length) S' ∧ Tl.Tr L S.length S') (hg : ∀ t S, Tl.Tr L t S → WE (r [.ref t]) S fun d S' => d = .bl true ∧ Pre L S') {S : Store} (hS : Pre L S) : ∃ S', funM 2 1 (Tl.lawM m r e) [.scr ns] S = .ok (.bl true) S' := by
  have key : WE (funM 2 1 (Tl.lawM m r e) [.scr ns]) S fun d _ => d = .bl true := by
    unfold Tl.lawM
    refine we_fun rfl ?_
    show WS (sRet _ [some (.scr ns), none] S) _
    with_reducible refine ws_ret ?_
    walk_at "wpe"
    refine we_lft pLen_scr ?_
    walk_at "wpe"
    refine we_lft (z := .int (if m < ns.length then m else ns.length)) (S1 := S) rfl ?_
    walk_at "wpe"
    obtain ⟨n, hn, hn5⟩ : ∃ n : Nat, (if (if m < ns.length then m else (ns.length : Int)) > 2 then (if m < ns.length then m else (ns.length : Int)) else 2) = n ∧ n ≤ 20 := by
      by_cases h : m < ns.length
      · rw [if_pos h]
        by_cases h2 : m > 2
        · rw [if_pos h2]; exact ⟨m.toNat, by omega, by omega⟩
        · rw [if_neg h2]; exact ⟨2, rfl, by omega⟩
      · rw [if_neg h]
        by_cases h2 : (ns.length : Int) > 2
        · rw [if_pos h2]; exact ⟨ns.length, rfl, by omega⟩
        · rw [if_neg h2]; exact ⟨2, rfl, by omega⟩
    refine we_lft (z := .int n) (S1 := S) (by rw [← hn]; rfl) ?_
    walk_at "wpe"
    refine ⟨n, rfl, by omega, ?_⟩
    refine we_imp (we_loopC (fun k acc S' => acc = List.replicate k (.bl true) ∧ Pre L S') ?_ ⟨rfl, hS⟩) ?_
    · rintro k hk acc S' ⟨rfl, hp⟩
      rw [rng_len] at hk
      rw [rng_get]
      refine ⟨_, rfl, ?_⟩
      walk_at "wpe"
      obtain ⟨S1, e1, t1⟩ := hr k S' (by omega) hp
      refine we_ok e1 ?_
      walk_at "wpe"
      refine we_imp (hg S'.length S1 t1) ?_
      rintro d S2 ⟨rfl, p2⟩
      refine ⟨by rw [List.length_replicate]; exact Nat.lt_of_lt_of_le (show k < 1000000 by omega) (Sp.small (Nat.le_refl _)), ?_, p2⟩
      rw [List.replicate_succ']
    · rintro acc S2 ⟨rfl, _⟩
      rw [rng_len]
      refine we_newL (by rw [List.length_replicate]; exact Sp.small (by omega)) ?_
      walk_at "wpe"
      have all1 : pAll true [.lst (List.replicate n (.bl true))] S2 = some (.bl true, S2) := by
        rw [show List.replicate n (D.bl true) = (List.replicate n true).map D.bl by simp, all_ok]
        simp
      exact we_lft all1 rfl
  obtain ⟨d, S', e, rfl⟩ := key
  exact ⟨S', e⟩
end Xr
namespace Oe
open PySem L2 Ev Bd Sp Rg Wp Pp Xm Xr
theorem ne_of {x y : D} {px py : PyData} {S : Store} (h1 : toPS S x = some px) (h2 : toPS S y = some py) (d1 : px.depth ≤ 60) : pNe x y S = some (.bl (!PyData.eqv px py), S) := by
  simp only [pNe, eqD, h1, h2, d1, if_true, Option.map_some]
end Oe
namespace Bo
open PySem L2 Ev Bd Sp Rg Wp Pp Xm Xr
abbrev TB := Nat × Nat × Rw
end Bo
namespace Dp
open PySem L2 Ev Bd Sp Rg Wp Pp Xm Xr Bo
abbrev Pg := List (Str × TB)
def hasP (p : Pg) (x : Str) : Bool := p.any fun q => decide (q.1 = x)
end Dp
namespace Sx
open PySem L2 Ev Sp
structure SmS (n : Nat) (s : Str) : Prop where
  len : s.length ≤ n
  ch : ∀ c ∈ TL.tl s, c < 256
theorem SmS.mono {n m : Nat} {s : Str} (h : SmS n s) (hm : n ≤ m) : SmS m s := ⟨Nat.le_trans h.len hm, h.ch⟩
def lns (s : Str) : List Str := Txt.split s "\n"
end Sx
namespace Xr
open PySem L2 Ev Bd Sp Rg Wp Ty Xm
open Pp (Shw shw_int shw_all shw_tuple shw_list)
theorem shw_s {s : Str} (h : Nat.ble (PyData.str s).shown.length 41 = true) (h2 : (PyData.str s).showable = true) : Shw (.str s) 41 0 := ⟨h2, Nat.le_of_ble_eq_true h, by simp [PyData.depth]⟩
end Xr
namespace Sx
open PySem L2 Ev Bd Sp Rg Wp Ty Xr Pp
section
variable {cal : Nat → List D → M D} {S : Store}
theorem shw_sm {n : Nat} {s : Str} (h : SmS n s) : Shw (.str s) (10 * n + 2) 0 := by
  refine ⟨rfl, ?_, by simp [PyData.depth]⟩
  have := StrLaws.reprText_len s fun c hc => by have := h.ch c hc; omega
  have hl := h.len
  show (reprText s).length ≤ _
  omega
end
end Sx
namespace Sx
open PySem L2 Ev Bd Sp Rg Wp Ty Xr Pp Tl
section
variable {cal : Nat → List D → M D} {S : Store} {L : Store}
theorem pow31 : pPow (.int 10) (.int 31) S = some (.int 10000000000000000000000000000000, S) := by
  have h : decide ((0 : Int) ≤ 31 ∧ (31 : Int) ≤ 1000000 ∧ (10 : Int).natAbs < 2 ^ 64) = true := by decide
  simp only [pPow, pInt2, h, if_true]
  rfl
end
end Sx
namespace Rg
open PySem PySem.W L2 Ev Bd Sp Wp
mutual
theorem toPX_keep {S S' : Store} (k : Keep S S') : ∀ (d : D) (p : PyData), toPX S d = some p → toPX S' d = some p
  | .non, _, e => e
  | .bl _, _, e => e
  | .int _, _, e => e
  | .str _, _, e => e
  | .tup xs, p, e => by
    simp only [toPX] at e ⊢
    obtain ⟨ps, e1, rfl⟩ := Option.map_eq_some_iff.mp e
    rw [toPXs_keep k xs ps e1]; rfl
  | .lst xs, p, e => by
    simp only [toPX] at e ⊢
    obtain ⟨ps, e1, rfl⟩ := Option.map_eq_some_iff.mp e
    rw [toPXs_keep k xs ps e1]; rfl
  | .ref i, p, e => by
    simp only [toPX] at e ⊢
    have hi : i < S.length := by
      by_cases hi : i < S.length
      · exact hi
      · rw [List.getElem?_eq_none (by omega)] at e; cases e
    rw [k.2 i hi]
    exact e
  | .ins _ _, _, e => e
  | .fn _, _, e => e
  | .scr _, _, e => e
  | .slf, _, e => e
  | .dic _, _, e => e
  | .dlk _, _, e => e
  | .tpx _, _, e => e
  | .exv _ _, _, e => e
theorem toPXs_keep {S S' : Store} (k : Keep S S') : ∀ (xs : List D) (ps : List PyData), toPXs S xs = some ps → toPXs S' xs = some ps
  | [], _, e => e
  | x :: xs, ps, e => by
    simp only [toPXs] at e ⊢
    obtain ⟨p1, e1, e2⟩ := Option.bind_eq_some_iff.mp e
    obtain ⟨p2, e3, rfl⟩ := Option.map_eq_some_iff.mp e2
    rw [toPX_keep k x p1 e1, toPXs_keep k xs p2 e3]; rfl
end
end Rg
namespace Sw
open PySem PySem.W PyProof.Rows L2 Ev Bd Sp Rg Wp Ty Xr Pp Sx
abbrev Ti := Str × Str
end Sw
namespace Tw
open PySem L2 Ev Bd Sp Rg Wp Ty Xr Pp Sx Sw
abbrev TrT := List (Str × Option Str)
end Tw
namespace Dp
open PySem L2 Ev Bd Sp Rg Wp Ty
def TrF (B : Store) (t : Nat) (S : Store) : Prop := (∃ a b c : Int, S[t]? = some (some (.lst [.int a, .int b, .int c])) ∧ 0 ≤ a) ∧ t < B.length ∧ ∀ j, j < B.length → j ≠ t → S[j]? = B[j]?
theorem trF_lt {B : Store} {t : Nat} {S : Store} (h : TrF B t S) : t < S.length := by
  obtain ⟨⟨a, b, c, h1, _⟩, _⟩ := h
  exact (List.getElem?_eq_some_iff.mp h1).1
theorem trF_len {B : Store} {t : Nat} {S : Store} (h : TrF B t S) : B.length ≤ S.length := by
  have h1 := trF_lt h
  obtain ⟨_, h2, h3⟩ := h
  by_cases e : B.length - 1 = t
  · omega
  · have := h3 (B.length - 1) (by omega) e
    rw [List.getElem?_eq_getElem (show B.length - 1 < B.length by omega)] at this
    have := (List.getElem?_eq_some_iff.mp this).1
    omega
theorem trF_app {B : Store} {t : Nat} {S X : Store} (h : TrF B t S) : TrF B t (S ++ X) := by
  have hl := trF_len h
  have ht := trF_lt h
  obtain ⟨⟨a, b, c, h1, h2⟩, h3, h4⟩ := h
  exact ⟨⟨a, b, c, by rw [List.getElem?_append_left ht]; exact h1, h2⟩, h3, fun j hj hn => by rw [List.getElem?_append_left (by omega)]; exact h4 j hj hn⟩
theorem trF_tr {B S : Store} {t : Nat} (h : TrF B t S) : Tl.Tr [] t S := ⟨h.1, Nat.zero_le _, fun j hj => by simp at hj⟩
structure TakG (dr : List D → M D) : Prop where
  tr : ∀ {B : Store} {t : Nat} {S : Store} {m : Int}, TrF B t S → 0 < m → m < 1073741824 → ∃ (f : Nat) (x : Cell), dr [.ref t, .int m] S = .ok (.int f) (S.set t (some x)) ∧ (f : Int) < m ∧ TrF B t (S.set t (some x))
theorem takG {dr : List D → M D} (h : Tl.TakF [] dr) : TakG dr := ⟨fun a h0 h1 => by
  obtain ⟨f, x, e, hf, q⟩ := h.tr (trF_tr a) h0 h1
  exact ⟨f, x, e, hf, q.1, a.2.1, fun j hj hn => by rw [List.getElem?_set_ne (fun z => hn z.symm)]; exact a.2.2 j hj hn⟩⟩
end Dp
namespace Dp
open PySem L2 Ev Bd Sp Rg Wp Ty Bo
def Tray (t : Nat) (S : Store) : Prop := ∃ a b c : Int, S[t]? = some (some (.lst [.int a, .int b, .int c])) ∧ 0 ≤ a
theorem Tray.f {t : Nat} {S : Store} (h : Tray t S) : TrF S t S := ⟨h, by
  obtain ⟨a, b, c, h1, _⟩ := h
  exact (List.getElem?_eq_some_iff.mp h1).1, fun _ _ _ => rfl⟩
end Dp
namespace Dq
open PySem L2 Ev Bd Sp Rg Wp Pp Oe Bo Dp
inductive Cl where
  | even (x : Str)
  | hues (x : Str) (k : Nat)
  | cover (x : Str) (ps : List Int) (n : Int)
  | pack (x : Str) (ps : List Int) (n : Int)
end Dq
namespace Dq
open PySem L2 Ev Bd Sp Rg Wp Pp Oe Bo Dp Xm Xr
abbrev Page := Pg × List Cl
end Dq
namespace Co
open PySem L2 Ev Bd Sp Rg Wp Pp Dp Xm Xr Dq Sx Sw
def hd (c : Str) : Str := (lns c).getD 0 ""
end Co
namespace Co
open PySem L2 Ev Bd Sp Rg Wp Pp Oe Bo Dp Xm Xr Dq Sx Sw
section
variable {x y z u s : Str} {n : Nat} {S : Store} {cal : Nat → List D → M D} {q : Page} {ps : List Page}
theorem hz {t t' : TB} (h1 : x ≠ z) (h2 : y ≠ z) : hasP [(x, t), (y, t')] z = false := by simp [hasP, h1, h2]
end
end Co
namespace Co
open PySem L2 Ev Bd Sp Rg Wp Pp Oe Bo Dp Xm Xr Dq Sx Sw
local macro_rules | `(tactic| walk_at "wp1e") => `(tactic| first | with_reducible refine we_c ?_ | with_reducible refine we_op ?_ | with_reducible refine we_un ?_ | with_reducible refine we_callV ?_ | with_reducible refine we_cons ?_ | with_reducible refine we_nil ?_ | with_reducible refine we_asB ?_ | with_reducible refine we_tru ?_ | with_reducible refine we_and ?_ | with_reducible refine we_or ?_ | with_reducible refine we_not ?_ | with_reducible refine we_if ?_ | with_reducible refine wt_and ?_ | with_reducible refine wt_or ?_ | with_reducible refine wt_not ?_ | with_reducible refine wt_yes ?_ | with_reducible refine we_chain ?_ | with_reducible refine we_fld ?_ | with_reducible refine we_isi ?_ | with_reducible refine we_mb ?_ | with_reducible refine we_frz ?_ | with_reducible refine we_cut ?_ | with_reducible refine we_oN ?_ | with_reducible refine we_oS ?_ | with_reducible refine we_any ?_ | with_reducible refine we_star ?_ | with_reducible refine we_lc ?_ | with_reducible refine we_R1 ?_ | with_reducible refine we_R2 ?_ | with_reducible refine we_rg ?_ | with_reducible refine we_enu ?_ | with_reducible refine we_zip ?_ | with_reducible refine we_tup ?_ | with_reducible refine we_lst ?_ | with_reducible refine we_lstC ?_ | with_reducible refine we_cal ?_ | with_reducible refine wg_nm ?_ | with_reducible refine wg_nl ?_ | with_reducible refine wg_cs ?_ | ((with_reducible refine wg_istp ?_); refine wg_tp rfl ?_) | with_reducible refine wg_sb ?_)
local macro_rules | `(tactic| walk_at "wp1s") => `(tactic| first | with_reducible refine ws_seq ?_ | with_reducible refine ws_next ?_ | with_reducible refine ws_cnt ?_ | with_reducible refine ws_brk ?_ | with_reducible refine ws_retN ?_ | with_reducible refine ws_ret ?_ | with_reducible refine ws_expr ?_ | with_reducible refine ws_if ?_ | with_reducible refine ws_asg ?_ | with_reducible refine ws_par2 ?_ | with_reducible refine ws_par3 ?_ | with_reducible refine ws_for ?_)
local macro_rules | `(tactic| walk_at "wp1") => `(tactic| first | walk_at "wp1e" | walk_at "wp1s")
local macro_rules | `(tactic| walk_at "noslf") => `(tactic| first | (intro h; cases h; done) | assumption | nofun)
local macro_rules | `(tactic| walk_at "wp2") => `(tactic| first | ((with_reducible refine we_isv ?_); refine we_var rfl (by walk_at "noslf") ?_) | with_reducible refine br_t ?_ | with_reducible refine br_f ?_ | refine ⟨_, rfl, br_t ?_⟩ | refine ⟨_, rfl, br_f ?_⟩)
local macro_rules | `(tactic| walk_at "wpx") => `(tactic| first | with_reducible refine x_bl ?_ | with_reducible refine t_bl ?_ | with_reducible refine t_lst ?_ | with_reducible refine t_tup ?_ | with_reducible refine t_int ?_ | with_reducible refine t_non ?_ | with_reducible refine a_lst ?_ | with_reducible refine a_tup ?_ | with_reducible refine s_lst ?_ | with_reducible refine s_tup ?_ | with_reducible refine br_not ?_ | with_reducible refine we_lft pAdd_ii ?_ | with_reducible refine we_lft pSub_ii ?_ | with_reducible refine we_lft pLt_ii ?_ | with_reducible refine we_lft pLe_ii ?_ | with_reducible refine we_lft pGt_ii ?_ | with_reducible refine we_lft pGe_ii ?_ | with_reducible refine we_lft pEq_ii ?_ | with_reducible refine we_lft pNe_ii ?_ | with_reducible refine we_lft len_lI ?_ | with_reducible refine we_lft len_tI ?_ | with_reducible refine we_lft len_rL ?_ | with_reducible refine we_lft len_rT ?_ | with_reducible refine we_lft len_lo ?_ | with_reducible refine we_lft pLen_lst ?_ | with_reducible refine we_lft pLen_tup ?_ | with_reducible refine we_lft pInt_i ?_ | with_reducible refine we_lft pInt_b ?_ | with_reducible refine we_lft all_ok ?_ | with_reducible refine we_lft any_ok ?_ | with_reducible refine we_lft sum_lI ?_ | with_reducible refine we_dT ?_ | with_reducible refine we_lft neg_i ?_ | with_reducible refine x_int ?_ | with_reducible refine len_nil2 ?_ | ((with_reducible refine len_isl ?_); refine len_lit rfl ?_))
local macro_rules | `(tactic| walk_at "wsa") => `(tactic| (with_reducible refine ws_seq ?_; with_reducible refine ws_asg ?_))
local macro_rules | `(tactic| walk_at "wpe") => `(tactic| repeat (first | walk_at "wp1e" | walk_at "wp2" | walk_at "wpx"))
local macro_rules | `(tactic| walk_at "wps") => `(tactic| repeat (first | walk_at "wp1" | walk_at "wp2" | walk_at "wpx"))
theorem shwD {p : PyData} (h1 : p.showable = true) (h2 : Nat.ble p.shown.length 5000 = true) (h3 : Nat.ble p.depth 4 = true) : Shw p 5000 4 := ⟨h1, Nat.le_of_ble_eq_true h2, Nat.le_of_ble_eq_true h3⟩
def OdV (S : Store) (d : D) : Prop := (∃ s, d = .str s ∧ SmS 10 s) ∨ (d ≠ .slf ∧ ∃ T p, (∀ S, tyOf S d = some T) ∧ isiT isi T (.blt "str") = some false ∧ (∀ S, toPY S d = some p) ∧ Shw p 5000 4) ∨ ∃ i, d = .ref i ∧ (S[i]? = some (some (.dT [])) ∨ S[i]? = some (some (.dK [(.inl 1, .int 0)])))
theorem odv_ns {S : Store} {d : D} (h : OdV S d) : (∃ s, d = .str s ∧ SmS 10 s) ∨ (d ≠ .slf ∧ ∃ T p, tyOf S d = some T ∧ isiT isi T (.blt "str") = some false ∧ toPY S d = some p ∧ Shw p 5000 4) := by
  rcases h with h | ⟨h0, T, p, h1, h2, h3, h4⟩ | ⟨i, rfl, h⟩
  · exact .inl h
  · exact .inr ⟨h0, T, p, h1 S, h2, h3 S, h4⟩
  · right
    rcases h with h | h
    · exact ⟨nofun, .blt "dict", .dict [], by simp only [tyOf, h], by decide +kernel, by simp only [toPY, h], shwD (by decide +kernel) (by decide +kernel) (by decide +kernel)⟩
    · exact ⟨nofun, .blt "dict", .dict [(.int 1, .int 0)], by simp only [tyOf, h], by decide +kernel, by simp only [toPY, h], shwD (by decide +kernel) (by decide +kernel) (by decide +kernel)⟩
section
variable {cal : Nat → List D → M D} {S S1 : Store} {t n k : Nat} {x y z : Str} {q : Page}
theorem odd81_ev {B : Store} (hd : TakG (cal 3)) {t : Nat} (ht : TrF B t S) : WE (funM 2 1 (b__law_odd_v3 cal) [.ref t]) S fun d S' => OdV S' d ∧ TrF B t S' := by
  have hts := trF_lt ht
  unfold b__law_odd_v3
  refine we_fun rfl ?_
  show WS (sSeq _ _ [some (.ref t), none] S) _
  walk_at "wsa"
  walk_at "wpe"
  refine we_lft pow31 ?_
  with_reducible refine we_cons ?_
  with_reducible refine we_tup ?_
  with_reducible refine we_nil ?_
  refine ⟨small (by simp), ?_⟩
  with_reducible refine we_cons ?_
  with_reducible refine we_tup ?_
  with_reducible refine we_cons ?_
  with_reducible refine we_c ?_
  with_reducible refine we_nil ?_
  refine ⟨small (by simp), ?_⟩
  with_reducible refine we_cons ?_
  with_reducible refine we_tup ?_
  with_reducible refine we_cons ?_
  with_reducible refine we_tup ?_
  with_reducible refine we_cons ?_
  with_reducible refine we_c ?_
  with_reducible refine we_cons ?_
  with_reducible refine we_c ?_
  with_reducible refine we_nil ?_
  refine ⟨small (by simp), ?_⟩
  with_reducible refine we_nil ?_
  refine ⟨small (by simp), ?_⟩
  with_reducible refine we_cons ?_
  with_reducible refine we_lst ?_
  with_reducible refine we_nil ?_
  refine ⟨small (by simp), ?_⟩
  with_reducible refine we_cons ?_
  with_reducible refine we_lst ?_
  with_reducible refine we_cons ?_
  with_reducible refine we_c ?_
  with_reducible refine we_cons ?_
  with_reducible refine we_c ?_
  with_reducible refine we_nil ?_
  refine ⟨small (by simp), ?_⟩
  with_reducible refine we_cons ?_
  refine we_dT ?_
  with_reducible refine we_cons ?_
  refine we_lft (p := fun S => some (.ref S.length, S ++ [some (.dK [(.inl 1, .int 0)])])) rfl ?_
  with_reducible refine we_cons ?_
  with_reducible refine we_c ?_
  with_reducible refine we_nil ?_
  refine ⟨small (by simp), ?_⟩
  refine wg_nm ?_
  have a1 : TrF B t (S ++ [some (Cell.dT [])] ++ [some (Cell.dK [(Sum.inl 1, D.int 0)])]) := trF_app (trF_app ht)
  have c1 : (S ++ [some (Cell.dT [])] ++ [some (Cell.dK [(Sum.inl 1, D.int 0)])])[S.length]? = some (some (.dT [])) := by rw [List.append_assoc, List.getElem?_append_right (Nat.le_refl _)]; simp
  have c2 : (S ++ [some (Cell.dT [])] ++ [some (Cell.dK [(Sum.inl 1, D.int 0)])])[S.length + 1]? = some (some (.dK [(.inl 1, .int 0)])) := by rw [List.getElem?_append_right (by simp)]; simp
  rw [show (S ++ [some (Cell.dT [])]).length = S.length + 1 by simp]
  generalize S ++ [some (Cell.dT [])] ++ [some (Cell.dK [(Sum.inl 1, D.int 0)])] = S1 at a1 c1 c2 ⊢
  walk_at "wps"
  obtain ⟨f, x, ef, hf, q⟩ := hd.tr (m := 16) a1 (by omega) (by omega)
  refine we_ok ef ?_
  refine wl_ix (k := f) (by simp; omega) ?_
  have k1 : (S1.set t (some x))[S.length]? = some (some (.dT [])) := by rw [List.getElem?_set_ne (by omega)]; exact c1
  have k2 : (S1.set t (some x))[S.length + 1]? = some (some (.dK [(.inl 1, .int 0)])) := by rw [List.getElem?_set_ne (by omega)]; exact c2
  refine ⟨?_, q⟩
  generalize S1.set t (some x) = S2 at k1 k2 ⊢
  have hf' : f < 16 := by omega
  have t1 : tyOf S2 (.ref S.length) = some (.blt "dict") := by simp only [tyOf, k1]
  have t2 : tyOf S2 (.ref (S.length + 1)) = some (.blt "dict") := by simp only [tyOf, k2]
  match f, hf' with
  | 0, _ => exact .inr (.inl ⟨nofun, _, _, fun _ => rfl, by decide +kernel, fun _ => rfl, shwD (by decide +kernel) (by decide +kernel) (by decide +kernel)⟩)
  | 1, _ => exact .inr (.inl ⟨nofun, _, _, fun _ => rfl, by decide +kernel, fun _ => rfl, shwD (by decide +kernel) (by decide +kernel) (by decide +kernel)⟩)
  | 2, _ => exact .inr (.inl ⟨nofun, _, _, fun _ => rfl, by decide +kernel, fun _ => rfl, shwD (by decide +kernel) (by decide +kernel) (by decide +kernel)⟩)
  | 3, _ => exact .inl ⟨_, rfl, by decide +kernel, by decide +kernel⟩
  | 4, _ => exact .inl ⟨_, rfl, by decide +kernel, by decide +kernel⟩
  | 5, _ => exact .inr (.inl ⟨nofun, _, _, fun _ => rfl, by decide +kernel, fun _ => rfl, (shw_int (by decide)).mono (by omega) (by omega)⟩)
  | 6, _ => exact .inr (.inl ⟨nofun, _, _, fun _ => rfl, by decide +kernel, fun _ => rfl, (shw_int (by decide)).mono (by omega) (by omega)⟩)
  | 7, _ => exact .inr (.inl ⟨nofun, _, _, fun _ => rfl, by decide +kernel, fun _ => rfl, (shw_int (by decide)).mono (by omega) (by omega)⟩)
  | 8, _ => exact .inr (.inl ⟨nofun, _, _, fun _ => rfl, by decide +kernel, fun _ => rfl, shwD (by decide +kernel) (by decide +kernel) (by decide +kernel)⟩)
  | 9, _ => exact .inr (.inl ⟨nofun, _, _, fun _ => rfl, by decide +kernel, fun _ => rfl, shwD (by decide +kernel) (by decide +kernel) (by decide +kernel)⟩)
  | 10, _ => exact .inr (.inl ⟨nofun, _, _, fun _ => rfl, by decide +kernel, fun _ => rfl, shwD (by decide +kernel) (by decide +kernel) (by decide +kernel)⟩)
  | 11, _ => exact .inr (.inl ⟨nofun, _, _, fun _ => rfl, by decide +kernel, fun _ => rfl, shwD (by decide +kernel) (by decide +kernel) (by decide +kernel)⟩)
  | 12, _ => exact .inr (.inl ⟨nofun, _, _, fun _ => rfl, by decide +kernel, fun _ => rfl, shwD (by decide +kernel) (by decide +kernel) (by decide +kernel)⟩)
  | 13, _ => exact .inr (.inr ⟨_, rfl, .inl k1⟩)
  | 14, _ => exact .inr (.inr ⟨_, rfl, .inr k2⟩)
  | 15, _ => exact .inl ⟨_, rfl, by decide +kernel, by decide +kernel⟩
  | f + 16, h => omega
end
end Co
namespace Oe
open PySem L2 Ev Bd Sp Rg Wp Ty Tl Xm Xr Pp
theorem reprZ_of {S : Store} {x : D} {p : PyData} {n d : Nat} (h : toPU S x = some p) (f : Shw p n d) (hw : n ≤ 10000000) (hd : d ≤ 60) : pReprZ [x] S = some (.str p.shown, S) := by
  have h1 := f.ln
  have h2 := f.dp
  have cond : p.showable = true ∧ p.shown.length ≤ sizeLine ∧ p.depth ≤ 60 := ⟨f.sh, Nat.le_trans h1 (Nat.le_trans hw (by decide)), by omega⟩
  simp only [pReprZ, h, cond, and_self, if_true]
end Oe
namespace Ek
open PySem L2 Ev Bd Sp Rg Wp Ty Tl Xm Xr
structure C01 (cal : Nat → List D → M D) : Prop where
  odd : ∀ t S, Dp.Tray t S → WE (cal 356 [.ref t]) S fun d S' => Co.OdV S' d ∧ Dp.TrF S t S'
  place : ∀ v S, v ≠ .slf → cal 547 [v] S = .ok (.lst (rowsX.map (xE v))) S
  name : ∀ v S, v ≠ .slf → cal 546 [v] S = .ok (.lst (rowsX.map (xE v))) S
  tale : ∀ p ∈ rowsX, ∀ v S, cal 549 [.exv p.1 [(p.2, v)]] S = .ok (.tup [.str p.1, v]) S
  tale0 : ∀ c ∈ (["Empty", "NotThePrice", "NothingToUndo"] : List Str), ∀ S, cal 549 [.exv c []] S = .ok (.tup [.str c, .str ""]) S
  taleB : ∀ v w S, cal 549 [.exv "Broken" [("shown", w), ("index", v)]] S = .ok (.tup [.str "Broken", .tup [v, w]]) S
def Ov (S : Store) (d : D) : Prop := d ≠ .slf ∧ ∃ p, toPY S d = some p ∧ Pp.Shw p 5000 4
theorem ov_of {S : Store} {d : D} (h : Co.OdV S d) : Ov S d := by
  rcases Co.odv_ns h with ⟨s, rfl, hs⟩ | ⟨h0, T, p, _, _, h3, h4⟩
  · exact ⟨nofun, .str s, rfl, (Sx.shw_sm hs).mono (by omega) (by omega)⟩
  · exact ⟨h0, p, h3, h4⟩
theorem odv_tr {S S' : Store} {t : Nat} {d : D} (h : Co.OdV S d) (a : Dp.Tray t S) (f : Dp.TrF S t S') : Co.OdV S' d := by
  rcases h with h | h | ⟨i, rfl, h⟩
  · exact .inl h
  · exact .inr (.inl h)
  · obtain ⟨x, y, z, e, _⟩ := a
    have ne : i ≠ t := by
      rintro rfl
      rw [e] at h
      rcases h with h | h <;> cases h
    have lt : i < S.length := by
      rcases h with h | h <;> exact (List.getElem?_eq_some_iff.mp h).1
    refine .inr (.inr ⟨i, rfl, ?_⟩)
    rw [f.2.2 i lt ne]
    exact h
theorem shw_two {a b : PyData} {n k : Nat} (ha : Pp.Shw a n k) (hb : Pp.Shw b n k) : Pp.Shw (.tuple [a, b]) ((n + 2) * 2 + 3) (k + 1) := Pp.shw_tuple (ps := [a, b]) (k := 2) (fun q hq => by
  simp only [List.mem_cons, List.not_mem_nil, or_false] at hq
  rcases hq with rfl | rfl
  · exact ha
  · exact hb) (by simp)
theorem repr_pair {S : Store} {w : Str} {v : D} (hw : Pp.Shw (.str w) 41 0) (h : Ov S v) : ∃ z, pReprZ [.tup [.str w, v]] S = some (.str z, S) := by
  obtain ⟨_, p, e, hp⟩ := h
  exact ⟨_, Oe.reprZ_of (p := .tuple [.str w, p]) (by show toPY S (.tup [.str w, v]) = _; simp only [toPY, toPYs, e, Option.bind_some, Option.map_some]) (shw_two (hw.mono (n' := 5000) (d' := 4) (by omega) (by omega)) hp) (by omega) (by omega)⟩
theorem repr_told {S : Store} {v w : D} (h : Ov S v) (h2 : Ov S w) : ∃ z, pReprZ [.lst [.tup [.str "Broken", .tup [v, w]], .tup [.str "Broken", .tup [v, w]]]] S = some (.str z, S) := by
  obtain ⟨_, p, e, hp⟩ := h
  obtain ⟨_, q, e2, hq⟩ := h2
  have sb : Pp.Shw (.str "Broken") 41 0 := shw_s (by decide +kernel) (by decide +kernel)
  have s1 := shw_two hp hq
  have s2 := shw_two (sb.mono (n' := (5000 + 2) * 2 + 3) (d' := 5) (by omega) (by omega)) s1
  exact ⟨_, Oe.reprZ_of (p := .list [.tuple [.str "Broken", .tuple [p, q]], .tuple [.str "Broken", .tuple [p, q]]]) (by show (toPYs S [.tup [.str "Broken", .tup [v, w]], .tup [.str "Broken", .tup [v, w]]]).map PyData.list = _; simp only [toPY, toPYs, e, e2, Option.bind_some, Option.map_some]) (Pp.shw_list (k := 2) (fun x hx => by
    simp only [List.mem_cons, List.not_mem_nil, or_false] at hx
    rcases hx with rfl | rfl <;> exact s2) (by simp)) (by omega) (by omega)⟩
theorem ne_self {S : Store} {z : Str} : pNe (.str z) (.str z) S = some (.bl false, S) := by
  rw [pNe_ss]
  simp
theorem eq_self {S : Store} {z : Str} : pEq (.str z) (.str z) S = some (.bl true, S) := by
  rw [Xr.pEq_ss]
  simp
theorem rows_shw : ∀ p ∈ rowsX, Pp.Shw (.str p.1) 41 0 := by
  intro p hp
  simp only [rowsX, List.mem_cons, List.not_mem_nil, or_false] at hp
  rcases hp with rfl | rfl | rfl | rfl | rfl | rfl | rfl | rfl | rfl | rfl | rfl | rfl | rfl | rfl | rfl | rfl | rfl | rfl <;> exact shw_s (by decide +kernel) (by decide +kernel)
section
variable {cal : Nat → List D → M D} {S : Store} {t : Nat} {v w : D}
abbrev body1 (cal : Nat → List D → M D) : MS := sIf (fun δ => asB (eOp pNe (eCallV pReprZ (aCons (eCal (cal 549) (aCons (eVar 3) aNil)) aNil)) (eCallV pReprZ (aCons (eTup (aCons (eVar 4) (aCons (eVar 1) aNil))) aNil)) δ)) (sRet (eC (.bl false))) sNext
abbrev body2 (cal : Nat → List D → M D) : MS := sIf (fun δ => asB (eOp pNe (eCal (cal 549) (aCons (eVar 3) aNil)) (eTup (aCons (eVar 4) (aCons (eC (.str "")) aNil))) δ)) (sRet (eC (.bl false))) sNext
abbrev tgt : TGM := gTp 2 (gCs (gNm 3) (gCs (gNm 4) gNl))
theorem loop1 (C : C01 cal) (o : Ov S v) : ∀ (L : List (Str × Str)), (∀ p ∈ L, p ∈ rowsX) → ∀ o3 o4, ∃ o3' o4', loopF tgt (body1 cal) (L.map (xE v)) [some (.ref t), some v, some w, o3, o4, none] S = .nx [some (.ref t), some v, some w, o3', o4', none] S
  | [], _, o3, o4 => ⟨o3, o4, rfl⟩
  | p :: L, h, o3, o4 => by
    have hp := h p (List.mem_cons_self ..)
    obtain ⟨z, hz⟩ := repr_pair (rows_shw p hp) o
    obtain ⟨x, y, e⟩ := loop1 C o L (fun q hq => h q (List.mem_cons_of_mem _ hq)) (some (.exv p.1 [(p.2, v)])) (some (.str p.1))
    refine ⟨x, y, (loop_nx (δ1 := [some (.ref t), some v, some w, some (.exv p.1 [(p.2, v)]), some (.str p.1), none]) rfl (sIf_f (asB_ok (eOp_ok (eCallV_ok (aCons_ok (eCal_ok (aCons_ok rfl rfl) (C.tale p hp v S)) rfl) hz) (eCallV_ok (aCons_ok (eTup_ok (aCons_ok rfl (aCons_ok (eVarR rfl o.1) rfl)) (sm rfl)) rfl) hz) ne_self)) rfl)).trans e⟩
theorem ne_three : ∀ c ∈ (["Empty", "NotThePrice", "NothingToUndo"] : List Str), ∀ S, pNe (.tup [.str c, .str ""]) (.tup [.str c, .str ""]) S = some (.bl false, S) := fun c hc S => by
  refine (Oe.ne_of (px := .tuple [.str c, .str ""]) (py := .tuple [.str c, .str ""]) rfl rfl (by simp [PyData.depth, PyData.depthAll])).trans ?_
  simp only [List.mem_cons, List.not_mem_nil, or_false] at hc
  rcases hc with rfl | rfl | rfl <;> rfl
theorem loop2 (C : C01 cal) : ∀ (L : List Str), (∀ c ∈ L, c ∈ (["Empty", "NotThePrice", "NothingToUndo"] : List Str)) → ∀ o3 o4, ∃ o3' o4', loopF tgt (body2 cal) (L.map fun c => .tup [.exv c [], .str c]) [some (.ref t), some v, some w, o3, o4, none] S = .nx [some (.ref t), some v, some w, o3', o4', none] S
  | [], _, o3, o4 => ⟨o3, o4, rfl⟩
  | c :: L, h, o3, o4 => by
    have hc := h c (List.mem_cons_self ..)
    obtain ⟨x, y, e⟩ := loop2 C L (fun q hq => h q (List.mem_cons_of_mem _ hq)) (some (.exv c [])) (some (.str c))
    refine ⟨x, y, (loop_nx (δ1 := [some (.ref t), some v, some w, some (.exv c []), some (.str c), none]) rfl (sIf_f (asB_ok (eOp_ok (eCal_ok (aCons_ok rfl rfl) (C.tale0 c hc S)) (eTup_ok (aCons_ok rfl (aCons_ok rfl rfl)) (sm rfl)) (ne_three c hc S))) rfl)).trans e⟩
theorem right01_ev (C : C01 cal) (a : Dp.Tray t S) : ∃ S', funM 6 1 (b__law_right_v65 cal) [.ref t] S = .ok (.bl true) S' := by
  obtain ⟨v, S1, e1, o1, f1⟩ := C.odd t S a
  have a1 : Dp.Tray t S1 := f1.1
  obtain ⟨w, S2, e2, o2, f2⟩ := C.odd t S1 a1
  have ov := ov_of (odv_tr o1 a1 f2)
  have ow := ov_of o2
  refine ⟨S2, ?_⟩
  unfold b__law_right_v65
  obtain ⟨x3, x4, l1⟩ := loop1 (t := t) (w := w) C ov (rowsX ++ rowsX) (fun p hp => (List.mem_append.mp hp).elim id id) none none
  obtain ⟨y3, y4, l2⟩ := loop2 (S := S2) (t := t) (v := v) (w := w) C ["Empty", "NotThePrice", "NothingToUndo"] (fun c hc => hc) x3 x4
  obtain ⟨z, hz⟩ := repr_told ov ow
  rw [List.map_append] at l1
  have p1 : sPar2 1 2 (aCons (eCal (cal 356) (aCons (eVar 0) aNil)) (aCons (eCal (cal 356) (aCons (eVar 0) aNil)) aNil)) [some (.ref t), none, none, none, none, none] S = .nx [some (.ref t), some v, some w, none, none, none] S2 :=
    sPar2_ok (aCons_ok (eCal_ok (aCons_ok rfl rfl) e1) (aCons_ok (eCal_ok (aCons_ok rfl rfl) e2) rfl))
  have i1 : iAny (eOp pAdd (eCal (cal 547) (aCons (eVar 1) aNil)) (eCal (cal 546) (aCons (eVar 1) aNil))) [some (.ref t), some v, some w, none, none, none] S2 = .ok (rowsX.map (xE v) ++ rowsX.map (xE v)) S2 :=
    iAny_ok (eOp_ok (eCal_ok (aCons_ok (eVarR rfl ov.1) rfl) (C.place v S2 ov.1)) (eCal_ok (aCons_ok (eVarR rfl ov.1) rfl) (C.name v S2 ov.1)) (add_ll (by rw [List.length_map]; exact sm rfl))) rfl
  have b1 : ∀ δ, δ = [some (.ref t), some v, some w, y3, y4, none] → eCal (cal 549) (aCons (eCal (mkXv "Broken" ["index", "shown"]) (aCons (eVar 1) (aCons (eVar 2) aNil))) aNil) δ S2 = .ok (.tup [.str "Broken", .tup [v, w]]) S2 := fun δ h => by
    subst h
    exact eCal_ok (aCons_ok (eCal_ok (aCons_ok (eVarR rfl ov.1) (aCons_ok (eVarR rfl ow.1) rfl)) rfl) rfl) (C.taleB v w S2)
  have b2 : ∀ δ, δ = [some (.ref t), some v, some w, y3, y4, none] → eCal (cal 549) (aCons (eCal (calP (mkXv "Broken" ["index", "shown"]) 2 [1, 0]) (aCons (eVar 2) (aCons (eVar 1) aNil))) aNil) δ S2 = .ok (.tup [.str "Broken", .tup [v, w]]) S2 := fun δ h => by
    subst h
    exact eCal_ok (aCons_ok (eCal_ok (aCons_ok (eVarR rfl ow.1) (aCons_ok (eVarR rfl ov.1) rfl)) rfl) rfl) (C.taleB v w S2)
  have m2 : pMul (.lst [.tup [.str "Broken", .tup [v, w]]]) (.int 2) S2 = some (.lst [.tup [.str "Broken", .tup [v, w]], .tup [.str "Broken", .tup [v, w]]], S2) := by
    simp only [pMul, plstOf]
    rw [if_pos ⟨by decide, by decide, sm rfl⟩]
    exact newL_ev (sm rfl)
  refine funM_rt rfl (sSeq_nx p1 (sSeq_nx (sFor_ok i1 l1) (sSeq_nx (sFor_ok rfl l2) (sSeq_nx (sAsg_ok (eLst_ok (aCons_ok (b1 _ rfl) (aCons_ok (b2 _ rfl) rfl)) (sm rfl)) rfl) (sRet_ok (eOp_ok (eCallV_ok (aCons_ok rfl rfl) hz) (eCallV_ok (aCons_ok (eOp_ok (eLst_ok (aCons_ok (eTup_ok (aCons_ok rfl (aCons_ok (eTup_ok (aCons_ok (eVarR rfl ov.1) (aCons_ok (eVarR rfl ow.1) rfl)) (sm rfl)) rfl)) (sm rfl)) rfl) (sm rfl)) rfl m2) rfl) hz) eq_self))))))
abbrev condL : MT := fun δ => asB (eOp pNe (eCallV pReprZ (aCons (eLst (aCons (eC (.int 8)) (aCons (eC (.int 8)) (aCons (eC (.int 1000000000000000000000000000000)) (aCons (eC (.int 3)) (aCons (eC (.int 9)) aNil)))))) aNil)) (eCallV pReprZ (aCons (eLst (aCons (eC (.int 8)) (aCons (eC (.int 8)) (aCons (eOp pPow (eC (.int 10)) (eC (.int 30))) (aCons (eC (.int 3)) (aCons (eC (.int 9)) aNil)))))) aNil)) δ)
theorem law01_ev {ns : List Int} {b : Store} (h : funM 2 1 (Tl.lawM 5 (cal 550) (cal 5)) [.scr ns] S = .ok (.bl true) b) : funM 2 1 (b_law_v66 cal) [.scr ns] S = .ok (.bl true) b := by
  have e1 : pPow (.int 10) (.int 30) S = some (.int 1000000000000000000000000000000, S) := rfl
  have s : Pp.Shw (.list [.int 8, .int 8, .int 1000000000000000000000000000000, .int 3, .int 9]) 5000 4 := Co.shwD (by decide +kernel) (by decide +kernel) (by decide +kernel)
  have hz : pReprZ [.lst [.int 8, .int 8, .int 1000000000000000000000000000000, .int 3, .int 9]] S = some (.str (PyData.list [.int 8, .int 8, .int 1000000000000000000000000000000, .int 3, .int 9]).shown, S) := Oe.reprZ_of rfl s (by omega) (by omega)
  have c : condL [some (.scr ns), none] S = .ok false S :=
    asB_ok (eOp_ok (eCallV_ok (aCons_ok (eLst_ok rfl (sm rfl)) rfl) hz) (eCallV_ok (aCons_ok (eLst_ok (aCons_ok rfl (aCons_ok rfl (aCons_ok (eOp_ok rfl rfl e1) (aCons_ok rfl (aCons_ok rfl rfl))))) (sm rfl)) rfl) hz) ne_self)
  unfold b_law_v66
  unfold Tl.lawM at h
  unfold funM at h ⊢
  rw [if_pos (show [D.scr ns].length = 1 from rfl)] at h ⊢
  have d1 : sIf condL (sRet (eC (.bl false))) sNext [some (.scr ns), none] S = .nx [some (.scr ns), none] S := sIf_f c rfl
  have e2 := sSeq_nx (mt := sRet (eCallV (pAll true) (aCons (eLc newL (iR1 (aCons (eCallV (pMax) (aCons (eC (.int 2)) (aCons (eCallV (pMin) (aCons (eCallV (pLen) (aCons (eVar 0) aNil)) (aCons (eC (.int 5)) aNil))) aNil))) aNil)) (uNm 1) tYesM (eCal (cal 550) (aCons (eCal (cal 5) (aCons (eVar 0) (aCons (eVar 1) aNil))) aNil)) [1]) aNil))) d1 rfl
  rw [show startD 2 [D.scr ns] = [some (.scr ns), none] from rfl] at h ⊢
  rw [e2]
  exact h
end
end Ek
namespace Lw
open PySem L2 Ev Bd Sp Rg Wp Ty Xr Xm
theorem takeD (L : Store) (n : Nat) : Tl.TakF L (callN (n + 1) 3) := by rw [c__law_take]; exact Tl.take_tak
theorem kinD (n : Nat) : Ek.Kin (callN (n + 1)) := fun c fs S g hq => by rw [c__law_kin_v2]; exact Ek.kin_ev hq
theorem c01 (n : Nat) : Ek.C01 (callN (n + 3)) where
  odd := fun t S a => by rw [c__law_odd_v3]; exact Co.odd81_ev (Dp.takG (takeD [] (n + 1))) a.f
  place := fun v S nv => by rw [c__law_by_place]; exact Ek.place_ev nv
  name := fun v S nv => by rw [c__law_by_name]; exact Ek.name_ev nv
  tale := fun p hp v S => by rw [c__law_tale_v2]; exact Ek.tale_row (kinD (n + 1)) p hp
  tale0 := fun c hc S => by
    rw [c__law_tale_v2]
    simp only [List.mem_cons, List.not_mem_nil, or_false] at hc
    rcases hc with rfl | rfl | rfl
    · exact Ek.tale0_Empty (kinD (n + 1))
    · exact Ek.tale0_NotThePrice (kinD (n + 1))
    · exact Ek.tale0_NothingToUndo (kinD (n + 1))
  taleB := fun v w S => by rw [c__law_tale_v2]; exact Ek.tale_B (kinD (n + 1))
theorem law_ev {ns : List Int} (hl : ns.length ≤ 63) : ∃ S, funM 2 1 (b_law_v66 (callN 4)) [.scr ns] (store0 lams) = .ok (.bl true) S := by
  obtain ⟨S', e⟩ := lawL_ev (L := []) (m := 5) (r := callN 4 550) (e := callN 4 5) (ns := ns) (S := store0 lams) (by omega) (fun k S hk hp => by
    rw [c__law_tray 3]
    obtain ⟨a, b, e, ha⟩ := tray_ev (S := S) (at_ := k) (by omega : ns.length ≤ 1000) hk
    exact ⟨_, e, tr_new hp ha⟩) (fun t S a => by
    rw [c__law_right_v65 3]
    obtain ⟨S', e⟩ := Ek.right01_ev (c01 0) a.1
    exact ⟨_, S', e, rfl, Nat.zero_le _, fun j hj => absurd hj (Nat.not_lt_zero j)⟩) ⟨Nat.zero_le _, fun j hj => absurd hj (Nat.not_lt_zero j)⟩
  exact ⟨S', Ek.law01_ev e⟩
end Lw
theorem PySem.Challenge.cw_oddrings_k01_limits_and_errors_holds : PySem.Challenge.rw_oddrings_k01_limits_and_errors.Holds :=
  Lw.holds 4 (by decide) fun ns hl _ => Lw.law_ev hl

