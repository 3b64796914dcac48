import PyProof.Rows.All
import Wide.All
import OpenK.AllK
import Wide.FinOn
import HandS.Base
import HandS.Call
import HandS.Exc
import HandS.Defaults
import HandS.Property
import HandS.ClsMeth
import HandS.HeadHook1
import HandS.HeadHook2
import HandS.HeadHook3
import HandS.Head0
import HandS.Head1
import HandS.Head2
import HandS.HeadHook4
import KE.KStateDown
import HandS.Words
import HandS.ForMost
import HandS.Lambda
import HandS.Wide
import HandS.TupAny
import HandS.Flow
import HandS.Star
import HandS.IsInst
import HandS.SortInts
import HandS.RaiseMore
import HandS.Conv
import HandS.WideBits
import HandS.NoneIn
import HandS.Style
import HandS.Zip
import HandS.Iter
import HandS.DictComp
import HandS.MakeKw
import HandS.SetKeys
import KE.KSortTup
import HandS.Sort
import HandS.SortOrd
import HandS.SortRule
import PyProof.TupleCall
import KE.KDictList
import KE.KDictSum
import HandS.More
import PyProof.EnumMake
import PyProof.Draws
import KE.GoesMore
import HandS.RevTup
import PyProof.CallStr
import PyProof.Conv_bool
import KE.KFmtOwn
import HandS.Small
import HandS.OwnEq
import PyProof.P3In
import KE.KUnpack
import KE.KUnpackStar
import PyProof.DictCompW
import HandS.AnyAll
import HandS.Ends
import HandS.HeadEnd
import HandS.EndBits
import HandS.Dict
import KE.KRevSl
import HandS.List
import HandS.Strs
import HandS.SetFor
import HandS.ListItems
import HandS.ExcValue
import KE.KItemsList
import PyProof.FactsDict
import PyProof.MeetsSeq2
import HandS.TupSets
import PyProof.Rows.SortShellAny
import PyProof.MinMaxWalk
import KE.KDictKeyed
import KE.KDictWalk
import KE.KDictCopyH
import PyProof.Rows.Chain
import HandS.WordsDict
import PyProof.NeKinds
import PyProof.EqKinds
import HandS.ExcCtx
import HandS.ExcOwn
import HandS.WordsExc
import HandS.TryOnly
import HandS.SuiteRaise
import HandS.RaiseFrom
import HandS.HotCalls
import HandS.ExcInit
import HandS.ExcInitHot
import KE.KExcInit
import PyProof.ExcBaseAll.ValueError
import PyProof.ExcBaseAll.LookupError
import PyProof.ExcBaseAll.ArithmeticError
import KE.KTryMore
import KE.KExcIs
import KE.SortKeyHeap
import KE.KLam
import HandS.EndTab
import HandS.NestedK
import Lean
import PySem.Challenge.RW_ringshares_k01_limits_and_errors
set_option Elab.async false
set_option linter.all false
set_option maxRecDepth 100000
set_option maxHeartbeats 4000000
namespace Z
open PySem PySem.Spec PyProof.Rows L2
/-! ### where a def stands -/
inductive At where
  | g (x : Str) | m (c x : Str) | p (c x : Str) | cm (c x : Str)
def recAd (K : PySem.W.Frag) (T : String) (p : Addr) : Addr := match PySem.W.recIn K p T with
  | some (.ref f :: _) => f
  | _ => 0
def recB (K : PySem.W.Frag) (T : String) (p : Addr) : Bool := match PySem.W.recIn K p T with
  | some (.ref _ :: _) => true
  | _ => false
def At.ad (K : PySem.W.Frag) : At → Addr
  | .g x => He.ga K x
  | .m c x => He.ma K (He.ga K c) x
  | .p c x => recAd K "property" (He.ma K (He.ga K c) x)
  | .cm c x => recAd K "classmethod" (He.ma K (He.ga K c) x)
/-- one def of the text -/
structure DefZ where
  at_ : At
  name : Str
  qual : Str
  params : Arguments
  body : List Stmt
  scope : Scope
  dfl : List He.Dv
def DefZ.ad (K : PySem.W.Frag) (d : DefZ) : Addr := d.at_.ad K
def DefZ.dvs (K : PySem.W.Frag) (d : DefZ) : List V := d.dfl.map (He.Dv.v K)
abbrev FnOb : Type := Option (Str × Str × Arguments × FuncBody × Scope × Addr × List (Str × Addr) × Addr)
def fnOb (K : PySem.W.Frag) (a : Addr) : FnOb := match K.lookup a with
  | some ⟨_, _, .func fd, _⟩ => some (fd.name, fd.qualname, fd.params, fd.body, fd.scope, fd.globals, fd.closure, fd.builtins)
  | _ => none
def DefZ.val (d : DefZ) : FnOb := some (d.name, d.qual, d.params, .stmts d.body, d.scope, mainGlobals, [], builtinsNs)
def DefZ.ok (K : PySem.W.Frag) (d : DefZ) : Bool := PySem.W.keepIn K (.ref (d.ad K)) && (match K.lookup (d.ad K) with
  | some ⟨_, _, .func fd, _⟩ => PySem.W.codeIn K fd.code d.qual && He.dflB K fd.defaults (d.dvs K)
  | _ => false)
abbrev FunZ (K : PySem.W.Frag) (d : DefZ) (fd : FuncData) : Prop := FunD K d.name d.qual d.params d.body d.scope (d.dvs K) [] (d.ad K) fd
theorem DefZ.fun {K : PySem.W.Frag} {d : DefZ} (e : fnOb K (d.ad K) = d.val) (c : d.ok K = true) : ∃ fd, FunZ K d fd := by
  obtain ⟨kp, c2⟩ := He.ba c
  unfold fnOb at e
  generalize hq : K.lookup (d.ad K) = q at e c2
  match q, hq, e, c2 with
  | some ⟨oc, od, .func fd, osl⟩, hq, e, c2 =>
    obtain ⟨k1, k2⟩ := He.ba c2
    obtain ⟨a1, a2, a3, a4, a5, a6, a7, a8, a9, a10, a11, a12, a13, a14, a15⟩ := fd
    have e : (some (a1, a2, a3, a4, a5, a6, a7, a15) : FnOb) = some (d.name, d.qual, d.params, .stmts d.body, d.scope, mainGlobals, [], builtinsNs) := e
    simp only [Option.some.injEq, Prod.mk.injEq] at e
    obtain ⟨rfl, rfl, rfl, rfl, rfl, rfl, rfl, rfl⟩ := e
    exact ⟨_, ⟨oc, od, a8, a9, a10, a11, a12, a13, a14, osl, rfl, hq, k1, He.dflB_ok k2, .inl rfl⟩, kp⟩
/-! ### what the head is to tell -/
abbrev AlZ : Type := Bool × List FnOb
def obsK (ex : PySem.W.Frag → Bool) (fn : List DefZ) (K : PySem.W.Frag) : AlZ := (ex K && fn.all fun d => d.ok K, fn.map fun d => fnOb K (d.ad K))
def valZ (fn : List DefZ) : AlZ := (true, fn.map DefZ.val)
def SaysZ (ex : PySem.W.Frag → Bool) (fn : List DefZ) (K : PySem.W.Frag) : Prop := obsK ex fn K = valZ fn
/-- what an object names, its dict and its record's parts too -/
def namesZ (o : Obj) : List Addr := He.refsD o
def growZ (g : Addr → Option Obj) (as : List Addr) : List Addr := (as ++ as.flatMap fun a => match g a with
  | some o => namesZ o
  | none => []).eraseDups
def asZ (g : Addr → Option Obj) : Nat → List Addr
  | 0 => [mainGlobals, cStatics]
  | n + 1 => growZ g (asZ g n)
def obsZG (n : Nat) (ex : PySem.W.Frag → Bool) (fn : List DefZ) (g : Addr → Option Obj) : AlZ := obsK ex fn (He.frG g (asZ g n))
def hookZ (n : Nat) (ex : PySem.W.Frag → Bool) (fn : List DefZ) : PySem.W.Hook where
  α := AlZ
  obs := fun s => obsZG n ex fn s.heap.get?
  val := fun _ => valZ fn
  says := fun _ h => ∃ K : PySem.W.Frag, K.In h ∧ SaysZ ex fn K
  of := fun _ _ e => ⟨_, He.frG_in, e⟩
  keeps := fun _ _ _ ⟨K, hK, c⟩ k => ⟨K, PySem.W.Frag.In.keeps hK k, c⟩
section
variable {ex : PySem.W.Frag → Bool} {fn : List DefZ} {K : PySem.W.Frag}
theorem SaysZ.ex_ok (c : SaysZ ex fn K) : ex K = true := (He.ba (congrArg (fun z : AlZ => z.1) c)).1
theorem SaysZ.at_ (c : SaysZ ex fn K) (i : Nat) {d : DefZ} (h : fn[i]? = some d := by rfl) : ∃ fd, FunZ K d fd := by
  have c2 : (fn.all fun d => d.ok K) = true := (He.ba (congrArg (fun z : AlZ => z.1) c)).2
  have e : fn.map (fun d => fnOb K (d.ad K)) = fn.map DefZ.val := congrArg (fun z : AlZ => z.2) c
  have e2 : (fn.map fun d => fnOb K (d.ad K))[i]? = (fn.map DefZ.val)[i]? := by rw [e]
  rw [List.getElem?_map, List.getElem?_map, h] at e2
  exact DefZ.fun (Option.some.inj e2) (List.all_eq_true.mp c2 d (List.mem_of_getElem? h))
end
/-! ### facts as Bools -/
/-- f is a property of the class c -/
def propB (K : PySem.W.Frag) (c f : Str) : Bool := He.eqO (PySem.W.findIn K (.ref (He.ga K c)) f) (some (some (.ref (He.ma K (He.ga K c) f)))) && (He.eqO (PySem.W.specialIn K (.ref (He.ma K (He.ga K c) f)) "__get__") (some (some (.builtin "property.__get__"))) && (decide (PySem.W.takesIn K (.ref (He.ma K (He.ga K c) f)) = some true) &&
  recB K "property" (He.ma K (He.ga K c) f)))
/-- m is a classmethod of the class c -/
def cmetB (K : PySem.W.Frag) (c m : Str) : Bool := PySem.W.readsIn K (He.ga K c) (.type "type") && (He.eqO (PySem.W.specialIn K (.ref (He.ga K c)) "__getattribute__") (some (some (.builtin "type.__getattribute__"))) &&
  ((match PySem.W.findCls K (.ref (He.ga K c)) (.type "type") m with
    | some (.get (.builtin b) (.ref p) .none (.ref C)) => decide (b = "classmethod.__get__") && (decide (p = He.ma K (He.ga K c) m) && decide (C = He.ga K c))
    | _ => false) && (recB K "classmethod" (He.ma K (He.ga K c) m) && PySem.W.fnIn K (At.ad K (.cm c m)))))
end Z

set_option Elab.async false
set_option linter.all false
set_option maxRecDepth 100000
namespace Z
open PySem PySem.Spec PyProof.Rows L2
/-! ### the head in one run: the heap is laid out as a list first, the facts are looked at there -/
def frO {α : Type} (o : Obj) (k : Obj → α) : α := match o with
  | ⟨c, d, dt, sl⟩ => k ⟨c, d, dt, sl⟩
theorem frO_eq {α : Type} (o : Obj) (k : Obj → α) : frO o k = k o := by cases o; rfl
def frL {α : Type} : PySem.W.Frag → (PySem.W.Frag → α) → α
  | [], k => k []
  | (a, o) :: r, k => frO o fun o => frL r fun r => k ((a, o) :: r)
theorem frL_eq {α : Type} : ∀ (l : PySem.W.Frag) (k : PySem.W.Frag → α), frL l k = k l
  | [], _ => rfl
  | (a, o) :: r, k => by
    show (frO o fun o => frL r fun r => k ((a, o) :: r)) = _
    rw [frO_eq, frL_eq r]
def downTo : Nat → List Addr
  | 0 => []
  | n + 1 => n :: downTo n
def obsF (n : Nat) (ex : PySem.W.Frag → Bool) (fn : List DefZ) (g : Addr → Option Obj) : AlZ := frL (He.frG g (downTo n)) (obsK ex fn)
def hookF (n : Nat) (ex : PySem.W.Frag → Bool) (fn : List DefZ) : PySem.W.Hook where
  α := AlZ
  obs := fun s => obsF n ex fn s.heap.get?
  val := fun _ => valZ fn
  says := fun _ h => ∃ K : PySem.W.Frag, K.In h ∧ SaysZ ex fn K
  of := fun _ _ e => ⟨_, He.frG_in, (frL_eq _ _).symm.trans e⟩
  keeps := fun _ _ _ ⟨K, hK, c⟩ k => ⟨K, PySem.W.Frag.In.keeps hK k, c⟩
/-! facts that are looked at early (the same as isiB, noLstB) -/
def insF (K : PySem.W.Frag) (c : Str) : Bool := (He.Fa.cls c).ok K && (He.eqO (PySem.W.findIn K (.ref (He.ga K c)) "__class__") (some (some (.builtin "object.__class__"))) && (He.eqO (PySem.W.specialIn K (.builtin "object.__class__") "__get__") (some (some (.builtin "getset_descriptor.__get__"))) &&
  (decide (PySem.W.takesIn K (.builtin "object.__class__") = some true) && decide (PySem.W.mroIn K (He.ga K c) (.type "object") = some true))))
def isiF (K : PySem.W.Frag) (cs : List Str) (tys : List String) : Bool := (cs.all fun c => insF K c) && ((cs.all fun c => tys.all fun T => decide (PySem.W.kitOne K (.ref (He.ga K c)) (.type T) = some false)) &&
  ((cs.all fun c => cs.all fun C => decide (PySem.W.kitOne K (.ref (He.ga K c)) (.ref (He.ga K C)) = some (decide (c = C)))) && (["NoneType", "bool", "int", "str", "tuple", "list", "dict"].all fun t => cs.all fun C => decide (PySem.W.kitOne K (.type t) (.ref (He.ga K C)) = some false))))
def noLstF (K : PySem.W.Frag) : Bool := K.all fun p => match p.2.cls with
  | .type t => !decide (t = "list")
  | .str _ _ => false
  | _ => true
end Z

set_option Elab.async false
set_option linter.all false
set_option maxRecDepth 100000
namespace Z
open PySem PySem.Spec PyProof.Rows L2
def entSI (e : DictEntry) : Option (Str × Int) := match e.key, e.val with
  | .str x _, .int i _ => some (x, i)
  | _, _ => none
def kvB (K : PySem.W.Frag) (a : Addr) (kvs : List (Str × Int)) : Bool := match K.lookup a with
  | some ⟨_, _, .dict es _, _⟩ => decide (es.toList.map entSI = kvs.map some)
  | _ => false
/-! ### the head with tables -/
abbrev TabZ : Type := Str × List Str
abbrev AlG : Type := AlZ × List (Option (List (Option (Str × Int))))
def obsKG (ex : PySem.W.Frag → Bool) (fn : List DefZ) (ts : List TabZ) (K : PySem.W.Frag) : AlG := (obsK ex fn K, ts.map fun t => He.dicW K (He.ga K t.1))
def valG (fn : List DefZ) (ts : List TabZ) (w : World) : AlG := (valZ fn, ts.map fun t => some (He.keysIn w.params t.2))
def SaysG (ex : PySem.W.Frag → Bool) (fn : List DefZ) (ts : List TabZ) (w : World) (K : PySem.W.Frag) : Prop := obsKG ex fn ts K = valG fn ts w
def obsG (n : Nat) (ex : PySem.W.Frag → Bool) (fn : List DefZ) (ts : List TabZ) (g : Addr → Option Obj) : AlG := frL (He.frG g (downTo n)) (obsKG ex fn ts)
def hookG (n : Nat) (ex : PySem.W.Frag → Bool) (fn : List DefZ) (ts : List TabZ) : PySem.W.Hook where
  α := AlG
  obs := fun s => obsG n ex fn ts s.heap.get?
  val := fun w => valG fn ts w
  says := fun w h => ∃ K : PySem.W.Frag, K.In h ∧ SaysG ex fn ts w K
  of := fun _ _ e => ⟨_, He.frG_in, (frL_eq _ _).symm.trans e⟩
  keeps := fun _ _ _ ⟨K, hK, c⟩ k => ⟨K, PySem.W.Frag.In.keeps hK k, c⟩
theorem obsG_eq {n : Nat} {ex : PySem.W.Frag → Bool} {fn : List DefZ} {ts : List TabZ} {g : Addr → Option Obj} {s : Shared} (h : ∀ a, g a = s.heap.get? a) : obsG n ex fn ts g = (hookG n ex fn ts).obs s := by
  have e : g = s.heap.get? := funext h
  rw [e] <;> rfl
end Z

set_option Elab.async false
set_option linter.all false
set_option maxRecDepth 100000
namespace Z
open PySem PySem.Spec PyProof.Rows L2
/-! ### the head in several runs of the same top: each run looks at a part of what is wanted, so no one declaration holds all of it -/
noncomputable def endZ (r : PySem.W.OpenRow) (M : Nat) (w : World) (os : OsState) : Option PySem.W.SharedT := HandSHeadRun.endF (HandSHeadRun.stepQ (HandSHeadRun.denQ HandSHeadRun.tabQ) r.prog w) M r.prog w os
def RunP (r : PySem.W.OpenRow) (M : Nat) (w : World) {α : Type} (k : PySem.W.SharedT → α) (a : α) : Prop := ∀ os : OsState, (endZ r M w os).map k = some a
def obsP {α : Type} (n : Nat) (k : PySem.W.Frag → α) (s : PySem.W.SharedT) : α := frL (He.frG (HandSHeadRun.getT s) (downTo n)) k
theorem obsP_eq {α : Type} (n : Nat) (k : PySem.W.Frag → α) (s : PySem.W.SharedT) : obsP n k s = k (He.frG (HandSHeadRun.getT s) (downTo n)) := frL_eq _ _
section
variable {r : PySem.W.OpenRow} {M : Nat} {w : World}
theorem RunP.both {α β γ : Type} {k1 : PySem.W.SharedT → α} {k2 : PySem.W.SharedT → β} {k : PySem.W.SharedT → γ} {a : α} {b : β} {c : γ} (h1 : RunP r M w k1 a) (h2 : RunP r M w k2 b) (h : ∀ s, k1 s = a → k2 s = b → k s = c) : RunP r M w k c := fun os => by
  obtain ⟨s, e, e1⟩ := Option.map_eq_some_iff.mp (h1 os)
  have e2 := h2 os
  rw [e] at e2 ⊢
  exact congrArg some (h s e1 (Option.some.inj e2))
/-- one more list of facts, looked at in a run of its own -/
theorem RunP.more {n : Nat} {ex ea eb : PySem.W.Frag → Bool} {fn : List DefZ} {ts : List TabZ} (he : ∀ K, ex K = (ea K && eb K)) (h1 : RunP r M w (obsP n ea) true)
    (h2 : RunP r M w (fun s => obsG n eb fn ts (HandSHeadRun.getT s)) (valG fn ts w)) : RunP r M w (fun s => obsG n ex fn ts (HandSHeadRun.getT s)) (valG fn ts w) := h1.both h2 fun s e1 e2 => by
  rw [obsP_eq] at e1
  have e3 : obsKG eb fn ts (He.frG (HandSHeadRun.getT s) (downTo n)) = valG fn ts w := (frL_eq _ _).symm.trans e2
  show frL _ _ = _
  rw [frL_eq, ← e3]
  unfold obsKG obsK
  rw [he, e1, Bool.true_and]
/-- the defs' objects, looked at in lots -/
theorem RunP.fns {n : Nat} {eb : PySem.W.Frag → Bool} {fn fa fb : List DefZ} {ts : List TabZ} (hf : fn = fa ++ fb) (h1 : RunP r M w (obsP n fun K => obsK (fun _ => true) fa K) (valZ fa))
    (h2 : RunP r M w (fun s => obsG n eb fb ts (HandSHeadRun.getT s)) (valG fb ts w)) : RunP r M w (fun s => obsG n eb fn ts (HandSHeadRun.getT s)) (valG fn ts w) := h1.both h2 fun s e1 e2 => by
  rw [obsP_eq] at e1
  have e3 : obsKG eb fb ts (He.frG (HandSHeadRun.getT s) (downTo n)) = valG fb ts w := (frL_eq _ _).symm.trans e2
  show frL _ _ = _
  rw [frL_eq]
  generalize He.frG (HandSHeadRun.getT s) (downTo n) = K at *
  subst hf
  have a1 : (fa.all fun d => d.ok K) = true := congrArg Prod.fst e1
  have a2 : fa.map (fun d => fnOb K (d.ad K)) = fa.map DefZ.val := congrArg Prod.snd e1
  have b1 : (eb K && fb.all fun d => d.ok K) = true := congrArg (fun z : AlG => z.1.1) e3
  have b2 : fb.map (fun d => fnOb K (d.ad K)) = fb.map DefZ.val := congrArg (fun z : AlG => z.1.2) e3
  have b3 : (ts.map fun t => He.dicW K (He.ga K t.1)) = ts.map fun t => some (He.keysIn w.params t.2) := congrArg (fun z : AlG => z.2) e3
  obtain ⟨c1, c2⟩ := Bool.and_eq_true_iff.mp b1
  unfold obsKG obsK valG valZ
  rw [List.all_append, List.map_append, List.map_append, a1, a2, b2, c1, c2, b3]
  rfl
theorem RunP.row {q : Program} {loose : List PySem.Str} {H : PySem.W.Hook} {ob : PySem.W.SharedT → H.α}
    (h1 : RunP r M w (fun s => (HandSHeadRun.looksF r.prog (PySem.W.boot_heap w.params) s.abs, HandSHeadRun.seenQ q loose (importedModules r.prog.main.body) (fun s => PySem.W.xlAt q [] s && PySem.W.recOk r.toRowW.records s) s.abs)) (true, PySem.W.openGood q loose))
    (h2 : RunP r M w ob (H.val w)) : HandSHeadRun.RunEq r q H ob M loose w := h1.both h2 fun s e1 e2 => by
  have a := congrArg Prod.fst e1
  have b := congrArg Prod.snd e1
  show (_, _, _) = _
  exact Prod.ext a (Prod.ext b e2)
end
end Z

set_option Elab.async false
set_option linter.all false
set_option maxRecDepth 100000
namespace Z
open PySem PySem.Spec PyProof.Rows L2
/-- the code table of the def q, the name of a lambda in it -/
def lamT (K : PySem.W.Frag) (q : Str) : Addr := (He.cT K (q, none)).2
def lamQ (q : Str) : Str := (q ++ ".<locals>.") ++ "<lambda>"
/-- the defs whose code tables are followed: told by records behind the written part (they stand at an address that is bound ahead of them, so no look-up meets them) -/
def tabsOf (K : PySem.W.Frag) : List Str := K.filterMap fun p => match p.2.cls with
  | .str q _ => some q
  | _ => none
abbrev tk (K : PySem.W.Frag) : Nat := (tabsOf K).length
end Z

set_option Elab.async false
set_option linter.all false
set_option maxRecDepth 100000
set_option maxHeartbeats 4000000
namespace Z
open PySem PySem.Spec PyProof.Rows L2
/-! ### facts of error classes as Bools -/
/-- the mro of the built-in class whose __new__ is n -/
def tailX (n : String) : Option (List Value) :=
  if n = "ValueError.__new__" then some [.type "ValueError", .type "Exception", .type "BaseException", .type "object"]
  else if n = "LookupError.__new__" then some [.type "LookupError", .type "Exception", .type "BaseException", .type "object"]
  else if n = "ArithmeticError.__new__" then some [.type "ArithmeticError", .type "Exception", .type "BaseException", .type "object"]
  else none
/-- own classes, then the built-in ones tl -/
def refsX (tl : List Value) : List Value → Bool
  | .ref _ :: r => refsX tl r
  | l => l == tl
/-- at C: an error class of the text -/
def excHB (K : PySem.W.Frag) (C : Addr) : Bool := match K.lookup C with
  | some ⟨.type "type", _, .cls cd, sl⟩ => (match cd.mro, sl.toList with
    | .ref C' :: bm, [_, _, _, _, some (.builtin n), _] => C' == C && (!cd.hasDel && (cd.hasDict && (match tailX n with
      | some tl => refsX tl bm
      | none => false)))
    | _, _ => false)
  | _ => false
theorem excHB_ok {K : PySem.W.Frag} {C : Addr} (q : excHB K C = true) : ∃ nw tl, tailX nw = some tl ∧ ∃ nm q N bs bm sn sub ab col dd k0 k1 k2 k3 k5, K.lookup C = some (excClassObj nm q C N bs bm true sn sub ab col dd k0 k1 k2 k3 k5 nw) ∧ refsX tl bm = true := by
  unfold excHB at q
  split at q
  · rename_i dd cd sl ho
    split at q
    · rename_i C' bm k0 k1 k2 k3 n k5 hm hs
      simp only [Bool.and_eq_true, beq_iff_eq, Bool.not_eq_true'] at q
      obtain ⟨rfl, hdel, hdict, hbm⟩ := q
      cases ht : tailX n with
      | none => rw [ht] at hbm; cases hbm
      | some tl =>
        rw [ht] at hbm
        obtain ⟨nm, bs, mro, ns, qn, hd, sn, sub, ab, col, del⟩ := cd
        dsimp only at hm hdel hdict
        subst hm hdel hdict
        have hsl : sl = #[k0, k1, k2, k3, some (.builtin n), k5] := by
          obtain ⟨l⟩ := sl
          simp only at hs
          rw [hs]
        subst hsl
        exact ⟨n, tl, ht, nm, qn, ns, bs, bm, sn, sub, ab, col, dd, k0, k1, k2, k3, k5, ho, hbm⟩
    · cases q
  · cases q
/-- the error class c, its __init__ and its one field f -/
def errB (K : PySem.W.Frag) (c f : Str) : Bool := excHB K (He.ga K c) && (He.eqO (PySem.W.findIn K (.ref (He.ga K c)) "__setattr__") (some (some (.builtin "object.__setattr__"))) && (He.eqO (PySem.W.findIn K (.ref (He.ga K c)) f) (some none) &&
  (He.eqO (PySem.W.findIn K (.ref (He.ga K c)) "__init__") (some (some (.ref (He.ma K (He.ga K c) "__init__")))) && ((PySem.W.typeIn K (.ref (He.ma K (He.ga K c) "__init__")) == some (.type "function")) && (PySem.W.keepIn K (.ref (He.ga K c)) &&
  (decide (PySem.W.subIn K (.ref (He.ga K c)) (.type "BaseException") = some true) && (PySem.W.typeIn K (.ref (He.ga K c)) == some (.type "type"))))))))
/-- errors of the classes cs are of the class c -/
def exmB (K : PySem.W.Frag) (cs : List Str) (c : Str) : Bool := cs.all fun y => decide (PySem.W.exmOne K (.ref (He.ga K y)) (.ref (He.ga K c)) = some true)
/-- errors of the classes cs are of one of the classes xs -/
def exmT (K : PySem.W.Frag) (cs xs : List Str) : Bool := cs.all fun y => decide (PySem.W.exmAny K (.ref (He.ga K y)) (xs.map fun x => .ref (He.ga K x)) = some true)
/-- at c: an error class whose errors are read -/
def errG (K : PySem.W.Frag) (c : Str) : Bool := (PySem.W.clsIn K (He.ga K c)).isSome && (He.eqO (PySem.W.findIn K (.ref (He.ga K c)) "__getattribute__") (some (some (.builtin "BaseException.__getattribute__"))) && (He.eqO (PySem.W.findIn K (.ref (He.ga K c)) "__getattr__") (some none) &&
  (decide (PySem.W.subIn K (.ref (He.ga K c)) (.type "BaseException") = some true) && (PySem.W.hasDictIn K (He.ga K c) && (He.eqO (PySem.W.findIn K (.ref (He.ga K c)) "__class__") (some (some (.builtin "object.__class__"))) && (He.eqO (PySem.W.specialIn K (.builtin "object.__class__") "__get__") (some (some (.builtin "getset_descriptor.__get__"))) &&
  (decide (PySem.W.takesIn K (.builtin "object.__class__") = some true) && decide (PySem.W.mroIn K (He.ga K c) (.type "object") = some true))))))))
/-- errors of the classes cs are read at f -/
def errF (K : PySem.W.Frag) (cs : List Str) (f : Str) : Bool := cs.all fun c => errG K c && He.eqO (PySem.W.findIn K (.ref (He.ga K c)) f) (some none)
/-- errors of the classes cs are of the classes ts just as the pairs tell -/
def isxB (K : PySem.W.Frag) (prs : List (Str × Str)) (cs ts : List Str) : Bool := (cs.all fun c => errG K c) && (cs.all fun c => ts.all fun t => decide (PySem.W.kitOne K (.ref (He.ga K c)) (.ref (He.ga K t)) = some (decide ((c, t) ∈ prs))))
end Z

set_option Elab.async false
set_option linter.all false
set_option maxRecDepth 100000
set_option maxHeartbeats 4000000
namespace Z
open PySem PySem.Spec PyProof.Rows L2
/-! ### more facts of error classes as Bools -/
/-- the error class c, its __init__ passes -/
def errN (K : PySem.W.Frag) (c : Str) : Bool := excHB K (He.ga K c) && (He.eqO (PySem.W.findIn K (.ref (He.ga K c)) "__init__") (some (some (.ref (He.ma K (He.ga K c) "__init__")))) && ((PySem.W.typeIn K (.ref (He.ma K (He.ga K c) "__init__")) == some (.type "function")) && PySem.W.keepIn K (.ref (He.ga K c))))
def iniN (n : String) : String := if n = "ValueError.__new__" then "ValueError.__init__" else if n = "LookupError.__new__" then "LookupError.__init__" else "ArithmeticError.__init__"
/-- the built-in __init__ of the class at C -/
def nwB (K : PySem.W.Frag) (C : Addr) : Bool := match K.lookup C with
  | some ⟨_, _, _, sl⟩ => (match sl.toList with
    | [_, _, _, _, some (.builtin n), _] => He.eqO (PySem.W.findIn K (.ref C) "__init__") (some (some (.builtin (iniN n))))
    | _ => false)
  | none => false
/-- the error class c, without an __init__ of its own -/
def errB0 (K : PySem.W.Frag) (c : Str) : Bool := excHB K (He.ga K c) && (nwB K (He.ga K c) && PySem.W.keepIn K (.ref (He.ga K c)))
/-- errors of the classes cs are of the built-in classes ts just as the pairs tell -/
def isyB (K : PySem.W.Frag) (prs : List (Str × String)) (cs : List Str) (ts : List String) : Bool := (cs.all fun c => errG K c) && (cs.all fun c => ts.all fun t => decide (PySem.W.kitOne K (.ref (He.ga K c)) (.type t) = some (decide ((c, t) ∈ prs))))
end Z

set_option Elab.async false
set_option linter.all false
set_option maxRecDepth 100000
namespace Z
open PySem PySem.Spec PyProof.Rows L2
/-! ### an own class and the built-in kinds -/
def kndL : List String := ["NoneType", "bool", "int", "str", "tuple", "list", "dict"]
/-- the class c and the built-in kinds: none is a kind of the other -/
def oeB (K : PySem.W.Frag) (c : Str) : Bool := kndL.all fun T => decide (PySem.W.subIn K (.type T) (.ref (He.ga K c)) = some false) && decide (PySem.W.subIn K (.ref (He.ga K c)) (.type T) = some false)
def neC (K : PySem.W.Frag) (c : Str) : Bool := He.eqO (PySem.W.findIn K (.ref (He.ga K c)) "__ne__") (some (some (.builtin "object.__ne__"))) && decide (PySem.W.mroIn K (He.ga K c) (.type "object") = some true)
end Z

set_option Elab.async false
set_option linter.all false
set_option maxRecDepth 100000
set_option maxHeartbeats 0
namespace Z
namespace K01
open PySem PySem.Spec PyProof.Rows L2
def top (i : Nat) : Stmt := PySem.Challenge.pw_ringshares_k01_limits_and_errors.main.body.getD i (.Pass ⟨0, 0, 0, 0⟩)
abbrev st__law_sorts : Stmt := top 43
def d__law_sorts : DefZ := ⟨.g "_law_sorts", "_law_sorts", "_law_sorts", defArgs st__law_sorts, defBody st__law_sorts, defScope st__law_sorts, []⟩
abbrev st__law_bases : Stmt := top 44
def d__law_bases : DefZ := ⟨.g "_law_bases", "_law_bases", "_law_bases", defArgs st__law_bases, defBody st__law_bases, defScope st__law_bases, []⟩
abbrev st__law_dip : Stmt := top 38
def d__law_dip : DefZ := ⟨.g "_law_dip", "_law_dip", "_law_dip", defArgs st__law_dip, defBody st__law_dip, defScope st__law_dip, []⟩
abbrev st__law_of : Stmt := top 39
def d__law_of : DefZ := ⟨.g "_law_of", "_law_of", "_law_of", defArgs st__law_of, defBody st__law_of, defScope st__law_of, []⟩
abbrev st__law_value : Stmt := top 40
def d__law_value : DefZ := ⟨.g "_law_value", "_law_value", "_law_value", defArgs st__law_value, defBody st__law_value, defScope st__law_value, []⟩
abbrev st__law_held : Stmt := top 45
def d__law_held : DefZ := ⟨.g "_law_held", "_law_held", "_law_held", defArgs st__law_held, defBody st__law_held, defScope st__law_held, []⟩
abbrev st__law_lot_right : Stmt := top 46
def d__law_lot_right : DefZ := ⟨.g "_law_lot_right", "_law_lot_right", "_law_lot_right", defArgs st__law_lot_right, defBody st__law_lot_right, defScope st__law_lot_right, []⟩
abbrev st_InvalidText___init__ : Stmt := inClass (top 4) 0
def d_InvalidText___init__ : DefZ := ⟨.m "InvalidText" "__init__", "__init__", "InvalidText.__init__", defArgs st_InvalidText___init__, defBody st_InvalidText___init__, defScope st_InvalidText___init__, []⟩
abbrev st_InvalidNumber___init__ : Stmt := inClass (top 5) 0
def d_InvalidNumber___init__ : DefZ := ⟨.m "InvalidNumber" "__init__", "__init__", "InvalidNumber.__init__", defArgs st_InvalidNumber___init__, defBody st_InvalidNumber___init__, defScope st_InvalidNumber___init__, []⟩
abbrev st_InvalidSpread___init__ : Stmt := inClass (top 6) 0
def d_InvalidSpread___init__ : DefZ := ⟨.m "InvalidSpread" "__init__", "__init__", "InvalidSpread.__init__", defArgs st_InvalidSpread___init__, defBody st_InvalidSpread___init__, defScope st_InvalidSpread___init__, []⟩
abbrev st_InvalidPending___init__ : Stmt := inClass (top 7) 0
def d_InvalidPending___init__ : DefZ := ⟨.m "InvalidPending" "__init__", "__init__", "InvalidPending.__init__", defArgs st_InvalidPending___init__, defBody st_InvalidPending___init__, defScope st_InvalidPending___init__, []⟩
abbrev st_InvalidPoint___init__ : Stmt := inClass (top 8) 0
def d_InvalidPoint___init__ : DefZ := ⟨.m "InvalidPoint" "__init__", "__init__", "InvalidPoint.__init__", defArgs st_InvalidPoint___init__, defBody st_InvalidPoint___init__, defScope st_InvalidPoint___init__, []⟩
abbrev st_InvalidName___init__ : Stmt := inClass (top 9) 0
def d_InvalidName___init__ : DefZ := ⟨.m "InvalidName" "__init__", "__init__", "InvalidName.__init__", defArgs st_InvalidName___init__, defBody st_InvalidName___init__, defScope st_InvalidName___init__, []⟩
abbrev st_InvalidMarks___init__ : Stmt := inClass (top 10) 0
def d_InvalidMarks___init__ : DefZ := ⟨.m "InvalidMarks" "__init__", "__init__", "InvalidMarks.__init__", defArgs st_InvalidMarks___init__, defBody st_InvalidMarks___init__, defScope st_InvalidMarks___init__, []⟩
abbrev st_InvalidStep___init__ : Stmt := inClass (top 11) 0
def d_InvalidStep___init__ : DefZ := ⟨.m "InvalidStep" "__init__", "__init__", "InvalidStep.__init__", defArgs st_InvalidStep___init__, defBody st_InvalidStep___init__, defScope st_InvalidStep___init__, []⟩
abbrev st_InvalidMoment___init__ : Stmt := inClass (top 12) 0
def d_InvalidMoment___init__ : DefZ := ⟨.m "InvalidMoment" "__init__", "__init__", "InvalidMoment.__init__", defArgs st_InvalidMoment___init__, defBody st_InvalidMoment___init__, defScope st_InvalidMoment___init__, []⟩
abbrev st_InvalidTakers___init__ : Stmt := inClass (top 13) 0
def d_InvalidTakers___init__ : DefZ := ⟨.m "InvalidTakers" "__init__", "__init__", "InvalidTakers.__init__", defArgs st_InvalidTakers___init__, defBody st_InvalidTakers___init__, defScope st_InvalidTakers___init__, []⟩
abbrev st_InvalidKind___init__ : Stmt := inClass (top 14) 0
def d_InvalidKind___init__ : DefZ := ⟨.m "InvalidKind" "__init__", "__init__", "InvalidKind.__init__", defArgs st_InvalidKind___init__, defBody st_InvalidKind___init__, defScope st_InvalidKind___init__, []⟩
abbrev st_InvalidWish___init__ : Stmt := inClass (top 15) 0
def d_InvalidWish___init__ : DefZ := ⟨.m "InvalidWish" "__init__", "__init__", "InvalidWish.__init__", defArgs st_InvalidWish___init__, defBody st_InvalidWish___init__, defScope st_InvalidWish___init__, []⟩
abbrev st_InvalidIndex___init__ : Stmt := inClass (top 16) 0
def d_InvalidIndex___init__ : DefZ := ⟨.m "InvalidIndex" "__init__", "__init__", "InvalidIndex.__init__", defArgs st_InvalidIndex___init__, defBody st_InvalidIndex___init__, defScope st_InvalidIndex___init__, []⟩
abbrev st_NotARing___init__ : Stmt := inClass (top 17) 0
def d_NotARing___init__ : DefZ := ⟨.m "NotARing" "__init__", "__init__", "NotARing.__init__", defArgs st_NotARing___init__, defBody st_NotARing___init__, defScope st_NotARing___init__, []⟩
abbrev st_NotAPlan___init__ : Stmt := inClass (top 18) 0
def d_NotAPlan___init__ : DefZ := ⟨.m "NotAPlan" "__init__", "__init__", "NotAPlan.__init__", defArgs st_NotAPlan___init__, defBody st_NotAPlan___init__, defScope st_NotAPlan___init__, []⟩
abbrev st_OtherPoints___init__ : Stmt := inClass (top 19) 0
def d_OtherPoints___init__ : DefZ := ⟨.m "OtherPoints" "__init__", "__init__", "OtherPoints.__init__", defArgs st_OtherPoints___init__, defBody st_OtherPoints___init__, defScope st_OtherPoints___init__, []⟩
abbrev st_InvalidHosts___init__ : Stmt := inClass (top 20) 0
def d_InvalidHosts___init__ : DefZ := ⟨.m "InvalidHosts" "__init__", "__init__", "InvalidHosts.__init__", defArgs st_InvalidHosts___init__, defBody st_InvalidHosts___init__, defScope st_InvalidHosts___init__, []⟩
abbrev st_InvalidSteps___init__ : Stmt := inClass (top 21) 0
def d_InvalidSteps___init__ : DefZ := ⟨.m "InvalidSteps" "__init__", "__init__", "InvalidSteps.__init__", defArgs st_InvalidSteps___init__, defBody st_InvalidSteps___init__, defScope st_InvalidSteps___init__, []⟩
abbrev st_InvalidFurther___init__ : Stmt := inClass (top 22) 0
def d_InvalidFurther___init__ : DefZ := ⟨.m "InvalidFurther" "__init__", "__init__", "InvalidFurther.__init__", defArgs st_InvalidFurther___init__, defBody st_InvalidFurther___init__, defScope st_InvalidFurther___init__, []⟩
abbrev st_InvalidWishes___init__ : Stmt := inClass (top 23) 0
def d_InvalidWishes___init__ : DefZ := ⟨.m "InvalidWishes" "__init__", "__init__", "InvalidWishes.__init__", defArgs st_InvalidWishes___init__, defBody st_InvalidWishes___init__, defScope st_InvalidWishes___init__, []⟩
abbrev st_UnknownName___init__ : Stmt := inClass (top 24) 0
def d_UnknownName___init__ : DefZ := ⟨.m "UnknownName" "__init__", "__init__", "UnknownName.__init__", defArgs st_UnknownName___init__, defBody st_UnknownName___init__, defScope st_UnknownName___init__, []⟩
abbrev st_InUse___init__ : Stmt := inClass (top 25) 0
def d_InUse___init__ : DefZ := ⟨.m "InUse" "__init__", "__init__", "InUse.__init__", defArgs st_InUse___init__, defBody st_InUse___init__, defScope st_InUse___init__, []⟩
abbrev st_NothingToUndo___init__ : Stmt := inClass (top 26) 0
def d_NothingToUndo___init__ : DefZ := ⟨.m "NothingToUndo" "__init__", "__init__", "NothingToUndo.__init__", defArgs st_NothingToUndo___init__, defBody st_NothingToUndo___init__, defScope st_NothingToUndo___init__, []⟩
abbrev st_NoRoom___init__ : Stmt := inClass (top 27) 0
def d_NoRoom___init__ : DefZ := ⟨.m "NoRoom" "__init__", "__init__", "NoRoom.__init__", defArgs st_NoRoom___init__, defBody st_NoRoom___init__, defScope st_NoRoom___init__, []⟩
abbrev st_Broken___init__ : Stmt := inClass (top 28) 0
def d_Broken___init__ : DefZ := ⟨.m "Broken" "__init__", "__init__", "Broken.__init__", defArgs st_Broken___init__, defBody st_Broken___init__, defScope st_Broken___init__, []⟩
abbrev st__law_placed : Stmt := top 41
def d__law_placed : DefZ := ⟨.g "_law_placed", "_law_placed", "_law_placed", defArgs st__law_placed, defBody st__law_placed, defScope st__law_placed, []⟩
abbrev st__law_named : Stmt := top 42
def d__law_named : DefZ := ⟨.g "_law_named", "_law_named", "_law_named", defArgs st__law_named, defBody st__law_named, defScope st__law_named, []⟩
abbrev st__law_right : Stmt := top 47
def d__law_right : DefZ := ⟨.g "_law_right", "_law_right", "_law_right", defArgs st__law_right, defBody st__law_right, defScope st__law_right, []⟩
abbrev st__law_filled : Stmt := top 37
def d__law_filled : DefZ := ⟨.g "_law_filled", "_law_filled", "_law_filled", defArgs st__law_filled, defBody st__law_filled, defScope st__law_filled, []⟩
abbrev st_law : Stmt := top 48
def d_law : DefZ := ⟨.g "law", "law", "law", defArgs st_law, defBody st_law, defScope st_law, []⟩
def ex0 : List (PySem.W.Frag → Bool) := [fun K => (He.Fa.int "MOST_POINTS" 1000000000000000000).ok K,
  fun K => (He.Fa.int "MOST_FACTOR" 5).ok K,
  fun K => (He.Fa.int "MOST_HOSTS" 12).ok K,
  fun K => (He.Fa.int "MOST_MARKS" 16).ok K,
  fun K => (He.Fa.int "MOST_STEPS" 24).ok K,
  fun K => (He.Fa.int "MOST_FURTHER" 6).ok K,
  fun K => (He.Fa.int "MOST_WISHES" 6).ok K,
  fun K => (He.Fa.free "repr").ok K,
  fun K => (match K.lookup sysModules with | some o => (o.cls == .type "dict") | none => false),
  fun K => (He.Fa.glo "BadValue").ok K,
  fun K => errB0 K "BadValue",
  fun K => (He.Fa.glo "BadName").ok K,
  fun K => errB0 K "BadName",
  fun K => (He.Fa.glo "NoAnswer").ok K,
  fun K => errB0 K "NoAnswer",
  fun K => (He.Fa.free "range").ok K,
  fun K => (He.Fa.glo "InvalidText").ok K,
  fun K => (He.Fa.free "isinstance").ok K,
  fun K => isxB K [(("BadName" : PySem.Str), ("BadName" : PySem.Str)), (("BadValue" : PySem.Str), ("BadValue" : PySem.Str)), (("Broken" : PySem.Str), ("NoAnswer" : PySem.Str)), (("Broken" : PySem.Str), ("Broken" : PySem.Str)), (("InUse" : PySem.Str), ("BadName" : PySem.Str)), (("InUse" : PySem.Str), ("InUse" : PySem.Str)), (("InvalidFurther" : PySem.Str), ("BadValue" : PySem.Str)), (("InvalidFurther" : PySem.Str), ("InvalidFurther" : PySem.Str)), (("InvalidHosts" : PySem.Str), ("BadValue" : PySem.Str)), (("InvalidHosts" : PySem.Str), ("InvalidHosts" : PySem.Str)), (("InvalidIndex" : PySem.Str), ("BadValue" : PySem.Str)), (("InvalidIndex" : PySem.Str), ("InvalidIndex" : PySem.Str)), (("InvalidKind" : PySem.Str), ("BadValue" : PySem.Str)), (("InvalidKind" : PySem.Str), ("InvalidKind" : PySem.Str)), (("InvalidMarks" : PySem.Str), ("BadValue" : PySem.Str)), (("InvalidMarks" : PySem.Str), ("InvalidMarks" : PySem.Str)), (("InvalidMoment" : PySem.Str), ("BadValue" : PySem.Str)), (("InvalidMoment" : PySem.Str), ("InvalidMoment" : PySem.Str)), (("InvalidName" : PySem.Str), ("BadValue" : PySem.Str)), (("InvalidName" : PySem.Str), ("InvalidName" : PySem.Str)), (("InvalidNumber" : PySem.Str), ("BadValue" : PySem.Str)), (("InvalidNumber" : PySem.Str), ("InvalidNumber" : PySem.Str)), (("InvalidPending" : PySem.Str), ("BadValue" : PySem.Str)), (("InvalidPending" : PySem.Str), ("InvalidPending" : PySem.Str)), (("InvalidPoint" : PySem.Str), ("BadValue" : PySem.Str)), (("InvalidPoint" : PySem.Str), ("InvalidPoint" : PySem.Str)), (("InvalidSpread" : PySem.Str), ("BadValue" : PySem.Str)), (("InvalidSpread" : PySem.Str), ("InvalidSpread" : PySem.Str)), (("InvalidStep" : PySem.Str), ("BadValue" : PySem.Str)), (("InvalidStep" : PySem.Str), ("InvalidStep" : PySem.Str)), (("InvalidSteps" : PySem.Str), ("BadValue" : PySem.Str)), (("InvalidSteps" : PySem.Str), ("InvalidSteps" : PySem.Str)), (("InvalidTakers" : PySem.Str), ("BadValue" : PySem.Str)), (("InvalidTakers" : PySem.Str), ("InvalidTakers" : PySem.Str)), (("InvalidText" : PySem.Str), ("BadValue" : PySem.Str)), (("InvalidText" : PySem.Str), ("InvalidText" : PySem.Str)), (("InvalidWish" : PySem.Str), ("BadValue" : PySem.Str)), (("InvalidWish" : PySem.Str), ("InvalidWish" : PySem.Str)), (("InvalidWishes" : PySem.Str), ("BadValue" : PySem.Str)), (("InvalidWishes" : PySem.Str), ("InvalidWishes" : PySem.Str)), (("NoAnswer" : PySem.Str), ("NoAnswer" : PySem.Str)), (("NoRoom" : PySem.Str), ("NoAnswer" : PySem.Str)), (("NoRoom" : PySem.Str), ("NoRoom" : PySem.Str)), (("NotAPlan" : PySem.Str), ("BadValue" : PySem.Str)), (("NotAPlan" : PySem.Str), ("NotAPlan" : PySem.Str)), (("NotARing" : PySem.Str), ("BadValue" : PySem.Str)), (("NotARing" : PySem.Str), ("NotARing" : PySem.Str)), (("NothingToUndo" : PySem.Str), ("NoAnswer" : PySem.Str)), (("NothingToUndo" : PySem.Str), ("NothingToUndo" : PySem.Str)), (("OtherPoints" : PySem.Str), ("BadValue" : PySem.Str)), (("OtherPoints" : PySem.Str), ("OtherPoints" : PySem.Str)), (("UnknownName" : PySem.Str), ("BadName" : PySem.Str)), (("UnknownName" : PySem.Str), ("UnknownName" : PySem.Str))] [("BadName" : PySem.Str), ("BadValue" : PySem.Str), ("Broken" : PySem.Str), ("InUse" : PySem.Str), ("InvalidFurther" : PySem.Str), ("InvalidHosts" : PySem.Str), ("InvalidIndex" : PySem.Str), ("InvalidKind" : PySem.Str), ("InvalidMarks" : PySem.Str), ("InvalidMoment" : PySem.Str), ("InvalidName" : PySem.Str), ("InvalidNumber" : PySem.Str), ("InvalidPending" : PySem.Str), ("InvalidPoint" : PySem.Str), ("InvalidSpread" : PySem.Str), ("InvalidStep" : PySem.Str), ("InvalidSteps" : PySem.Str), ("InvalidTakers" : PySem.Str), ("InvalidText" : PySem.Str), ("InvalidWish" : PySem.Str), ("InvalidWishes" : PySem.Str), ("NoAnswer" : PySem.Str), ("NoRoom" : PySem.Str), ("NotAPlan" : PySem.Str), ("NotARing" : PySem.Str), ("NothingToUndo" : PySem.Str), ("OtherPoints" : PySem.Str), ("UnknownName" : PySem.Str)] [("BadValue" : PySem.Str), ("BadName" : PySem.Str), ("NoAnswer" : PySem.Str), ("InvalidText" : PySem.Str), ("InvalidNumber" : PySem.Str), ("InvalidSpread" : PySem.Str), ("InvalidPending" : PySem.Str), ("InvalidPoint" : PySem.Str), ("InvalidName" : PySem.Str), ("InvalidMarks" : PySem.Str), ("InvalidStep" : PySem.Str), ("InvalidMoment" : PySem.Str), ("InvalidTakers" : PySem.Str), ("InvalidKind" : PySem.Str), ("InvalidWish" : PySem.Str), ("InvalidIndex" : PySem.Str), ("NotARing" : PySem.Str), ("NotAPlan" : PySem.Str), ("OtherPoints" : PySem.Str), ("InvalidHosts" : PySem.Str), ("InvalidSteps" : PySem.Str), ("InvalidFurther" : PySem.Str), ("InvalidWishes" : PySem.Str), ("UnknownName" : PySem.Str), ("InUse" : PySem.Str), ("NothingToUndo" : PySem.Str), ("NoRoom" : PySem.Str), ("Broken" : PySem.Str)],
  fun K => isyB K [(("BadName" : PySem.Str), ("LookupError" : String)), (("BadValue" : PySem.Str), ("ValueError" : String)), (("Broken" : PySem.Str), ("ArithmeticError" : String)), (("InUse" : PySem.Str), ("LookupError" : String)), (("InvalidFurther" : PySem.Str), ("ValueError" : String)), (("InvalidHosts" : PySem.Str), ("ValueError" : String)), (("InvalidIndex" : PySem.Str), ("ValueError" : String)), (("InvalidKind" : PySem.Str), ("ValueError" : String)), (("InvalidMarks" : PySem.Str), ("ValueError" : String)), (("InvalidMoment" : PySem.Str), ("ValueError" : String)), (("InvalidName" : PySem.Str), ("ValueError" : String)), (("InvalidNumber" : PySem.Str), ("ValueError" : String)), (("InvalidPending" : PySem.Str), ("ValueError" : String)), (("InvalidPoint" : PySem.Str), ("ValueError" : String)), (("InvalidSpread" : PySem.Str), ("ValueError" : String)), (("InvalidStep" : PySem.Str), ("ValueError" : String)), (("InvalidSteps" : PySem.Str), ("ValueError" : String)), (("InvalidTakers" : PySem.Str), ("ValueError" : String)), (("InvalidText" : PySem.Str), ("ValueError" : String)), (("InvalidWish" : PySem.Str), ("ValueError" : String)), (("InvalidWishes" : PySem.Str), ("ValueError" : String)), (("NoAnswer" : PySem.Str), ("ArithmeticError" : String)), (("NoRoom" : PySem.Str), ("ArithmeticError" : String)), (("NotAPlan" : PySem.Str), ("ValueError" : String)), (("NotARing" : PySem.Str), ("ValueError" : String)), (("NothingToUndo" : PySem.Str), ("ArithmeticError" : String)), (("OtherPoints" : PySem.Str), ("ValueError" : String)), (("UnknownName" : PySem.Str), ("LookupError" : String))] [("BadName" : PySem.Str), ("BadValue" : PySem.Str), ("Broken" : PySem.Str), ("InUse" : PySem.Str), ("InvalidFurther" : PySem.Str), ("InvalidHosts" : PySem.Str), ("InvalidIndex" : PySem.Str), ("InvalidKind" : PySem.Str), ("InvalidMarks" : PySem.Str), ("InvalidMoment" : PySem.Str), ("InvalidName" : PySem.Str), ("InvalidNumber" : PySem.Str), ("InvalidPending" : PySem.Str), ("InvalidPoint" : PySem.Str), ("InvalidSpread" : PySem.Str), ("InvalidStep" : PySem.Str), ("InvalidSteps" : PySem.Str), ("InvalidTakers" : PySem.Str), ("InvalidText" : PySem.Str), ("InvalidWish" : PySem.Str), ("InvalidWishes" : PySem.Str), ("NoAnswer" : PySem.Str), ("NoRoom" : PySem.Str), ("NotAPlan" : PySem.Str), ("NotARing" : PySem.Str), ("NothingToUndo" : PySem.Str), ("OtherPoints" : PySem.Str), ("UnknownName" : PySem.Str)] [("ValueError" : String), ("LookupError" : String), ("ArithmeticError" : String)]]
def ex1 : List (PySem.W.Frag → Bool) := [fun K => (He.Fa.glo "Broken").ok K,
  fun K => (He.Fa.glo "InUse").ok K,
  fun K => (He.Fa.glo "InvalidFurther").ok K,
  fun K => (He.Fa.glo "InvalidHosts").ok K,
  fun K => (He.Fa.glo "InvalidIndex").ok K,
  fun K => (He.Fa.glo "InvalidKind").ok K,
  fun K => (He.Fa.glo "InvalidMarks").ok K,
  fun K => (He.Fa.glo "InvalidMoment").ok K,
  fun K => (He.Fa.glo "InvalidName").ok K,
  fun K => (He.Fa.glo "InvalidNumber").ok K,
  fun K => (He.Fa.glo "InvalidPending").ok K,
  fun K => (He.Fa.glo "InvalidPoint").ok K,
  fun K => (He.Fa.glo "InvalidSpread").ok K,
  fun K => (He.Fa.glo "InvalidStep").ok K,
  fun K => (He.Fa.glo "InvalidSteps").ok K,
  fun K => (He.Fa.glo "InvalidTakers").ok K,
  fun K => (He.Fa.glo "InvalidWish").ok K,
  fun K => (He.Fa.glo "InvalidWishes").ok K,
  fun K => (He.Fa.glo "NoRoom").ok K,
  fun K => (He.Fa.glo "NotAPlan").ok K]
def ex2 : List (PySem.W.Frag → Bool) := [fun K => (He.Fa.glo "NotARing").ok K,
  fun K => (He.Fa.glo "NothingToUndo").ok K,
  fun K => (He.Fa.glo "OtherPoints").ok K,
  fun K => (He.Fa.glo "UnknownName").ok K,
  fun K => (He.Fa.glo "_law_sorts").ok K,
  fun K => (He.Fa.free "ValueError").ok K,
  fun K => (He.Fa.free "LookupError").ok K,
  fun K => (He.Fa.free "ArithmeticError").ok K,
  fun K => (He.Fa.glo "_law_bases").ok K,
  fun K => (He.Fa.free "len").ok K,
  fun K => (He.Fa.free "min").ok K,
  fun K => (He.Fa.free "max").ok K,
  fun K => (He.Fa.free "divmod").ok K,
  fun K => (He.Fa.free "int").ok K,
  fun K => (He.Fa.glo "_law_dip").ok K,
  fun K => (He.Fa.glo "_law_of").ok K,
  fun K => (He.Fa.glo "_law_value").ok K,
  fun K => errF K ["Broken", "InUse", "InvalidFurther", "InvalidHosts", "InvalidSteps", "InvalidWishes"] "index",
  fun K => errF K ["InvalidIndex", "InvalidKind", "InvalidMarks", "InvalidMoment", "InvalidName", "InvalidNumber", "InvalidPending", "InvalidPoint", "InvalidSpread", "InvalidStep", "InvalidTakers", "InvalidText", "InvalidWish", "NoRoom", "NotAPlan", "NotARing", "OtherPoints", "UnknownName"] "given",
  fun K => (He.Fa.glo "_law_held").ok K]
def ex3 : List (PySem.W.Frag → Bool) := [fun K => errB K "InvalidText" "given",
  fun K => errB K "InvalidNumber" "given",
  fun K => errB K "InvalidSpread" "given",
  fun K => errB K "InvalidPending" "given",
  fun K => errB K "InvalidPoint" "given",
  fun K => errB K "InvalidName" "given",
  fun K => errB K "InvalidMarks" "given",
  fun K => errB K "InvalidStep" "given",
  fun K => errB K "InvalidMoment" "given",
  fun K => errB K "InvalidTakers" "given",
  fun K => errB K "InvalidKind" "given",
  fun K => errB K "InvalidWish" "given",
  fun K => errB K "InvalidIndex" "given",
  fun K => errB K "NotARing" "given",
  fun K => errB K "NotAPlan" "given",
  fun K => errB K "OtherPoints" "given",
  fun K => errB K "InvalidHosts" "index",
  fun K => errB K "InvalidSteps" "index",
  fun K => errB K "InvalidFurther" "index",
  fun K => errB K "InvalidWishes" "index"]
def ex4 : List (PySem.W.Frag → Bool) := [fun K => errB K "UnknownName" "given",
  fun K => errB K "InUse" "index",
  fun K => errN K "NothingToUndo",
  fun K => errB K "NoRoom" "given",
  fun K => errB K "Broken" "index",
  fun K => (He.Fa.glo "_law_placed").ok K,
  fun K => (He.Fa.glo "_law_lot_right").ok K,
  fun K => (He.Fa.glo "_law_named").ok K,
  fun K => (He.Fa.free "abs").ok K,
  fun K => (He.Fa.glo "_law_filled").ok K,
  fun K => (He.Fa.glo "_law_right").ok K,
  fun K => (He.Fa.free "all").ok K,
  fun K => (He.Fa.glo "law").ok K,
  fun K => noLstF K]
def exC : List (List (PySem.W.Frag → Bool)) := [ex0, ex1, ex2, ex3, ex4]
def exL : List (PySem.W.Frag → Bool) := exC.flatten
def fn0 : List DefZ := [d__law_sorts, d__law_bases, d__law_dip, d__law_of, d__law_value, d__law_held, d__law_lot_right, d_InvalidText___init__, d_InvalidNumber___init__, d_InvalidSpread___init__, d_InvalidPending___init__, d_InvalidPoint___init__, d_InvalidName___init__, d_InvalidMarks___init__, d_InvalidStep___init__, d_InvalidMoment___init__, d_InvalidTakers___init__, d_InvalidKind___init__, d_InvalidWish___init__, d_InvalidIndex___init__]
def fn1 : List DefZ := [d_NotARing___init__, d_NotAPlan___init__, d_OtherPoints___init__, d_InvalidHosts___init__, d_InvalidSteps___init__, d_InvalidFurther___init__, d_InvalidWishes___init__, d_UnknownName___init__, d_InUse___init__, d_NothingToUndo___init__, d_NoRoom___init__, d_Broken___init__, d__law_placed, d__law_named, d__law_right, d__law_filled, d_law]
def fnC : List (List DefZ) := [fn0, fn1]
def fnL : List DefZ := fnC.flatten
def names0 : List PySem.Str := ["BadValue", "BadName", "NoAnswer", "InvalidText", "InvalidNumber", "InvalidSpread", "InvalidPending", "InvalidPoint", "InvalidName", "InvalidMarks", "InvalidStep", "InvalidMoment", "InvalidTakers", "InvalidKind", "InvalidWish", "InvalidIndex", "NotARing", "NotAPlan", "OtherPoints", "InvalidHosts", "InvalidSteps", "InvalidFurther", "InvalidWishes", "UnknownName", "InUse", "NothingToUndo", "NoRoom", "Broken", "MOST_POINTS", "MOST_FACTOR"]
def names1 : List PySem.Str := ["MOST_HOSTS", "MOST_MARKS", "MOST_STEPS", "MOST_FURTHER", "MOST_WISHES", "_law_filled", "_law_dip", "_law_of", "_law_value", "_law_placed", "_law_named", "_law_sorts", "_law_bases", "_law_held", "_law_lot_right", "_law_right"]
def names : List PySem.Str := names0 ++ names1
abbrev exF : PySem.W.Frag → Bool := fun K => exL.all fun f => f K
abbrev R : PySem.W.OpenRow := PySem.W.OpenLaw.row PySem.Challenge.rw_ringshares_k01_limits_and_errors
def tsL : List TabZ := []
abbrev hk : PySem.W.Hook := hookG 1400 exF fnL tsL
def ob (s : PySem.W.SharedT) : AlG := obsG 1400 exF fnL tsL (HandSHeadRun.getT s)
theorem ob_eq (s : PySem.W.SharedT) : ob s = hk.obs s.abs := obsG_eq (HandSHeadRun.getT_eq s)
def exA (K : PySem.W.Frag) : Bool := (List.flatten [ex0, ex1, ex2]).all fun f => f K
def exB (K : PySem.W.Frag) : Bool := (List.flatten [ex3, ex4]).all fun f => f K
theorem exAB (K : PySem.W.Frag) : exF K = (exA K && exB K) := by
  show (List.flatten ([ex0, ex1, ex2] ++ [ex3, ex4])).all _ = _
  rw [List.flatten_append, List.all_append]
  rfl
def fnA : List DefZ := List.flatten [fn0]
def fnB : List DefZ := List.flatten [fn1]
theorem fnAB : fnL = fnA ++ fnB := by
  show List.flatten ([fn0] ++ [fn1]) = _
  rw [List.flatten_append]
  rfl
theorem exC_false (w : World) : RunP R 20000 (w.withFollow "special-get-raises" false) (obsP 1400 exF) true := by
  intro os
  kernel_rfl
theorem seen_false (w : World) : RunP R 20000 (w.withFollow "special-get-raises" false) (fun s => (HandSHeadRun.looksF R.prog (PySem.W.boot_heap (w.withFollow "special-get-raises" false).params) s.abs, HandSHeadRun.seenQ (PySem.W.view R.prog [48]) names (importedModules R.prog.main.body) (fun s => PySem.W.xlAt (PySem.W.view R.prog [48]) [] s && PySem.W.recOk R.toRowW.records s) s.abs)) (true, PySem.W.openGood (PySem.W.view R.prog [48]) names) := by
  intro os
  kernel_rfl
theorem fnA_false (w : World) : RunP R 20000 (w.withFollow "special-get-raises" false) (obsP 1400 fun K => obsK (fun _ => true) fnA K) (valZ fnA) := by
  intro os
  kernel_rfl
theorem fnB_false (w : World) : RunP R 20000 (w.withFollow "special-get-raises" false) (fun s => obsG 1400 (fun _ => true) fnB tsL (HandSHeadRun.getT s)) (valG fnB tsL (w.withFollow "special-get-raises" false)) := by
  intro os
  kernel_rfl
theorem obs_false (w : World) : RunP R 20000 (w.withFollow "special-get-raises" false) ob (hk.val (w.withFollow "special-get-raises" false)) := RunP.more (fun K => (Bool.and_true _).symm) (exC_false w) (RunP.fns fnAB (fnA_false w) (fnB_false w))
theorem run_false (w : World) : HandSHeadRun.RunEq R (PySem.W.view R.prog [48]) hk ob 20000 names (w.withFollow "special-get-raises" false) := RunP.row (seen_false w) (obs_false w)
theorem exC_true (w : World) : RunP R 20000 (w.withFollow "special-get-raises" true) (obsP 1400 exF) true := by
  intro os
  kernel_rfl
theorem seen_true (w : World) : RunP R 20000 (w.withFollow "special-get-raises" true) (fun s => (HandSHeadRun.looksF R.prog (PySem.W.boot_heap (w.withFollow "special-get-raises" true).params) s.abs, HandSHeadRun.seenQ (PySem.W.view R.prog [48]) names (importedModules R.prog.main.body) (fun s => PySem.W.xlAt (PySem.W.view R.prog [48]) [] s && PySem.W.recOk R.toRowW.records s) s.abs)) (true, PySem.W.openGood (PySem.W.view R.prog [48]) names) := by
  intro os
  kernel_rfl
theorem fnA_true (w : World) : RunP R 20000 (w.withFollow "special-get-raises" true) (obsP 1400 fun K => obsK (fun _ => true) fnA K) (valZ fnA) := by
  intro os
  kernel_rfl
theorem fnB_true (w : World) : RunP R 20000 (w.withFollow "special-get-raises" true) (fun s => obsG 1400 (fun _ => true) fnB tsL (HandSHeadRun.getT s)) (valG fnB tsL (w.withFollow "special-get-raises" true)) := by
  intro os
  kernel_rfl
theorem obs_true (w : World) : RunP R 20000 (w.withFollow "special-get-raises" true) ob (hk.val (w.withFollow "special-get-raises" true)) := RunP.more (fun K => (Bool.and_true _).symm) (exC_true w) (RunP.fns fnAB (fnA_true w) (fnB_true w))
theorem run_true (w : World) : HandSHeadRun.RunEq R (PySem.W.view R.prog [48]) hk ob 20000 names (w.withFollow "special-get-raises" true) := RunP.row (seen_true w) (obs_true w)
theorem run (w : World) : HandSHeadRun.RunEq R (PySem.W.view R.prog [48]) hk ob 20000 names w := by
  have e := World.withFollow_self w "special-get-raises"
  cases hb : w.params.followText "special-get-raises" <;> rw [hb] at e
  · exact e ▸ run_false w
  · exact e ▸ run_true w
section
open PySem.W PySem.Calls
theorem K01_oka : (sreFenced Z.K01.R.prog.main && ((moduleNames Z.K01.R.prog.main.body).isEmpty || lookedIntoSs (moduleNames Z.K01.R.prog.main.body) Z.K01.R.prog.main.body)) = true := by decide +kernel
theorem K01_okb : namesResolve Z.K01.R.prog = true := by decide +kernel
theorem K01_okc : (Z.K01.R.prog.boundNames.all (fun n => !worldNames.contains n)) = true := by decide +kernel
theorem K01_okd : noRoadLSs { strict := !(importedModules Z.K01.R.prog.main.body).all cThrough.contains, foot := none, bare := (["vars", "dir", "locals"] : List PySem.Str).filter (readsOut Z.K01.R.prog Z.K01.R.prog.main.body) } Z.K01.R.prog.main.body = true := by decide +kernel
theorem K01_oke : (namesMeet Z.K01.R.prog Z.K01.R.prog.main.body fun _ n => attrL n) = true := by decide +kernel
theorem K01_okl : looksOpen Z.K01.R.prog = true := by
  unfold looksOpen
  rw [K01_oka, K01_okb, K01_okc, K01_okd, K01_oke]; rfl
theorem K01_okf : Z.K01.R.toRowW.solid = true := by decide +kernel
theorem K01_okg : (Z.K01.R.loose.isEmpty && Z.K01.R.makers.isEmpty && (Z.K01.R.records.isEmpty || Z.K01.R.raises.all fun ct => ct.1 != .builtin "AttributeError" && ct.1 != .builtin "TypeError") && (Z.K01.R.raises.all fun ct => match ct.1 with | .builtin n => !Z.K01.R.prog.boundNames.contains (PySem.Str.ofString n) && !ofTheWorld.contains n | .own _ => true) && decide (Z.K01.R.records.map (·.1)).Nodup && (Z.K01.R.records.all fun x => !x.1.opensWith "__" && !builtinNamed x.1 && Z.K01.R.prog.boundNames.contains x.1 && x.2.all fun f => !f.1.opensWith "__")) = true := by decide +kernel
theorem K01_okh : (Z.K01.R.pre.litsOk && Z.K01.R.post.litsOk && Z.K01.R.raises.all (·.2.litsOk) && Z.K01.R.mutates.all (fun i => match Z.K01.R.args[i]? with | some sh => !sh.arms.any WShape.isObj | none => false) && Z.K01.R.within.all (fun i => decide (i < Z.K01.R.args.length)) && Z.K01.R.same.all (fun i => decide (i < Z.K01.R.args.length)) && Z.K01.R.prog.boundNames.contains Z.K01.R.name && !startupNames.contains Z.K01.R.name) = true := by decide +kernel
theorem K01_ok1 : Z.K01.R.wellSaid = true := by
  have h3 := K01_okg
  have h4 := K01_okh
  simp only [Bool.and_eq_true] at h3 h4
  unfold OpenRow.wellSaid OpenRow.partSaid
  simp only [Bool.and_eq_true]
  obtain ⟨⟨⟨⟨⟨a1, a2⟩, a3⟩, a4⟩, a5⟩, a6⟩ := h3
  obtain ⟨⟨⟨⟨⟨⟨⟨b1, b2⟩, b3⟩, b4⟩, b5⟩, b6⟩, b7⟩, b8⟩ := h4
  exact ⟨⟨⟨⟨⟨⟨⟨⟨⟨⟨⟨⟨⟨⟨⟨K01_okl, a1⟩, a2⟩, a3⟩, a4⟩, a5⟩, a6⟩, K01_okf⟩, b1⟩, b2⟩, b3⟩, b4⟩, b5⟩, b6⟩, b7⟩, b8⟩
theorem K01_oki : PySem.W.chainsOk (PySem.W.view Z.K01.R.prog [48]) = true := by decide +kernel
theorem K01_okj : PySem.W.opensWell Z.K01.R.prog = true := by decide +kernel
theorem K01_okk : (PySem.W.frees Z.K01.R.toRowW && Z.K01.R.within.isEmpty) = true := by decide +kernel
theorem K01_ok2 : (PySem.W.chainsOk (PySem.W.view Z.K01.R.prog [48]) && PySem.W.opensWell Z.K01.R.prog && (PySem.W.frees Z.K01.R.toRowW && Z.K01.R.within.isEmpty)) = true := by
  rw [K01_oki, K01_okj, K01_okk]; rfl
theorem K01_ok3 : Z.K01.R.prog.bare := ⟨rfl, rfl, rfl, rfl, rfl, by decide +kernel⟩
end
end K01
end Z

set_option Elab.async false
set_option linter.all false
set_option maxRecDepth 100000
set_option maxHeartbeats 4000000
namespace Z
open PySem PySem.Spec PyProof.Rows L2
/-! ### pure values -/
inductive D where
  | non | bl (b : Bool) | int (i : Int) | str (x : Str)
  | tup (ds : List D) | lst (ds : List D) | dic (kvs : List (Key × D)) | obj (c : Str) (fs : List (Str × D)) | cel (n : Nat) | opq (v : V) | ty (c : Str) | exc (c f : Str) (d : D)
/-- the ghost: what is frozen, where the cells lie -/
structure G where
  F : Hp
  ad : List Addr
/-- a caught error's object: its class, its dict -/
def ErrO (K : PySem.W.Frag) (c : Str) (a : Addr) (dx : Option Addr) : HO := .ext fun h => ∃ (oe : Obj) (vs : Array Value), h.get? a = some oe ∧ oe.cls = .ref (He.ga K c) ∧ oe.dict = dx ∧ oe.data = .fields vs
section
variable (K : PySem.W.Frag) (g : G)
mutual
inductive Rep : V → D → Prop
  | non : Rep .non .non
  | bl (b : Bool) : Rep (.bl b) (.bl b)
  | int (i : Int) : Rep (.int i) (.int i)
  | str (x : Str) : Rep (.str x) (.str x)
  | tup {a vs ds} : SqT K g.F a vs → RepL vs ds → Rep (.ref a) (.tup ds)
  | lst {a vs ds} : Rd g.F a (.lst vs) → RepL vs ds → Rep (.ref a) (.lst ds)
  | dic {a kvs ds} : g.F a = some (.dK kvs) → RepK kvs ds → Rep (.ref a) (.dic ds)
  | obj {a dx c fs ds} : g.F a = some (.ins (He.ga K c) dx fs) → RepF fs ds → Rep (.ref a) (.obj c ds)
  | cel {a n} : g.ad[tk K + n]? = some a → Rep (.ref a) (.cel n)
  | opq (v : V) : Rep v (.opq v)
  | ty (c : Str) : Rep (.ref (He.ga K c)) (.ty c)
  | exc {a dd c f v d} : g.F a = some (ErrO K c a (some dd)) → g.F dd = some (.xd [(f, v)]) → Rep v d → Rep (.ref a) (.exc c f d)
  | exc0 {a c} : g.F a = some (ErrO K c a none) → Rep (.ref a) (.exc c "" .non)
inductive RepL : List V → List D → Prop
  | nil : RepL [] []
  | cons {v d vs ds} : Rep v d → RepL vs ds → RepL (v :: vs) (d :: ds)
inductive RepK : List (Key × V) → List (Key × D) → Prop
  | nil : RepK [] []
  | cons {k v d vs ds} : Rep v d → RepK vs ds → RepK ((k, v) :: vs) ((k, d) :: ds)
inductive RepF : List (Str × V) → List (Str × D) → Prop
  | nil : RepF [] []
  | cons {k v d vs ds} : Rep v d → RepF vs ds → RepF ((k, v) :: vs) ((k, d) :: ds)
end
end
section
variable {K : PySem.W.Frag} {g g' : G}
/-- the ghost grows -/
structure GLe (g g' : G) : Prop where
  F : ∀ (a : Addr) (u : HO), g.F a = some u → g'.F a = some u
  ad : ∀ (n : Nat) (a : Addr), g.ad[n]? = some a → g'.ad[n]? = some a
theorem GLe.refl : GLe g g := ⟨fun _ _ h => h, fun _ _ h => h⟩
theorem GLe.trans {g'' : G} (a : GLe g g') (b : GLe g' g'') : GLe g g'' := ⟨fun x u h => b.F x u (a.F x u h), fun n x h => b.ad n x (a.ad n x h)⟩
theorem rd_mono {F F' : Hp} {a : Addr} {u : HO} (h : ∀ a u, F a = some u → F' a = some u) (r : Rd F a u) : Rd F' a u := by
  rcases r with r | ⟨o, r⟩
  · exact .inl (h _ _ r)
  · exact .inr ⟨o, h _ _ r⟩
theorem sqT_mono {F F' : Hp} {a : Addr} {vs : List V} (h : ∀ a u, F a = some u → F' a = some u) (r : SqT K F a vs) : SqT K F' a vs := by
  rcases r with r | r
  · exact .inl (rd_mono h r)
  · exact .inr r
mutual
theorem Rep.mono (L : GLe g g') : ∀ {v d}, Rep K g v d → Rep K g' v d
  | _, _, .non => .non
  | _, _, .bl b => .bl b
  | _, _, .int i => .int i
  | _, _, .str x => .str x
  | _, _, .tup h r => .tup (sqT_mono L.F h) (RepL.mono L r)
  | _, _, .lst h r => .lst (rd_mono L.F h) (RepL.mono L r)
  | _, _, .dic h r => .dic (L.F _ _ h) (RepK.mono L r)
  | _, _, .obj h r => .obj (L.F _ _ h) (RepF.mono L r)
  | _, _, .cel h => .cel (L.ad _ _ h)
  | _, _, .opq v => .opq v
  | _, _, .ty c => .ty c
  | _, _, .exc h1 h2 r => .exc (L.F _ _ h1) (L.F _ _ h2) (Rep.mono L r)
  | _, _, .exc0 h => .exc0 (L.F _ _ h)
theorem RepL.mono (L : GLe g g') : ∀ {v d}, RepL K g v d → RepL K g' v d
  | _, _, .nil => .nil
  | _, _, .cons h r => .cons (Rep.mono L h) (RepL.mono L r)
theorem RepK.mono (L : GLe g g') : ∀ {v d}, RepK K g v d → RepK K g' v d
  | _, _, .nil => .nil
  | _, _, .cons h r => .cons (Rep.mono L h) (RepK.mono L r)
theorem RepF.mono (L : GLe g g') : ∀ {v d}, RepF K g v d → RepF K g' v d
  | _, _, .nil => .nil
  | _, _, .cons h r => .cons (Rep.mono L h) (RepF.mono L r)
end
theorem RepL.length : ∀ {vs ds}, RepL K g vs ds → vs.length = ds.length
  | _, _, .nil => rfl
  | _, _, .cons _ r => by simp [RepL.length r]
theorem RepL.append : ∀ {vs ds ws es}, RepL K g vs ds → RepL K g ws es → RepL K g (vs ++ ws) (ds ++ es)
  | _, _, _, _, .nil, s => s
  | _, _, _, _, .cons h r, s => .cons h (RepL.append r s)
theorem RepL.get : ∀ {vs : List V} {ds : List D} {i : Nat} {d : D}, RepL K g vs ds → ds[i]? = some d → ∃ v, vs[i]? = some v ∧ Rep K g v d
  | _, _, _, _, .nil, e => by simp at e
  | _, _, 0, _, .cons h r, e => by simp at e; subst e; exact ⟨_, rfl, h⟩
  | _, _, i + 1, _, .cons h r, e => by
    obtain ⟨v, h1, h2⟩ := RepL.get r (i := i) (by simpa using e)
    exact ⟨v, by simpa using h1, h2⟩
theorem RepL.set {v d} (h : Rep K g v d) : ∀ {vs ds} (i : Nat), RepL K g vs ds → RepL K g (vs.set i v) (ds.set i d)
  | _, _, _, .nil => .nil
  | _, _, 0, .cons _ r => .cons h r
  | _, _, i + 1, .cons q r => .cons q (RepL.set h i r)
theorem RepL.take : ∀ {vs ds} (n : Nat), RepL K g vs ds → RepL K g (vs.take n) (ds.take n)
  | _, _, 0, _ => .nil
  | _, _, _ + 1, .nil => .nil
  | _, _, n + 1, .cons q r => .cons q (RepL.take n r)
theorem RepL.drop : ∀ {vs ds} (n : Nat), RepL K g vs ds → RepL K g (vs.drop n) (ds.drop n)
  | _, _, 0, r => r
  | _, _, _ + 1, .nil => .nil
  | _, _, n + 1, .cons q r => RepL.drop n r
/-! ### what stands at a cell, at an owned slot -/
def OwnAt (K : PySem.W.Frag) (g : G) (H : Hp) (a : Addr) : D → Prop
  | .lst ds => ∃ vs, H a = some (.lst vs) ∧ RepL K g vs ds
  | .dic ds => ∃ kvs, H a = some (.dK kvs) ∧ RepK K g kvs ds
  | .obj c ds => ∃ dx fs, H a = some (.ins (He.ga K c) dx fs) ∧ RepF K g fs ds
  | _ => False
theorem OwnAt.has {H : Hp} {a : Addr} {d : D} (h : OwnAt K g H a d) : ∃ u, H a = some u := by
  cases d with
  | lst ds => obtain ⟨_, h, _⟩ := h; exact ⟨_, h⟩
  | dic ds => obtain ⟨_, h, _⟩ := h; exact ⟨_, h⟩
  | obj c ds => obtain ⟨_, _, h, _⟩ := h; exact ⟨_, h⟩
  | _ => exact h.elim
theorem OwnAt.mono {H H' : Hp} {a : Addr} {d : D} (L : GLe g g') (e : ∀ u, H a = some u → H' a = some u) (h : OwnAt K g H a d) : OwnAt K g' H' a d := by
  cases d with
  | lst ds => obtain ⟨vs, h, r⟩ := h; exact ⟨vs, e _ h, r.mono L⟩
  | dic ds => obtain ⟨vs, h, r⟩ := h; exact ⟨vs, e _ h, r.mono L⟩
  | obj c ds => obtain ⟨dx, fs, h, r⟩ := h; exact ⟨dx, fs, e _ h, r.mono L⟩
  | _ => exact h.elim
/-! ### what stands at a cell: a list, a dict, an object, the code table of a lambda, a dict of tuple keys -/
def kyD : Key → D
  | .inl i => .int i
  | .inr x => .str x
def kTupD (k : List Key) : D := .tup (k.map kyD)
def OwnC (K : PySem.W.Frag) (g : G) (H : Hp) (a : Addr) : D → Prop
  | .ty q => ∃ ps, H a = some (.tbl ps) ∧ (a = lamT K q ∧ TriplesOk ps.toList) ∧ ∀ (pos : Pos) (cv : Value), codeAmong pos ps.toList = some cv → ∃ c, cv = .ref c ∧ g.F c = some (LamX.CodeO c (lamQ q))
  | .tup ks => ∃ kvs, H a = some (.dT kvs) ∧ kvs.map (fun p => kTupD p.1) = ks ∧ ∀ p ∈ kvs, p.2 = V.bl true
  | d => OwnAt K g H a d
theorem OwnAt.toC {H : Hp} {a : Addr} {d : D} (h : OwnAt K g H a d) : OwnC K g H a d := by
  cases d with
  | lst ds => exact h
  | dic ds => exact h
  | obj c ds => exact h
  | _ => exact (h : False).elim
theorem OwnC.has {H : Hp} {a : Addr} {d : D} (h : OwnC K g H a d) : ∃ u, H a = some u := by
  cases d with
  | ty q => obtain ⟨_, h, _⟩ := h; exact ⟨_, h⟩
  | tup q => obtain ⟨_, h, _⟩ := h; exact ⟨_, h⟩
  | lst ds => exact OwnAt.has (K := K) (g := g) (d := .lst ds) h
  | dic ds => exact OwnAt.has (K := K) (g := g) (d := .dic ds) h
  | obj c ds => exact OwnAt.has (K := K) (g := g) (d := .obj c ds) h
  | _ => exact (h : False).elim
theorem OwnC.mono {H H' : Hp} {a : Addr} {d : D} (L : GLe g g') (e : ∀ u, H a = some u → H' a = some u) (h : OwnC K g H a d) : OwnC K g' H' a d := by
  cases d with
  | ty q => obtain ⟨ps, h, h1, h2⟩ := h; exact ⟨ps, e _ h, h1, fun pos cv q => let ⟨c, z1, z2⟩ := h2 pos cv q; ⟨c, z1, L.F _ _ z2⟩⟩
  | tup q => obtain ⟨ps, h, h1, h2⟩ := h; exact ⟨ps, e _ h, h1, h2⟩
  | lst ds => exact OwnAt.mono (d := .lst ds) L e h
  | dic ds => exact OwnAt.mono (d := .dic ds) L e h
  | obj c ds => exact OwnAt.mono (d := .obj c ds) L e h
  | _ => exact (h : False).elim
abbrev S := List D
inductive Sl where
  | unb | val (d : D) | own (d : D)
abbrev EnvD := List Sl
structure SRel0 (K : PySem.W.Frag) (g : G) (H : Hp) (s : S) : Prop where
  sub : ∀ a u, g.F a = some u → H a = some u ∨ ((∃ kvs, u = .dK kvs) ∧ ∃ o, H a = some (.frz o u))
  len : g.ad.length = s.length
  cell : ∀ (n : Nat) (c : D), s[n]? = some c → ∃ a, g.ad[n]? = some a ∧ g.F a = none ∧ OwnC K g H a c
  inj : ∀ (n m : Nat) (a : Addr), g.ad[n]? = some a → g.ad[m]? = some a → n = m
/-- the code tables ahead of the cells that are seen -/
abbrev tbD (K : PySem.W.Frag) : S := (tabsOf K).map .ty
abbrev SRel (K : PySem.W.Frag) (g : G) (H : Hp) (s : S) : Prop := SRel0 K g H (tbD K ++ s)
theorem SRel0.has {H : Hp} {s : S} (r : SRel0 K g H s) {a : Addr} (h : a ∈ g.ad) : ∃ u, H a = some u := by
  obtain ⟨n, hn⟩ := List.mem_iff_getElem?.mp h
  have hl : n < s.length := by rw [← r.len]; exact (List.getElem?_eq_some_iff.mp hn).1
  obtain ⟨b, h1, _, h2⟩ := r.cell n s[n] (List.getElem?_eq_getElem hl)
  rw [hn] at h1
  cases h1
  exact h2.has
theorem OwnAt.noT {H : Hp} {a : Addr} {d : D} (h : OwnAt K g H a d) (vs : List V) : H a ≠ some (.tup vs) := fun q => by
  cases d with
  | lst ds => obtain ⟨_, h, _⟩ := h; rw [h] at q; cases q
  | dic ds => obtain ⟨_, h, _⟩ := h; rw [h] at q; cases q
  | obj c ds => obtain ⟨_, _, h, _⟩ := h; rw [h] at q; cases q
  | _ => exact h.elim
theorem OwnC.noT {H : Hp} {a : Addr} {d : D} (h : OwnC K g H a d) (vs : List V) : H a ≠ some (.tup vs) := fun q => by
  cases d with
  | ty _ => obtain ⟨_, h, _⟩ := h; rw [h] at q; cases q
  | tup _ => obtain ⟨_, h, _⟩ := h; rw [h] at q; cases q
  | lst ds => exact OwnAt.noT (K := K) (g := g) (d := .lst ds) h vs q
  | dic ds => exact OwnAt.noT (K := K) (g := g) (d := .dic ds) h vs q
  | obj c ds => exact OwnAt.noT (K := K) (g := g) (d := .obj c ds) h vs q
  | _ => exact (h : False).elim
/-- a place that a step may take among the frozen ones: none yet, or a tuple -/
def Fre (H : Hp) (a : Addr) : Prop := H a = none ∨ ∃ vs, H a = some (.tup vs)
theorem Fre.no {H : Hp} {a : Addr} {u : HO} (z : Fre H a) (h : H a = some u) (n : ∀ vs, u ≠ .tup vs) : False := by
  rcases z with z | ⟨vs, z⟩
  · rw [h] at z; cases z
  · rw [h] at z; cases z; exact n vs rfl
theorem Fre.own {H : Hp} {a : Addr} {d : D} (z : Fre H a) (h : OwnAt K g H a d) : False := by
  rcases z with z | ⟨vs, z⟩
  · obtain ⟨u, hu⟩ := h.has; rw [hu] at z; cases z
  · exact h.noT vs z
theorem SRel0.noT {H : Hp} {s : S} (r : SRel0 K g H s) {a : Addr} (h : a ∈ g.ad) (vs : List V) : H a ≠ some (.tup vs) := by
  obtain ⟨n, hn⟩ := List.mem_iff_getElem?.mp h
  have hl : n < s.length := by rw [← r.len]; exact (List.getElem?_eq_some_iff.mp hn).1
  obtain ⟨b, h1, _, h2⟩ := r.cell n s[n] (List.getElem?_eq_getElem hl)
  rw [hn] at h1
  cases h1
  exact h2.noT vs
theorem tb_at {s : S} {n : Nat} : (tbD K ++ s)[tk K + n]? = s[n]? := by
  rw [List.getElem?_append_right (by simp)]
  simp
theorem SRel0.vis {H : Hp} {s : S} (r : SRel K g H s) {n : Nat} {c : D} (h : s[n]? = some c) : ∃ a, g.ad[tk K + n]? = some a ∧ g.F a = none ∧ OwnC K g H a c := r.cell _ c (by rw [tb_at]; exact h)
theorem SRel0.lenV {H : Hp} {s : S} (r : SRel K g H s) : g.ad.length = tk K + s.length := by
  have := r.len
  simpa using this
theorem tb_set {s : S} {n : Nat} {c : D} : tbD K ++ s.set n c = (tbD K ++ s).set (tk K + n) c := by
  rw [List.set_append_right _ _ (by simp)]
  simp
theorem tb_lt {s : S} {n : Nat} (h : n < s.length) : tk K + n < (tbD K ++ s).length := by simp; exact h
theorem tb_push {s : S} {c : D} : tbD K ++ (s ++ [c]) = (tbD K ++ s) ++ [c] := (List.append_assoc ..).symm
structure EnvRel (K : PySem.W.Frag) (g : G) (H : Hp) (σ : L2.St) (e : EnvD) : Prop where
  len : e.length = σ.length
  val : ∀ (i : Nat) (d : D), e[i]? = some (Sl.val d) → ∃ v, σ[i]? = some (some v) ∧ Rep K g v d
  own : ∀ (i : Nat) (d : D), e[i]? = some (Sl.own d) → ∃ a, σ[i]? = some (some (.ref a)) ∧ g.F a = none ∧ a ∉ g.ad ∧ OwnAt K g H a d
  apart : ∀ (i j : Nat) (d d' : D) (a : Addr), e[i]? = some (Sl.own d) → e[j]? = some (Sl.own d') → σ[i]? = some (some (.ref a)) → σ[j]? = some (some (.ref a)) → i = j
/-- an expression's step: all but the cells stays -/
structure Step (K : PySem.W.Frag) (g : G) (H : Hp) (g' : G) (H' : Hp) (s' : S) : Prop where
  rel : SRel K g' H' s'
  le : GLe g g'
  new : ∀ a u, g'.F a = some u → g.F a = some u ∨ Fre H a
  newc : ∀ a, a ∈ g'.ad → a ∈ g.ad ∨ H a = none
  keep : ∀ a u, H a = some u → a ∉ g.ad → H' a = some u
theorem Step.refl {H : Hp} {s : S} (r : SRel K g H s) : Step K g H g H s := ⟨r, .refl, fun _ _ h => .inl h, fun _ h => .inl h, fun _ _ h _ => h⟩
theorem mem_ad (L : GLe g g') {a : Addr} (h : a ∈ g.ad) : a ∈ g'.ad := by
  obtain ⟨n, hn⟩ := List.mem_iff_getElem?.mp h
  exact List.mem_iff_getElem?.mpr ⟨n, L.ad n a hn⟩
theorem GLe.push {a : Addr} : GLe g ⟨g.F, g.ad ++ [a]⟩ := ⟨fun _ _ h => h, fun n b h => by
  have hl := (List.getElem?_eq_some_iff.mp h).1
  show (g.ad ++ [a])[n]? = some b
  rw [List.getElem?_append_left hl]; exact h⟩
/-- one more cell -/
theorem SRel0.push {H : Hp} {s : S} {a : Addr} {c : D} (R : SRel0 K g H s) (hf : g.F a = none) (hc : a ∉ g.ad) (o : ∀ g', GLe g g' → OwnC K g' H a c) : SRel0 K ⟨g.F, g.ad ++ [a]⟩ H (s ++ [c]) := by
  have hlen := R.len
  have L : GLe g ⟨g.F, g.ad ++ [a]⟩ := .push
  refine ⟨R.sub, by simp [hlen], fun n x hq => ?_, fun n m b h1 h2 => ?_⟩
  · by_cases hn' : n < s.length
    · rw [List.getElem?_append_left hn'] at hq
      obtain ⟨b, q1, q2, q3⟩ := R.cell n x hq
      exact ⟨b, L.ad n b q1, q2, q3.mono L fun _ q => q⟩
    · rw [List.getElem?_append_right (by omega)] at hq
      have : n - s.length = 0 := by
        have := (List.getElem?_eq_some_iff.mp hq).1
        simp at this; omega
      rw [this] at hq
      cases hq
      refine ⟨a, ?_, hf, o _ L⟩
      show (g.ad ++ [a])[n]? = some a
      rw [List.getElem?_append_right (by omega), show n - g.ad.length = 0 by omega]
      rfl
  · have cs : ∀ {n : Nat} {b : Addr}, (g.ad ++ [a])[n]? = some b → (n < g.ad.length ∧ g.ad[n]? = some b) ∨ (n = g.ad.length ∧ b = a) := fun {n b} h => by
      by_cases hn' : n < g.ad.length
      · rw [List.getElem?_append_left hn'] at h; exact .inl ⟨hn', h⟩
      · rw [List.getElem?_append_right (by omega)] at h
        have h3 := (List.getElem?_eq_some_iff.mp h).1
        simp at h3
        have : n - g.ad.length = 0 := by omega
        rw [this] at h
        cases h
        exact .inr ⟨by omega, rfl⟩
    have nin : ∀ {n : Nat}, g.ad[n]? ≠ some a := fun {n} h => hc (List.mem_iff_getElem?.mpr ⟨n, h⟩)
    rcases cs h1 with ⟨q1, q2⟩ | ⟨q1, q2⟩ <;> rcases cs h2 with ⟨q3, q4⟩ | ⟨q3, q4⟩
    · exact R.inj n m b q2 q4
    · subst q4; exact absurd q2 nin
    · subst q2; exact absurd q4 nin
    · omega
theorem SRel0.pushV {H : Hp} {s : S} {a : Addr} {c : D} (R : SRel K g H s) (hf : g.F a = none) (hc : a ∉ g.ad) (o : ∀ g', GLe g g' → OwnC K g' H a c) : SRel K ⟨g.F, g.ad ++ [a]⟩ H (s ++ [c]) := by
  show SRel0 K _ H (tbD K ++ (s ++ [c]))
  rw [tb_push]
  exact R.push hf hc o
theorem SRel0.atV {H : Hp} {s : S} {a : Addr} (R : SRel K g H s) : (g.ad ++ [a])[tk K + s.length]? = some a := by
  have := R.lenV
  rw [List.getElem?_append_right (by omega), show tk K + s.length - g.ad.length = 0 by omega]
  rfl
theorem Step.has {H H' : Hp} {s' : S} (x : Step K g H g' H' s') {a : Addr} {u : HO} (h : H a = some u) : ∃ u', H' a = some u' := by
  by_cases ha : a ∈ g.ad
  · exact x.rel.has (mem_ad x.le ha)
  · exact ⟨u, x.keep a u h ha⟩
theorem Step.noneOf {H H' : Hp} {s' : S} (x : Step K g H g' H' s') {a : Addr} (h : H' a = none) : H a = none := by
  cases e : H a with
  | none => rfl
  | some u => obtain ⟨u', q⟩ := x.has e; rw [h] at q; cases q
theorem Step.freOf {H H' : Hp} {s' : S} (x : Step K g H g' H' s') {a : Addr} (h : Fre H' a) : Fre H a := by
  rcases h with h | ⟨vs, h⟩
  · exact .inl (x.noneOf h)
  · cases e : H a with
    | none => exact .inl e
    | some u =>
      by_cases ha : a ∈ g.ad
      · exact absurd h (x.rel.noT (mem_ad x.le ha) vs)
      · have := x.keep a u e ha
        rw [h] at this; cases this
        exact .inr ⟨vs, e⟩
theorem Step.trans {g'' : G} {H H' H'' : Hp} {s' s'' : S} (x : Step K g H g' H' s') (y : Step K g' H' g'' H'' s'') : Step K g H g'' H'' s'' where
  rel := y.rel
  le := x.le.trans y.le
  new := fun a u h => by
    rcases y.new a u h with q | q
    · exact x.new a u q
    · exact .inr (x.freOf q)
  newc := fun a h => by
    rcases y.newc a h with q | q
    · exact x.newc a q
    · exact .inr (x.noneOf q)
  keep := fun a u h ha => by
    have h1 := x.keep a u h ha
    refine y.keep a u h1 fun z => ?_
    rcases x.newc a z with q | q
    · exact ha q
    · rw [h] at q; cases q
theorem EnvRel.step {σ : L2.St} {e : EnvD} {H H' : Hp} {s' : S} (r : EnvRel K g H σ e) (x : Step K g H g' H' s') : EnvRel K g' H' σ e where
  len := r.len
  val := fun i d h => by
    obtain ⟨v, h1, h2⟩ := r.val i d h
    exact ⟨v, h1, h2.mono x.le⟩
  own := fun i d h => by
    obtain ⟨a, h1, h2, h3, h4⟩ := r.own i d h
    obtain ⟨u, hu⟩ := h4.has
    refine ⟨a, h1, ?_, fun z => ?_, h4.mono x.le fun u hu => x.keep a u hu h3⟩
    · cases q : g'.F a with
      | none => rfl
      | some u' =>
        rcases x.new a u' q with z | z
        · rw [h2] at z; cases z
        · exact (z.own h4).elim
    · rcases x.newc a z with z | z
      · exact h3 z
      · rw [hu] at z; cases z
  apart := r.apart
/-! ### readings -/
abbrev ME := EnvD → S → Option (D × S)
def trE (K : PySem.W.Frag) (m : ME) : TE := fun σ H Q => ∃ g e s d s', SRel K g H s ∧ EnvRel K g H σ e ∧ m e s = some (d, s') ∧ ∀ v g' H', Step K g H g' H' s' → Rep K g' v d → Q v H'
abbrev MT := EnvD → S → Option (Bool × S)
def trT (K : PySem.W.Frag) (m : MT) : TT := fun σ H Q => ∃ g e s b s', SRel K g H s ∧ EnvRel K g H σ e ∧ m e s = some (b, s') ∧ ∀ g' H', Step K g H g' H' s' → Q b H'
abbrev MA := EnvD → S → Option (List D × S)
def trA (K : PySem.W.Frag) (m : MA) : TA := fun σ H Q => ∃ g e s ds s', SRel K g H s ∧ EnvRel K g H σ e ∧ m e s = some (ds, s') ∧ ∀ vs g' H', Step K g H g' H' s' → RepL K g' vs ds → Q vs H'
/-- a new object, owned by nobody yet -/
def trF (K : PySem.W.Frag) (m : ME) : TE := fun σ H Q => ∃ g e s d s', SRel K g H s ∧ EnvRel K g H σ e ∧ m e s = some (d, s') ∧
  ∀ a g' H', Step K g H g' H' s' → H a = none → g'.F a = none → a ∉ g'.ad → OwnAt K g' H' a d → Q (.ref a) H'
theorem PE.imp {X : Cx} {e : Expr} {t t' : TE} (h : PE X e t) (i : ∀ σ H Q, t' σ H Q → t σ H Q) : PE X e t' := ⟨fun pins s σ H Q I q => h.run pins s σ H Q I (i _ _ _ q)⟩
theorem PT.imp {X : Cx} {e : Expr} {t t' : TT} (h : PT X e t) (i : ∀ σ H Q, t' σ H Q → t σ H Q) : PT X e t' := ⟨fun pins s σ H Q I q => h.run pins s σ H Q I (i _ _ _ q)⟩
theorem PW.imp {X : Cx} {e : Expr} {t t' : TT} (h : PW X e t) (i : ∀ σ H Q, t' σ H Q → t σ H Q) : PW X e t' := ⟨fun w pins s σ H Q I q => h.run w pins s σ H Q I (i _ _ _ q)⟩
theorem PA.imp {X : Cx} {es : List Expr} {t t' : TA} (h : PA X es t) (i : ∀ σ H Q, t' σ H Q → t σ H Q) : PA X es t' := ⟨fun p pins s σ H Q I q => h.run p pins s σ H Q I (i _ _ _ q)⟩
theorem PS.imp {X : Cx} {e : Stmt} {t t' : TS} (h : PS X e t) (i : ∀ D σ H, t' D σ H → t D σ H) : PS X e t' := ⟨fun pins s σ H D I q => h.run pins s σ H D I (i _ _ _ q)⟩
theorem PSs.imp {X : Cx} {e : List Stmt} {t t' : TS} (h : PSs X e t) (i : ∀ D σ H, t' D σ H → t D σ H) : PSs X e t' := ⟨fun pins s σ H D I q => h.run pins s σ H D I (i _ _ _ q)⟩
theorem PI.imp {X : Cx} {tg e : Expr} {t t' : TI} (h : PI X tg e t) (i : ∀ σ H Q, t' σ H Q → t σ H Q) : PI X tg e t' := ⟨fun pins s σ H Q I q => h.run pins s σ H Q I (i _ _ _ q)⟩
theorem PG.imp {X : Cx} {e : Expr} {t t' : TG} (h : PG X e t) (i : ∀ v σ H Q, t' v σ H Q → t v σ H Q) : PG X e t' := ⟨fun pins s σ H v u Q I r q => h.run pins s σ H v u Q I r (i _ _ _ _ q)⟩
theorem PE.or {X : Cx} {e : Expr} {t t' : TE} (h : PE X e t) (h' : PE X e t') : PE X e (fun σ H Q => t σ H Q ∨ t' σ H Q) := ⟨fun pins s σ H Q I q => q.elim (h.run pins s σ H Q I) (h'.run pins s σ H Q I)⟩
theorem PS.or {X : Cx} {e : Stmt} {t t' : TS} (h : PS X e t) (h' : PS X e t') : PS X e (fun D σ H => t D σ H ∨ t' D σ H) := ⟨fun pins s σ H Q I q => q.elim (h.run pins s σ H Q I) (h'.run pins s σ H Q I)⟩
theorem PI.or {X : Cx} {tg e : Expr} {t t' : TI} (h : PI X tg e t) (h' : PI X tg e t') : PI X tg e (fun σ H Q => t σ H Q ∨ t' σ H Q) := ⟨fun pins s σ H Q I q => q.elim (h.run pins s σ H Q I) (h'.run pins s σ H Q I)⟩
/-- frozen: a new object is one of the values -/
def G.frz (g : G) (a : Addr) (u : HO) : G := ⟨upd g.F a u, g.ad⟩
theorem GLe.frz {a : Addr} {u : HO} (h : g.F a = none) : GLe g (g.frz a u) := ⟨fun b w e => by
  show upd g.F a u b = some w
  rw [upd_ne (fun z => by subst z; rw [h] at e; cases e)]; exact e, fun _ _ e => e⟩
theorem OwnAt.frozen {H : Hp} {a : Addr} {d : D} (h : OwnAt K g H a d) (hf : g.F a = none) : ∃ u, H a = some u ∧ Rep K (g.frz a u) (.ref a) d ∧ (∀ o w, u ≠ .frz o w) := by
  cases d with
  | lst ds => obtain ⟨vs, h, r⟩ := h; exact ⟨_, h, .lst (.inl upd_same) (r.mono (.frz hf)), fun _ _ z => nomatch z⟩
  | dic ds => obtain ⟨vs, h, r⟩ := h; exact ⟨_, h, .dic upd_same (r.mono (.frz hf)), fun _ _ z => nomatch z⟩
  | obj c ds => obtain ⟨dx, vs, h, r⟩ := h; exact ⟨_, h, .obj upd_same (r.mono (.frz hf)), fun _ _ z => nomatch z⟩
  | _ => exact h.elim
theorem SRel.frz {H : Hp} {s : S} {a : Addr} {u : HO} (r : SRel K g H s) (h : H a = some u) (hf : g.F a = none) (hc : a ∉ g.ad) : SRel K (g.frz a u) H s where
  sub := fun b w e => by
    by_cases hb : b = a
    · subst hb
      have e : upd g.F b u b = some w := e
      rw [upd_same] at e; cases e
      exact .inl h
    · have e : upd g.F a u b = some w := e
      rw [upd_ne hb] at e
      exact r.sub b w e
  len := r.len
  cell := fun n c e => by
    obtain ⟨b, h1, h2, h3⟩ := r.cell n c e
    refine ⟨b, h1, ?_, h3.mono (.frz hf) fun _ q => q⟩
    show upd g.F a u b = none
    rw [upd_ne fun z => by subst z; exact hc (List.mem_iff_getElem?.mpr ⟨n, h1⟩)]
    exact h2
  inj := r.inj
theorem Step.frz {H H' : Hp} {s' : S} {a : Addr} {u : HO} (x : Step K g H g' H' s') (hn : H a = none) (h : H' a = some u) (hf : g'.F a = none) (hc : a ∉ g'.ad) : Step K g H (g'.frz a u) H' s' where
  rel := x.rel.frz h hf hc
  le := x.le.trans (.frz hf)
  new := fun b w e => by
    by_cases hb : b = a
    · subst hb; exact .inr (.inl hn)
    · have e : upd g'.F a u b = some w := e
      rw [upd_ne hb] at e
      exact x.new b w e
  newc := x.newc
  keep := x.keep
/-- what is new may be a value -/
theorem trF.E {m : ME} {σ : L2.St} {H : Hp} {Q : VK} (h : trE K m σ H Q) : trF K m σ H Q := by
  obtain ⟨g, e, s, d, s', r, r', hm, k⟩ := h
  refine ⟨g, e, s, d, s', r, r', hm, fun a g' H' st hn hf hc o => ?_⟩
  obtain ⟨u, h1, h2, _⟩ := o.frozen hf
  exact k _ _ _ (st.frz hn h1 hf hc) h2
theorem d_frz {X : Cx} {e : Expr} {m : ME} (h : PE X e (trF X.K m)) : PE X e (trE X.K m) := PE.imp h fun _ _ _ q => trF.E q
end
end Z

set_option Elab.async false
set_option linter.all false
set_option maxRecDepth 100000
set_option maxHeartbeats 4000000
namespace Z
open PySem PySem.Spec PyProof.Rows L2
/-! ### combinators -/
def bnd {α β : Type} (x : Option (α × S)) (f : α → S → Option (β × S)) : Option (β × S) := match x with
  | some (a, s) => f a s
  | none => none
def lft {α : Type} (x : Option α) (s : S) : Option (α × S) := match x with
  | some a => some (a, s)
  | none => none
theorem bnd_some {α β : Type} {x : Option (α × S)} {f : α → S → Option (β × S)} {r : β × S} (h : bnd x f = some r) : ∃ a s, x = some (a, s) ∧ f a s = some r := by
  cases x with
  | none => cases h
  | some p => exact ⟨p.1, p.2, rfl, h⟩
theorem lft_some {α : Type} {x : Option α} {s : S} {r : α × S} (h : lft x s = some r) : x = some r.1 ∧ r.2 = s := by
  cases x with
  | none => cases h
  | some p => cases h; exact ⟨rfl, rfl⟩
def mVar (i : Nat) : ME := fun e s => match e[i]? with
  | some (.val d) => some (d, s)
  | _ => none
def mC (d : D) : ME := fun _ s => some (d, s)
def mOp (f : D → D → Option D) (ma mb : ME) : ME := fun e s => bnd (ma e s) fun a s => bnd (mb e s) fun b s => lft (f a b) s
def mUn (f : D → Option D) (ma : ME) : ME := fun e s => bnd (ma e s) fun a s => lft (f a) s
section
variable {X : Cx} {K : PySem.W.Frag} {g : G} {H : Hp} {s : S}
/-- what a two-place operation does with values -/
def OpOk (K : PySem.W.Frag) (r : R2) (f : D → D → Option D) : Prop := ∀ (g : G) (H : Hp) (s : S) (x y : V) (a b d : D) (Q : VK), SRel K g H s → Rep K g x a → Rep K g y b → f a b = some d →
  (∀ v g' H', Step K g H g' H' s → Rep K g' v d → Q v H') → r x y H Q
/-- .. that makes an object -/
def OpOkF (K : PySem.W.Frag) (r : R2) (f : D → D → Option D) : Prop := ∀ (g : G) (H : Hp) (s : S) (x y : V) (a b d : D) (Q : VK), SRel K g H s → Rep K g x a → Rep K g y b → f a b = some d →
  (∀ p g' H', Step K g H g' H' s → H p = none → g'.F p = none → p ∉ g'.ad → OwnAt K g' H' p d → Q (.ref p) H') → r x y H Q
theorem OpOkF.E {r : R2} {f : D → D → Option D} (h : OpOkF K r f) : OpOk K r f := fun g H s x y a b d Q R ra rb e k => h g H s x y a b d Q R ra rb e fun p g' H' st hn hf hc o => by
  obtain ⟨u, h1, h2, _⟩ := o.frozen hf
  exact k _ _ _ (st.frz hn h1 hf hc) h2
theorem trE_op {r : R2} {f : D → D → Option D} {ma mb : ME} (h : OpOk K r f) {σ : L2.St} {H : Hp} {Q : VK} (q : trE K (mOp f ma mb) σ H Q) : tOp r (trE K ma) (trE K mb) σ H Q := by
  obtain ⟨g, e, s, d, s', R, E, hm, k⟩ := q
  obtain ⟨a, s1, h1, hm⟩ := bnd_some hm
  obtain ⟨b, s2, h2, hm⟩ := bnd_some hm
  obtain ⟨h3, h4⟩ := lft_some hm
  dsimp only at h3 h4
  subst h4
  refine ⟨g, e, s, a, s1, R, E, h1, fun x g1 H1 st1 ra => ⟨g1, e, s1, b, s', st1.rel, E.step st1, h2, fun y g2 H2 st2 rb => ?_⟩⟩
  exact h g2 H2 s' x y a b d Q st2.rel (ra.mono st2.le) rb h3 fun v g3 H3 st3 rd => k v g3 H3 ((st1.trans st2).trans st3) rd
theorem trF_op {r : R2} {f : D → D → Option D} {ma mb : ME} (h : OpOkF K r f) {σ : L2.St} {H : Hp} {Q : VK} (q : trF K (mOp f ma mb) σ H Q) : tOp r (trE K ma) (trE K mb) σ H Q := by
  obtain ⟨g, e, s, d, s', R, E, hm, k⟩ := q
  obtain ⟨a, s1, h1, hm⟩ := bnd_some hm
  obtain ⟨b, s2, h2, hm⟩ := bnd_some hm
  obtain ⟨h3, h4⟩ := lft_some hm
  dsimp only at h3 h4
  subst h4
  refine ⟨g, e, s, a, s1, R, E, h1, fun x g1 H1 st1 ra => ⟨g1, e, s1, b, s', st1.rel, E.step st1, h2, fun y g2 H2 st2 rb => ?_⟩⟩
  exact h g2 H2 s' x y a b d Q st2.rel (ra.mono st2.le) rb h3 fun p g3 H3 st3 hn hf hc o => k p g3 H3 ((st1.trans st2).trans st3) ((st1.trans st2).noneOf hn) hf hc o
/-- .. of one value -/
def UnOk (K : PySem.W.Frag) (r : V → Hp → VK → Prop) (f : D → Option D) : Prop := ∀ (g : G) (H : Hp) (s : S) (x : V) (a d : D) (Q : VK), SRel K g H s → Rep K g x a → f a = some d →
  (∀ v g' H', Step K g H g' H' s → Rep K g' v d → Q v H') → r x H Q
theorem trE_un {r : V → Hp → VK → Prop} {f : D → Option D} {ma : ME} (h : UnOk K r f) {σ : L2.St} {H : Hp} {Q : VK} (q : trE K (mUn f ma) σ H Q) : tUn r (trE K ma) σ H Q := by
  obtain ⟨g, e, s, d, s', R, E, hm, k⟩ := q
  obtain ⟨a, s1, h1, hm⟩ := bnd_some hm
  obtain ⟨h3, h4⟩ := lft_some hm
  dsimp only at h3 h4
  subst h4
  exact ⟨g, e, s, a, s', R, E, h1, fun x g1 H1 st1 ra => h g1 H1 s' x a d Q st1.rel ra h3 fun v g3 H3 st3 rd => k v g3 H3 (st1.trans st3) rd⟩
/-! ### names, constants -/
theorem d_var {i : Nat} {x : Str} {pos : Pos} (hN : X.N[i]? = some x) (hv : Vis X.env.scope x) (hd : (x == ("__debug__" : Str)) = false := by decide +kernel) (hcd : (x == ("__classdict__" : Str)) = false := by decide +kernel) : PE X (.Name x pos) (trE X.K (mVar i)) :=
  PE.imp (pe_var hN hv hd hcd) fun σ H Q ⟨g, e, s, d, s', R, E, hm, k⟩ => by
    unfold mVar at hm
    split at hm
    · rename_i d' h
      cases hm
      obtain ⟨v, h1, h2⟩ := E.val i d h
      exact ⟨v, h1, k _ _ _ (.refl R) h2⟩
    · cases hm
theorem d_c {e : Expr} {v : V} {d : D} (h : PE X e (tC v)) (r : ∀ g, Rep X.K g v d) : PE X e (trE X.K (mC d)) := PE.imp h fun σ H Q ⟨g, e, s, d, s', R, E, hm, k⟩ => by
  cases hm
  exact k _ _ _ (.refl R) (r g)
theorem d_int {i : Int} {j pos} : PE X (.Constant (.int i) j pos) (trE X.K (mC (.int i))) := d_c pe_int fun _ => .int i
theorem d_bl {b : Bool} {j pos} : PE X (.Constant (.bool b) j pos) (trE X.K (mC (.bl b))) := d_c pe_bl fun _ => .bl b
theorem d_non {j pos} : PE X (.Constant .none j pos) (trE X.K (mC .non)) := d_c pe_non fun _ => .non
theorem d_str {x : Str} {j pos} : PE X (.Constant (.str x) j pos) (trE X.K (mC (.str x))) := d_c pe_str fun _ => .str x
/-- a constant of the module -/
theorem d_glob {x : Str} {v : V} {d : D} {pos : Pos} (hg : Gl X x) (hm : ∃ u, X.mg x = some u ∧ RelV v u) (r : ∀ g, Rep X.K g v d) (hd : (x == ("__debug__" : Str)) = false := by decide +kernel) : PE X (.Name x pos) (trE X.K (mC d)) := by
  obtain ⟨u, h1, h2⟩ := hm
  exact d_c (pe_glob hg h1 h2 hd) r
/-! ### arithmetic -/
def CMulZ (i j : Int) : Prop := i.natAbs.log2 + j.natAbs.log2 < 100000000
instance (i j : Int) : Decidable (CMulZ i j) := inferInstanceAs (Decidable (_ < _))
theorem CMulZ.ok {i j : Int} (h : CMulZ i j) : IntMulOk i j := by
  have b : ∀ x : Int, Builtin.Int.intBits x ≤ x.natAbs.log2 + 1 := fun x => by
    unfold Builtin.Int.intBits
    split <;> omega
  have h1 := b i
  have h2 := b j
  have h3 : i.natAbs.log2 + j.natAbs.log2 < 100000000 := h
  have eb : bitsLine = 134217728 := by decide
  intro w
  rw [Bool.and_eq_true] at w
  have w2 := of_decide_eq_true (show decide _ = true from w.2)
  rw [eb] at w2
  omega
theorem op_mulZ : OpR X (binaryOp .Mult) (rI CMulZ fun i j => .int (i * j)) := opI fun _ _ _ _ _ _ _ hc q => mul_int q hc.ok
def addD : D → D → Option D
  | .int i, .int j => some (.int (i + j))
  | .str x, .str y => if x.length + y.length ≤ sizeLine then some (.str (x ++ y)) else none
  | .tup a, .tup b => if a.length + b.length ≤ sizeLine then some (.tup (a ++ b)) else none
  | _, _ => none
def catD : D → D → Option D
  | .lst a, .lst b => if a.length + b.length ≤ sizeLine then some (.lst (a ++ b)) else none
  | _, _ => none
theorem fresh_upd {H : Hp} {p : Addr} {u : HO} {d : D} (R : SRel K g H s) (hp : H p = none) (h : ∀ g', GLe g g' → OwnAt K g' (upd H p u) p d) :
    Step K g H g (upd H p u) s ∧ g.F p = none ∧ p ∉ g.ad ∧ OwnAt K g (upd H p u) p d := by
  have hk : ∀ a w, H a = some w → upd H p u a = some w := fun a w e => by rw [upd_ne (ne_of_none e hp)]; exact e
  have hf : g.F p = none := by
    cases q : g.F p with
    | none => rfl
    | some w =>
      rcases R.sub p w q with z | ⟨_, o, z⟩ <;> (rw [hp] at z; cases z)
  have hc : p ∉ g.ad := fun z => by
    obtain ⟨w, q⟩ := R.has z
    rw [hp] at q; cases q
  refine ⟨⟨⟨fun a w e => ?_, R.len, fun n c e => ?_, R.inj⟩, .refl, fun _ _ h => .inl h, fun _ h => .inl h, fun a w e _ => hk a w e⟩, hf, hc, h g .refl⟩
  · rcases R.sub a w e with z | ⟨z1, o, z⟩
    · exact .inl (hk _ _ z)
    · exact .inr ⟨z1, o, hk _ _ z⟩
  · obtain ⟨a, h1, h2, h3⟩ := R.cell n c e
    exact ⟨a, h1, h2, h3.mono .refl fun u hu => hk _ _ hu⟩
/-- a new tuple, frozen at once -/
theorem fresh_tup {H : Hp} {p : Addr} {vs : List V} {ds : List D} (R : SRel K g H s) (hp : H p = none) (r : RepL K g vs ds) :
    ∃ g', Step K g H g' (upd H p (.tup vs)) s ∧ Rep K g' (.ref p) (.tup ds) := by
  have hk : ∀ a w, H a = some w → upd H p (.tup vs) a = some w := fun a w e => by rw [upd_ne (ne_of_none e hp)]; exact e
  have hf : g.F p = none := by
    cases q : g.F p with
    | none => rfl
    | some w =>
      rcases R.sub p w q with z | ⟨_, o, z⟩ <;> (rw [hp] at z; cases z)
  have hc : p ∉ g.ad := fun z => by
    obtain ⟨w, q⟩ := R.has z
    rw [hp] at q; cases q
  have R' : SRel K g (upd H p (.tup vs)) s := ⟨fun a w e => by
      rcases R.sub a w e with z | ⟨z1, o, z⟩
      · exact .inl (hk _ _ z)
      · exact .inr ⟨z1, o, hk _ _ z⟩, R.len, fun n c e => by
      obtain ⟨a, h1, h2, h3⟩ := R.cell n c e
      exact ⟨a, h1, h2, h3.mono .refl fun u hu => hk _ _ hu⟩, R.inj⟩
  have st : Step K g H g (upd H p (.tup vs)) s := ⟨R', .refl, fun _ _ h => .inl h, fun _ h => .inl h, fun a w e _ => hk a w e⟩
  exact ⟨_, st.frz hp upd_same hf hc, .tup (.inl (.inl upd_same)) (r.mono (.frz hf))⟩
theorem sqT_H {a : Addr} {vs : List V} (R : SRel K g H s) (h : SqT K g.F a vs) : SqT K H a vs := by
  rcases h with (h | ⟨o, h⟩) | h
  · rcases R.sub _ _ h with z | ⟨⟨_, z⟩, _⟩
    · exact .inl (.inl z)
    · cases z
  · rcases R.sub _ _ h with z | ⟨⟨_, z⟩, _⟩
    · exact .inl (.inr ⟨o, z⟩)
    · cases z
  · exact .inr h
theorem rd_H {a : Addr} {vs : List V} (R : SRel K g H s) (h : Rd g.F a (.lst vs)) : Rd H a (.lst vs) := by
  rcases h with h | ⟨o, h⟩
  · rcases R.sub _ _ h with z | ⟨⟨_, z⟩, _⟩
    · exact .inl z
    · cases z
  · rcases R.sub _ _ h with z | ⟨⟨_, z⟩, _⟩
    · exact .inr ⟨o, z⟩
    · cases z
/-- two lists added -/
def rCatZ : R2 := fun x y H Q => ∃ l b xs zs, x = .ref l ∧ y = .ref b ∧ Rd H l (.lst xs) ∧ Rd H b (.lst zs) ∧ xs.length + zs.length ≤ sizeLine ∧ ∀ p, H p = none → Q (.ref p) (upd H p (.lst (xs ++ zs)))
theorem op_catZ : OpR X (binaryOp .Add) rCatZ := by
  intro pins s σ H x y v u Q I rx ry h
  obtain ⟨l, b, xs, zs, rfl, rfl, hH, hB, hz, q⟩ := h
  cases rx
  cases ry
  obtain ⟨z, its, n, r, e⟩ := hH.ok I.hok
  obtain ⟨z2, its2, n2, r2, e2⟩ := hB.ok I.hok
  have l1 := r.length
  have l2 := r2.length
  refine PySem.P.add_list e e2 ?_ (by rw [List.size_toArray, List.size_toArray]; omega)
  have ea : its.toArray ++ its2.toArray = (its ++ its2).toArray := by simp
  rw [ea]
  have hf : H s.heap.objs.size = none := I.hok.fresh (Nat.le_refl _)
  refine ⟨.ref s.heap.objs.size, _, I.laid (t' := s.toks) (fun b u e => Heap.get?_push_of_some _ e) (Nat.le_refl _) ?_, rfl, q _ hf⟩
  exact ⟨by rw [List.length_append]; exact hz, its ++ its2, 0, r.append r2, Heap.get?_push_size _ rfl⟩
theorem OpR.or {f : Value → Value → Sem Value} {r r' : R2} (h : OpR X f r) (h' : OpR X f r') : OpR X f (fun x y H Q => r x y H Q ∨ r' x y H Q) := fun pins s σ H x y v u Q I rx ry q => q.elim (h pins s σ H x y v u Q I rx ry) (h' pins s σ H x y v u Q I rx ry)
theorem cat_ok : OpOkF K rCatZ catD := by
  intro g H s x y a b d Q R ra rb e k
  unfold catD at e
  split at e
  · rename_i as bs
    split at e
    · cases e
      cases ra with
      | lst h1 r1 =>
        cases rb with
        | lst h2 r2 =>
          refine ⟨_, _, _, _, rfl, rfl, rd_H R h1, rd_H R h2, by rw [r1.length, r2.length]; assumption, fun p hp => ?_⟩
          obtain ⟨st, hf, hc, o⟩ := fresh_upd (u := .lst _) (d := .lst (as ++ bs)) R hp fun g' L => ⟨_, upd_same, (r1.append r2).mono L⟩
          exact k p g _ st hp hf hc o
    · cases e
  · cases e
abbrev rAddZ (K : PySem.W.Frag) : R2 := fun x y H Q => rI0 (fun i j => .int (i + j)) x y H Q ∨ (∃ i j, x = .str i ∧ y = .str j ∧ i.length + j.length ≤ sizeLine ∧ Q (.str (i ++ j)) H) ∨ rCatA K x y H Q
theorem op_addZ : OpR X (binaryOp .Add) (rAddZ X.K) := OpR.or op_add (OpR.or op_add_str op_catA)
theorem add_ok : OpOk K (rAddZ K) addD := by
  intro g H s x y a b d Q R ra rb e k
  unfold addD at e
  split at e
  · cases e
    cases ra; cases rb
    exact .inl ⟨_, _, rfl, rfl, k _ _ _ (.refl R) (.int _)⟩
  · split at e
    · cases e
      cases ra; cases rb
      exact .inr (.inl ⟨_, _, rfl, rfl, by assumption, k _ _ _ (.refl R) (.str _)⟩)
    · cases e
  · rename_i as bs
    split at e
    · cases e
      cases ra with
      | tup h1 r1 =>
        cases rb with
        | tup h2 r2 =>
          refine .inr (.inr ⟨_, _, _, _, rfl, rfl, sqT_H R h1, sqT_H R h2, by rw [r1.length, r2.length]; assumption, fun z => ?_, fun _ z => ?_, fun _ _ p hp => ?_⟩)
          · subst z
            cases r1
            exact k _ _ _ (.refl R) (.tup h2 r2)
          · subst z
            cases r2
            rw [List.append_nil] at k
            exact k _ _ _ (.refl R) (.tup h1 r1)
          · obtain ⟨g', st, r⟩ := fresh_tup R hp (r1.append r2)
            exact k _ _ _ st r
    · cases e
  · cases e
theorem d_add {a b : Expr} {ma mb : ME} {pos : Pos} (ha : PE X a (trE X.K ma)) (hb : PE X b (trE X.K mb)) : PE X (.BinOp a .Add b pos) (trE X.K (mOp addD ma mb)) := PE.imp (pe_op op_addZ ha hb) fun _ _ _ => trE_op add_ok
theorem int_ok {C : Int → Int → Prop} {f : Int → Int → V} {f' : D → D → Option D} (h : ∀ a b d, f' a b = some d → ∃ i j d', a = .int i ∧ b = .int j ∧ C i j ∧ d = d' ∧ ∀ g, Rep K g (f i j) d') : OpOk K (rI C f) f' := by
  intro g H s x y a b d Q R ra rb e k
  obtain ⟨i, j, d', rfl, rfl, hc, rfl, r⟩ := h a b d e
  cases ra; cases rb
  exact ⟨_, _, rfl, rfl, hc, k _ _ _ (.refl R) (r g)⟩
def subD : D → D → Option D
  | .int i, .int j => some (.int (i - j))
  | _, _ => none
def mulD : D → D → Option D
  | .int i, .int j => if CMulZ i j then some (.int (i * j)) else none
  | _, _ => none
def fdivD : D → D → Option D
  | .int i, .int j => if 0 < j ∧ j.natAbs.log2 < 9000 then some (.int (i / j)) else none
  | _, _ => none
def modD : D → D → Option D
  | .int i, .int j => if 0 < j then some (.int (i % j)) else none
  | _, _ => none
def powD : D → D → Option D
  | .int i, .int j => if 0 ≤ j ∧ j ≤ 1000000 ∧ i.natAbs < 2 ^ 64 then some (.int (i ^ j.toNat)) else none
  | _, _ => none
theorem d_mul {a b : Expr} {ma mb : ME} {pos : Pos} (ha : PE X a (trE X.K ma)) (hb : PE X b (trE X.K mb)) : PE X (.BinOp a .Mult b pos) (trE X.K (mOp mulD ma mb)) := PE.imp (pe_op op_mulZ ha hb) fun _ _ _ => trE_op (by
  intro g H s x y a b d Q R ra rb e k
  unfold mulD at e
  split at e
  · split at e
    · cases e; cases ra; cases rb
      exact ⟨_, _, rfl, rfl, by assumption, k _ _ _ (.refl R) (.int _)⟩
    · cases e
  · cases e)
theorem d_fdiv {a b : Expr} {ma mb : ME} {pos : Pos} (ha : PE X a (trE X.K ma)) (hb : PE X b (trE X.K mb)) : PE X (.BinOp a .FloorDiv b pos) (trE X.K (mOp fdivD ma mb)) := PE.imp (pe_op op_fdivW ha hb) fun _ _ _ => trE_op (by
  intro g H s x y a b d Q R ra rb e k
  unfold fdivD at e
  split at e
  · split at e
    · cases e; cases ra; cases rb
      exact ⟨_, _, rfl, rfl, by assumption, k _ _ _ (.refl R) (.int _)⟩
    · cases e
  · cases e)
theorem d_mod {a b : Expr} {ma mb : ME} {pos : Pos} (ha : PE X a (trE X.K ma)) (hb : PE X b (trE X.K mb)) : PE X (.BinOp a .Mod b pos) (trE X.K (mOp modD ma mb)) := PE.imp (pe_op op_mod ha hb) fun _ _ _ => trE_op (by
  intro g H s x y a b d Q R ra rb e k
  unfold modD at e
  split at e
  · split at e
    · cases e; cases ra; cases rb
      exact ⟨_, _, rfl, rfl, by assumption, k _ _ _ (.refl R) (.int _)⟩
    · cases e
  · cases e)
theorem d_pow {a b : Expr} {ma mb : ME} {pos : Pos} (ha : PE X a (trE X.K ma)) (hb : PE X b (trE X.K mb)) : PE X (.BinOp a .Pow b pos) (trE X.K (mOp powD ma mb)) := PE.imp (pe_op op_pow ha hb) fun _ _ _ => trE_op (by
  intro g H s x y a b d Q R ra rb e k
  unfold powD at e
  split at e
  · split at e
    · cases e; cases ra; cases rb
      exact ⟨_, _, rfl, rfl, by assumption, k _ _ _ (.refl R) (.int _)⟩
    · cases e
  · cases e)
def negD : D → Option D
  | .int i => some (.int (-i))
  | _ => none
theorem d_neg {a : Expr} {ma : ME} {pos : Pos} (ha : PE X a (trE X.K ma)) : PE X (.UnaryOp .USub a pos) (trE X.K (mUn negD ma)) := PE.imp (pe_un un_neg ha) fun _ _ _ => trE_un (by
  intro g H s x a d Q R ra e k
  unfold negD at e
  split at e
  · cases e; cases ra
    exact ⟨_, rfl, k _ _ _ (.refl R) (.int _)⟩
  · cases e)
/-- xs * n, n below 2 ^ 24 -/
def repD : D → D → Option D
  | .lst a, .int n => if 0 ≤ n ∧ n ≤ 1000 ∧ a.length ≤ 1000 then some (.lst (List.replicate n.toNat a).flatten) else none
  | _, _ => none
def rRepZ : R2 := fun x y H Q => ∃ l k xs, x = .ref l ∧ y = .int k ∧ Rd H l (.lst xs) ∧ 0 ≤ k ∧ k ≤ 1000 ∧ xs.length ≤ 1000 ∧ ∀ p, H p = none → Q (.ref p) (upd H p (.lst (List.replicate k.toNat xs).flatten))
end
end Z

set_option Elab.async false
set_option linter.all false
set_option maxRecDepth 100000
set_option maxHeartbeats 4000000
namespace Z
open PySem PySem.Spec PyProof.Rows L2
/-! ### data -/
mutual
def toP : D → Option PyData
  | .non => some .none
  | .bl b => some (.bool b)
  | .int i => some (.int i)
  | .str x => some (.str x)
  | .tup ds => (toPL ds).map .tuple
  | .lst ds => (toPL ds).map .list
  | _ => none
def toPL : List D → Option (List PyData)
  | [] => some []
  | d :: ds => match toP d with
    | some p => (toPL ds).map (p :: ·)
    | none => none
end
section
variable {X : Cx} {K : PySem.W.Frag} {g : G} {H : Hp} {s : S}
mutual
theorem dp_of (R : SRel K g H s) : ∀ {v : V} {d : D} {p : PyData}, Rep K g v d → toP d = some p → Dp K H v p
  | _, _, _, .non, e => by simp only [toP] at e; cases e; exact .non
  | _, _, _, .bl b, e => by simp only [toP] at e; cases e; exact .bl b
  | _, _, _, .int b, e => by simp only [toP] at e; cases e; exact .int b
  | _, _, _, .str b, e => by simp only [toP] at e; cases e; exact .str b
  | _, _, _, .tup h r, e => by
    simp only [toP] at e
    obtain ⟨q, h1, rfl⟩ := Option.map_eq_some_iff.mp e
    exact .tup (sqT_H R h) (dpL_of R r h1)
  | _, _, _, .lst h r, e => by
    simp only [toP] at e
    obtain ⟨q, h1, rfl⟩ := Option.map_eq_some_iff.mp e
    exact .lst (.inl (rd_H R h)) (dpL_of R r h1)
  | _, _, _, .dic _ _, e => by simp only [toP] at e; cases e
  | _, _, _, .obj _ _, e => by simp only [toP] at e; cases e
  | _, _, _, .cel _, e => by simp only [toP] at e; cases e
  | _, _, _, .opq _, e => by simp only [toP] at e; cases e
  | _, _, _, .exc _ _ _, e => by simp only [toP] at e; cases e
  | _, _, _, .exc0 _, e => by simp only [toP] at e; cases e
theorem dpL_of (R : SRel K g H s) : ∀ {v : List V} {d : List D} {p : List PyData}, RepL K g v d → toPL d = some p → DpAll K H v p
  | _, _, _, .nil, e => by simp only [toPL] at e; cases e; exact .nil
  | _, _, _, .cons h r, e => by
    simp only [toPL] at e
    split at e
    · rename_i p hp
      obtain ⟨q, h1, rfl⟩ := Option.map_eq_some_iff.mp e
      exact .cons (dp_of R h hp) (dpL_of R r h1)
    · cases e
end
/-! ### == -/
def toV0 : D → Option V
  | .non => some .non
  | .bl b => some (.bl b)
  | .int i => some (.int i)
  | .str x => some (.str x)
  | _ => none
theorem rep_V0 {v : V} {d : D} {x : V} (r : Rep K g v d) (h : toV0 d = some x) : v = x := by
  cases r <;> simp only [toV0] at h <;> cases h <;> rfl
def eqB (a b : D) : Option Bool := match toV0 a, toV0 b with
  | some x, some y => if scal x y = true then some (decide (x = y)) else none
  | _, _ => match toP a, toP b with
    | some p, some q => if SeqAt.shaped p = true ∧ SeqAt.shaped q = true then some (PyData.eqv p q) else none
    | _, _ => none
def eqD (a b : D) : Option D := (eqB a b).map .bl
def neD (a b : D) : Option D := (eqB a b).map fun k => .bl (!k)
abbrev rEqZ (K : PySem.W.Frag) : R2 := fun x y H Q => rEq x y H Q ∨ rEqD K x y H Q
abbrev rNeZ (K : PySem.W.Frag) : R2 := fun x y H Q => rNe x y H Q ∨ rNeD K x y H Q
theorem eq_ok : OpOk K (rEqZ K) eqD := by
  intro g H s x y a b d Q R ra rb e k
  unfold eqD at e
  obtain ⟨c, h, rfl⟩ := Option.map_eq_some_iff.mp e
  unfold eqB at h
  split at h
  · rename_i u w h1 h2
    split at h
    · cases h
      rw [rep_V0 ra h1, rep_V0 rb h2]
      exact .inl ⟨by assumption, k _ _ _ (.refl R) (.bl _)⟩
    · cases h
  · split at h
    · rename_i p q h1 h2
      split at h
      · rename_i hs
        cases h
        exact .inr ⟨p, q, dp_of R ra h1, dp_of R rb h2, hs.1, hs.2, k _ _ _ (.refl R) (.bl _)⟩
      · cases h
    · cases h
theorem ne_ok : OpOk K (rNeZ K) neD := by
  intro g H s x y a b d Q R ra rb e k
  unfold neD at e
  obtain ⟨c, h, rfl⟩ := Option.map_eq_some_iff.mp e
  unfold eqB at h
  split at h
  · rename_i u w h1 h2
    split at h
    · cases h
      rw [rep_V0 ra h1, rep_V0 rb h2]
      exact .inl ⟨by assumption, k _ _ _ (.refl R) (.bl _)⟩
    · cases h
  · split at h
    · rename_i p q h1 h2
      split at h
      · rename_i hs
        cases h
        exact .inr ⟨p, q, dp_of R ra h1, dp_of R rb h2, hs.1, hs.2, k _ _ _ (.refl R) (.bl _)⟩
      · cases h
    · cases h
variable {a b c : Expr} {ma mb mc : ME} {pos : Pos}
theorem d_eq (hu : X.A.units + 64 < cLine) (ha : PE X a (trE X.K ma)) (hb : PE X b (trE X.K mb)) : PE X (.Compare a [.Eq] [b] pos) (trE X.K (mOp eqD ma mb)) := PE.imp (pe_cmpR (OpR.or op_eq (op_eqD hu)) ha hb (nomark _)) fun _ _ _ => trE_op eq_ok
/-! ### order -/
def ltD : D → D → Option D
  | .int i, .int j => some (.bl (decide (i < j)))
  | .str x, .str y => some (.bl (decide (x.cps.toList < y.cps.toList)))
  | _, _ => none
def leD : D → D → Option D
  | .int i, .int j => some (.bl (decide (i ≤ j)))
  | .str x, .str y => some (.bl (!decide (y.cps.toList < x.cps.toList)))
  | _, _ => none
def gtD : D → D → Option D
  | .int i, .int j => some (.bl (decide (j < i)))
  | .str x, .str y => some (.bl (decide (y.cps.toList < x.cps.toList)))
  | _, _ => none
def geD : D → D → Option D
  | .int i, .int j => some (.bl (decide (j ≤ i)))
  | .str x, .str y => some (.bl (!decide (x.cps.toList < y.cps.toList)))
  | _, _ => none
abbrev rSS (f : Str → Str → Bool) : R2 := fun x y H Q => ∃ i j, x = .str i ∧ y = .str j ∧ Q (.bl (f i j)) H
theorem ord_ok {fi : Int → Int → Bool} {fs : Str → Str → Bool} {f : D → D → Option D} (h1 : ∀ i j, f (.int i) (.int j) = some (.bl (fi i j))) (h2 : ∀ i j, f (.str i) (.str j) = some (.bl (fs i j)))
    (h3 : ∀ a b d, f a b = some d → (∃ i j, a = .int i ∧ b = .int j) ∨ ∃ i j, a = .str i ∧ b = .str j) : OpOk K (fun x y H Q => rI0 (fun i j => .bl (fi i j)) x y H Q ∨ rSS fs x y H Q) f := by
  intro g H s x y a b d Q R ra rb e k
  rcases h3 a b d e with ⟨i, j, rfl, rfl⟩ | ⟨i, j, rfl, rfl⟩
  · rw [h1] at e; cases e; cases ra; cases rb
    exact .inl ⟨_, _, rfl, rfl, k _ _ _ (.refl R) (.bl _)⟩
  · rw [h2] at e; cases e; cases ra; cases rb
    exact .inr ⟨_, _, rfl, rfl, k _ _ _ (.refl R) (.bl _)⟩
theorem lt_ok : OpOk K (fun x y H Q => rI0 (fun i j => .bl (decide (i < j))) x y H Q ∨ rSS (fun x y => decide (x.cps.toList < y.cps.toList)) x y H Q) ltD := ord_ok (fun _ _ => rfl) (fun _ _ => rfl) fun a b d h => by
  unfold ltD at h; split at h <;> first | exact .inl ⟨_, _, rfl, rfl⟩ | exact .inr ⟨_, _, rfl, rfl⟩ | cases h
theorem gt_ok : OpOk K (fun x y H Q => rI0 (fun i j => .bl (decide (j < i))) x y H Q ∨ rSS (fun x y => decide (y.cps.toList < x.cps.toList)) x y H Q) gtD := ord_ok (fun _ _ => rfl) (fun _ _ => rfl) fun a b d h => by
  unfold gtD at h; split at h <;> first | exact .inl ⟨_, _, rfl, rfl⟩ | exact .inr ⟨_, _, rfl, rfl⟩ | cases h
theorem ge_ok : OpOk K (fun x y H Q => rI0 (fun i j => .bl (decide (j ≤ i))) x y H Q ∨ rSS (fun x y => !decide (x.cps.toList < y.cps.toList)) x y H Q) geD := ord_ok (fun _ _ => rfl) (fun _ _ => rfl) fun a b d h => by
  unfold geD at h; split at h <;> first | exact .inl ⟨_, _, rfl, rfl⟩ | exact .inr ⟨_, _, rfl, rfl⟩ | cases h
abbrev oLt : OpR X (compareOp .Lt) (fun x y H Q => rI0 (fun i j => .bl (decide (i < j))) x y H Q ∨ rSS (fun x y => decide (x.cps.toList < y.cps.toList)) x y H Q) := OpR.or op_lt op_lt_str
abbrev oLe : OpR X (compareOp .LtE) (fun x y H Q => rI0 (fun i j => .bl (decide (i ≤ j))) x y H Q ∨ rSS (fun x y => !decide (y.cps.toList < x.cps.toList)) x y H Q) := OpR.or op_le op_le_str
abbrev oGt : OpR X (compareOp .Gt) (fun x y H Q => rI0 (fun i j => .bl (decide (j < i))) x y H Q ∨ rSS (fun x y => decide (y.cps.toList < x.cps.toList)) x y H Q) := OpR.or op_gt op_gt_str
abbrev oGe : OpR X (compareOp .GtE) (fun x y H Q => rI0 (fun i j => .bl (decide (j ≤ i))) x y H Q ∨ rSS (fun x y => !decide (x.cps.toList < y.cps.toList)) x y H Q) := OpR.or op_ge op_ge_str
/-- a op b op' c -/
def mChain (f f' : D → D → Option D) (ma mb mc : ME) : ME := fun e s => bnd (ma e s) fun a s => bnd (mb e s) fun b s => bnd (lft (f a b) s) fun k s => match k with
  | .bl true => bnd (mc e s) fun c s => lft (f' b c) s
  | .bl false => some (.bl false, s)
  | _ => none
/-! ### is None -/
def isND : D → Option D
  | .non => some (.bl true)
  | .opq _ => none
  | _ => some (.bl false)
def notND : D → Option D
  | .non => some (.bl false)
  | .opq _ => none
  | _ => some (.bl true)
end
end Z

set_option Elab.async false
set_option linter.all false
set_option maxRecDepth 100000
set_option maxHeartbeats 4000000
namespace Z
open PySem PySem.Spec PyProof.Rows L2
section
variable {X : Cx} {K : PySem.W.Frag} {g : G} {H : Hp} {s : S}
/-! ### dicts: looking -/
def keyD : D → Option Key
  | .int i => some (.inl i)
  | .str x => some (.inr x)
  | _ => none
theorem rep_key {v : V} {d : D} {k : Key} (r : Rep K g v d) (h : keyD d = some k) : v = kV k := by
  cases r <;> simp only [keyD] at h <;> cases h <;> rfl
def lookD (kvs : List (Key × D)) (k : Key) : Option D := (kvs.find? fun kv => decide (kv.1 = k)).map (·.2)
theorem rdK_H {a : Addr} {kvs : List (Key × V)} (R : SRel K g H s) (h : g.F a = some (.dK kvs)) : Rd H a (.dK kvs) := by
  rcases R.sub _ _ h with z | ⟨_, o, z⟩
  · exact .inl z
  · exact .inr ⟨o, z⟩
/-! ### in -/
def memS (w z : Str) : Bool := match w.cps.toList with
  | [c] => decide (c ∈ z.cps.toList)
  | _ => !(Builtin.Str.occurrences z w 0 z.length 1).isEmpty
def flats : List D → Option (List V)
  | [] => some []
  | d :: ds => match toV0 d with
    | some v => (flats ds).map (v :: ·)
    | none => none
def inB (x y : D) : Option Bool := match y with
  | .str z => match x with
    | .str w => some (memS w z)
    | _ => none
  | .lst ys => match toV0 x, flats ys with
    | some v, some vs => some (inV v vs)
    | _, _ => none
  | .tup ys => match toV0 x, flats ys with
    | some v, some vs => some (inV v vs)
    | _, _ => none
  | _ => none
def inD (x y : D) : Option D := (inB x y).map .bl
def notInD (x y : D) : Option D := (inB x y).map fun b => .bl (!b)
theorem flat_V0 {d : D} {v : V} (h : toV0 d = some v) : flatV v = true := by
  cases d <;> simp only [toV0] at h <;> cases h <;> rfl
theorem flats_of : ∀ {us : List V} {ds : List D} {vs : List V}, RepL K g us ds → flats ds = some vs → us = vs ∧ vs.all flatV = true
  | _, _, _, .nil, e => by simp only [flats] at e; cases e; exact ⟨rfl, rfl⟩
  | _, _, _, .cons h r, e => by
    simp only [flats] at e
    split at e
    · rename_i v hv
      obtain ⟨q, h1, rfl⟩ := Option.map_eq_some_iff.mp e
      obtain ⟨e1, e2⟩ := flats_of r h1
      rw [rep_V0 h hv, e1]
      exact ⟨rfl, by rw [List.all_cons, flat_V0 hv, e2]; rfl⟩
    · cases e
abbrev rInZ (K : PySem.W.Frag) : R2 := fun x y H Q => (∃ (c : Nat) (z : Str), x = .str ⟨#[c]⟩ ∧ y = .str z ∧ Q (.bl (decide (c ∈ z.cps.toList))) H) ∨ (∃ i j, x = .str i ∧ y = .str j ∧ Q (.bl (!(Builtin.Str.occurrences j i 0 j.length 1).isEmpty)) H) ∨ rIn K false x y H Q
abbrev rNotInZ (K : PySem.W.Frag) : R2 := fun x y H Q => (∃ (c : Nat) (z : Str), x = .str ⟨#[c]⟩ ∧ y = .str z ∧ Q (.bl (!decide (c ∈ z.cps.toList))) H) ∨ (∃ i j, x = .str i ∧ y = .str j ∧ Q (.bl (!(!(Builtin.Str.occurrences j i 0 j.length 1).isEmpty))) H) ∨ rIn K true x y H Q
theorem str_one {w : Str} {c : Nat} (h : w.cps.toList = [c]) : w = ⟨#[c]⟩ := by
  obtain ⟨⟨l⟩⟩ := w
  cases h
  rfl
theorem in_ok : OpOk K (rInZ K) inD := by
  intro g H s x y a b d Q R ra rb e k
  unfold inD at e
  obtain ⟨c, h, rfl⟩ := Option.map_eq_some_iff.mp e
  unfold inB at h
  split at h
  · split at h
    · cases h; cases ra; cases rb
      rename_i z _ w
      have hk := k _ _ _ (.refl R) (.bl (memS w z))
      unfold memS at hk
      split at hk
      · rename_i c hc
        exact .inl ⟨c, z, by rw [str_one hc], rfl, hk⟩
      · exact .inr (.inl ⟨_, _, rfl, rfl, hk⟩)
    · cases h
  · split at h
    · rename_i v vs h1 h2
      cases h
      cases rb with
      | lst hl rl =>
        obtain ⟨rfl, hf⟩ := flats_of rl h2
        rw [rep_V0 ra h1]
        exact .inr (.inr ⟨_, _, rfl, .inl (.inl (rd_H R hl)), flat_V0 h1, hf, k _ _ _ (.refl R) (.bl _)⟩)
    · cases h
  · split at h
    · rename_i v vs h1 h2
      cases h
      cases rb with
      | tup hl rl =>
        obtain ⟨rfl, hf⟩ := flats_of rl h2
        rw [rep_V0 ra h1]
        exact .inr (.inr ⟨_, _, rfl, .inr (sqT_H R hl), flat_V0 h1, hf, k _ _ _ (.refl R) (.bl _)⟩)
    · cases h
  · cases h
variable {a b c : Expr} {ma mb mc : ME} {pos : Pos}
theorem oIn : OpR X (compareOp .In) (rInZ X.K) := OpR.or op_in_sign (OpR.or op_in_str op_in_seq)
/-- k in d -/
def inDic (x y : D) : Option D := match y with
  | .dic kvs => (keyD x).map fun k => .bl (lookD kvs k).isSome
  | _ => none
def notInDic (x y : D) : Option D := match y with
  | .dic kvs => (keyD x).map fun k => .bl (!(lookD kvs k).isSome)
  | _ => none
/-- either of two readings -/
def orM (m m' : ME) : ME := fun e s => match m e s with
  | some r => some r
  | none => m' e s
/-! ### truth, logic -/
def truD : D → Option Bool
  | .non => some false
  | .bl b => some b
  | .int i => some (i != 0)
  | .str y => if y.length ≤ sizeLine then some ((y.length : Int) != 0) else none
  | .lst ds => some (!ds.isEmpty)
  | .tup ds => some (!ds.isEmpty)
  | _ => none
theorem isEmpty_rep : ∀ {vs : List V} {ds : List D}, RepL K g vs ds → vs.isEmpty = ds.isEmpty
  | _, _, .nil => rfl
  | _, _, .cons _ _ => rfl
theorem tru_of {v : V} {d : D} {k : Bool} (R : SRel K g H s) (r : Rep K g v d) (h : truD d = some k) : TruV K v H k := by
  cases r with
  | non => simp only [truD] at h; cases h; rfl
  | bl b => simp only [truD] at h; cases h; rfl
  | int i => simp only [truD] at h; cases h; rfl
  | str y =>
    simp only [truD] at h
    split at h
    · cases h; exact ⟨by assumption, rfl⟩
    · cases h
  | lst hl r => simp only [truD] at h; cases h; exact .inl ⟨_, .inl (rd_H R hl), by rw [isEmpty_rep r]⟩
  | tup hl r => simp only [truD] at h; cases h; exact .inr (.inl ⟨_, sqT_H R hl, by rw [isEmpty_rep r]⟩)
  | _ => simp only [truD] at h <;> cases h
def mAnd (ma mb : ME) : ME := fun e s => bnd (ma e s) fun a s => bnd (lft (truD a) s) fun k s => match k with
  | true => mb e s
  | false => some (a, s)
def mOr (ma mb : ME) : ME := fun e s => bnd (ma e s) fun a s => bnd (lft (truD a) s) fun k s => match k with
  | true => some (a, s)
  | false => mb e s
def notD (a : D) : Option D := (truD a).map fun k => .bl (!k)
variable {rest : List Expr}
/-! ### tests -/
def mT (m : ME) : MT := fun e s => bnd (m e s) fun d s => lft (truD d) s
/-- a plain expression as a test -/
theorem t_of (ha : PE X a (trE X.K ma)) (he : ∀ whole, isTrue a X.env whole = (do let v ← whole; standAt a.pos; holding [v] (truthy v)) := by intro _; rfl) : PT X a (trT X.K (mT ma)) := PT.imp (pt_truth ha he) fun σ H Q ⟨g, e, s, b, s', R, E, hm, k⟩ => by
  obtain ⟨a, s1, h1, hm1⟩ := bnd_some hm
  obtain ⟨h3, h4⟩ := lft_some hm1
  dsimp only at h3 h4
  subst h4
  exact ⟨g, e, s, a, s', R, E, h1, fun x g1 H1 st1 ra => ⟨b, tru_of st1.rel ra h3, k _ _ st1⟩⟩
def Bly (f : D → D → Option D) : Prop := ∀ a b d, f a b = some d → ∃ k, d = .bl k
theorem trT_op {r : R2} {f : D → D → Option D} (h : OpOk K r f) (hb : Bly f) {σ : L2.St} {H : Hp} {Q : Bool → Hp → Prop} (q : trT K (mT (mOp f ma mb)) σ H Q) : tTest (tOp r (trE K ma) (trE K mb)) σ H Q := by
  obtain ⟨g, e, s, t, s', R, E, hm, k⟩ := q
  obtain ⟨d, s0, hm0, hmt⟩ := bnd_some hm
  obtain ⟨h6, h7⟩ := lft_some hmt
  dsimp only at h6 h7
  subst h7
  obtain ⟨a, s1, h1, hm1⟩ := bnd_some hm0
  obtain ⟨b, s2, h2, hm2⟩ := bnd_some hm1
  obtain ⟨h3, h4⟩ := lft_some hm2
  dsimp only at h3 h4
  subst h4
  obtain ⟨kk, rfl⟩ := hb _ _ _ h3
  cases h6
  refine ⟨g, e, s, a, s1, R, E, h1, fun x g1 H1 st1 ra => ⟨g1, e, s1, b, s', st1.rel, E.step st1, h2, fun y g2 H2 st2 rb => ?_⟩⟩
  refine h g2 H2 s' x y a b _ _ st2.rel (ra.mono st2.le) rb h3 fun v g3 H3 st3 rd => ?_
  cases rd
  exact ⟨_, rfl, k g3 H3 ((st1.trans st2).trans st3)⟩
theorem bly_ne : Bly neD := fun a b d h => by unfold neD at h; obtain ⟨c, _, rfl⟩ := Option.map_eq_some_iff.mp h; exact ⟨_, rfl⟩
theorem bly_lt : Bly ltD := fun a b d h => by unfold ltD at h; split at h <;> cases h <;> exact ⟨_, rfl⟩
theorem bly_gt : Bly gtD := fun a b d h => by unfold gtD at h; split at h <;> cases h <;> exact ⟨_, rfl⟩
theorem bly_ge : Bly geD := fun a b d h => by unfold geD at h; split at h <;> cases h <;> exact ⟨_, rfl⟩
theorem t_ne (hu : X.A.units + 64 < cLine) (ha : PE X a (trE X.K ma)) (hb : PE X b (trE X.K mb)) : PT X (.Compare a [.NotEq] [b] pos) (trT X.K (mT (mOp neD ma mb))) := PT.imp (pt_cmpR (OpR.or op_ne (op_neD hu)) ha hb (nomark _)) fun _ _ _ => trT_op ne_ok bly_ne
theorem t_lt (ha : PE X a (trE X.K ma)) (hb : PE X b (trE X.K mb)) : PT X (.Compare a [.Lt] [b] pos) (trT X.K (mT (mOp ltD ma mb))) := PT.imp (pt_cmpR oLt ha hb (nomark _)) fun _ _ _ => trT_op lt_ok bly_lt
theorem t_gt (ha : PE X a (trE X.K ma)) (hb : PE X b (trE X.K mb)) : PT X (.Compare a [.Gt] [b] pos) (trT X.K (mT (mOp gtD ma mb))) := PT.imp (pt_cmpR oGt ha hb (nomark _)) fun _ _ _ => trT_op gt_ok bly_gt
theorem t_ge (ha : PE X a (trE X.K ma)) (hb : PE X b (trE X.K mb)) : PT X (.Compare a [.GtE] [b] pos) (trT X.K (mT (mOp geD ma mb))) := PT.imp (pt_cmpR oGe ha hb (nomark _)) fun _ _ _ => trT_op ge_ok bly_ge
/-- either of two readings, of tests -/
def orT (m m' : MT) : MT := fun e s => match m e s with
  | some r => some r
  | none => m' e s
variable {ta tb : MT}
def tAndZ (ta tb : MT) : MT := fun e s => bnd (ta e s) fun k s => match k with
  | true => tb e s
  | false => some (false, s)
def tOrZ (ta tb : MT) : MT := fun e s => bnd (ta e s) fun k s => match k with
  | true => some (true, s)
  | false => tb e s
def tNotZ (ta : MT) : MT := fun e s => bnd (ta e s) fun k s => some (!k, s)
theorem w_and1 (ha : PT X a (trT X.K ta)) : PW X (.BoolOp .And [a] pos) (trT X.K ta) := pw_and1 ha
theorem w_or1 (ha : PT X a (trT X.K ta)) : PW X (.BoolOp .Or [a] pos) (trT X.K ta) := pw_or1 ha
theorem w_and (ha : PT X a (trT X.K ta)) (hb : PW X (.BoolOp .And (b :: rest) pos) (trT X.K tb)) : PW X (.BoolOp .And (a :: b :: rest) pos) (trT X.K (tAndZ ta tb)) := PW.imp (pw_and ha hb) fun σ H Q ⟨g, e, s, t, s', R, E, hm, k⟩ => by
  obtain ⟨z, s1, h1, hm1⟩ := bnd_some hm
  refine ⟨g, e, s, z, s1, R, E, h1, fun g1 H1 st1 => ?_⟩
  cases z with
  | true => exact iteT ⟨g1, e, s1, t, s', st1.rel, E.step st1, hm1, fun g2 H2 st2 => k g2 H2 (st1.trans st2)⟩
  | false => cases hm1; exact iteF (k _ _ st1)
theorem w_or (ha : PT X a (trT X.K ta)) (hb : PW X (.BoolOp .Or (b :: rest) pos) (trT X.K tb)) : PW X (.BoolOp .Or (a :: b :: rest) pos) (trT X.K (tOrZ ta tb)) := PW.imp (pw_or ha hb) fun σ H Q ⟨g, e, s, t, s', R, E, hm, k⟩ => by
  obtain ⟨z, s1, h1, hm1⟩ := bnd_some hm
  refine ⟨g, e, s, z, s1, R, E, h1, fun g1 H1 st1 => ?_⟩
  cases z with
  | false => exact iteF ⟨g1, e, s1, t, s', st1.rel, E.step st1, hm1, fun g2 H2 st2 => k g2 H2 (st1.trans st2)⟩
  | true => cases hm1; exact iteT (k _ _ st1)
theorem t_bool {e : Expr} {m : MT} (h : PW X e (trT X.K m)) : PT X e (trT X.K m) := h.pt
theorem t_not (ha : PT X a (trT X.K ta)) : PT X (.UnaryOp .Not a pos) (trT X.K (tNotZ ta)) := PT.imp (pt_not ha) fun σ H Q ⟨g, e, s, t, s', R, E, hm, k⟩ => by
  obtain ⟨z, s1, h1, hm1⟩ := bnd_some hm
  cases hm1
  exact ⟨g, e, s, z, s', R, E, h1, fun g1 H1 st1 => k g1 H1 st1⟩
/-! ### a if t else b -/
def mIf (t : MT) (ma mb : ME) : ME := fun e s => bnd (t e s) fun k s => match k with
  | true => ma e s
  | false => mb e s
theorem d_if (hc : PT X c (trT X.K ta)) (ha : PE X a (trE X.K ma)) (hb : PE X b (trE X.K mb)) : PE X (.IfExp c a b pos) (trE X.K (mIf ta ma mb)) := PE.imp (pe_ifExp hc ha hb) fun σ H Q ⟨g, e, s, d, s', R, E, hm, k⟩ => by
  obtain ⟨z, s1, h1, hm1⟩ := bnd_some hm
  refine ⟨g, e, s, z, s1, R, E, h1, fun g1 H1 st1 => ?_⟩
  cases z with
  | true => exact iteT ⟨g1, e, s1, d, s', st1.rel, E.step st1, hm1, fun v g2 H2 st2 rv => k v g2 H2 (st1.trans st2) rv⟩
  | false => exact iteF ⟨g1, e, s1, d, s', st1.rel, E.step st1, hm1, fun v g2 H2 st2 rv => k v g2 H2 (st1.trans st2) rv⟩
end
end Z

set_option Elab.async false
set_option linter.all false
set_option maxRecDepth 100000
set_option maxHeartbeats 4000000
namespace Z
open PySem PySem.Spec PyProof.Rows L2
section
variable {X : Cx} {K : PySem.W.Frag} {g : G} {H : Hp} {s : S}
variable {a b c : Expr} {es : List Expr} {me mb mc : ME} {ma : MA} {pos : Pos}
/-! ### argument lists, displays -/
def aNil : MA := fun _ s => some ([], s)
def aCons (m : ME) (ma : MA) : MA := fun e s => bnd (m e s) fun d s => bnd (ma e s) fun ds s => some (d :: ds, s)
def itemsD : D → Option (List D)
  | .lst ds => some ds
  | .tup ds => some ds
  | _ => none
def aStar (m : ME) (ma : MA) : MA := fun e s => bnd (m e s) fun d s => bnd (lft (itemsD d) s) fun xs s => bnd (ma e s) fun ds s => some (xs ++ ds, s)
theorem a_nil : PA X [] (trA X.K aNil) := PA.imp pa_nil fun σ H Q ⟨g, e, s, ds, s', R, E, hm, k⟩ => by
  cases hm
  exact k _ _ _ (.refl R) .nil
theorem a_cons (h : PE X a (trE X.K me)) (ha : PA X es (trA X.K ma)) (hs : starEach (a :: es) X.env = (false, eval a X.env) :: starEach es X.env := by rfl) : PA X (a :: es) (trA X.K (aCons me ma)) := PA.imp (pa_cons h ha hs) fun σ H Q ⟨g, e, s, ds, s', R, E, hm, k⟩ => by
  obtain ⟨d, s1, h1, hm1⟩ := bnd_some hm
  obtain ⟨xs, s2, h2, hm2⟩ := bnd_some hm1
  cases hm2
  exact ⟨g, e, s, d, s1, R, E, h1, fun x g1 H1 st1 rx => ⟨g1, e, s1, xs, _, st1.rel, E.step st1, h2, fun vs g2 H2 st2 rv => k _ g2 H2 (st1.trans st2) (.cons (rx.mono st2.le) rv)⟩⟩
def mTup (ma : MA) : ME := fun e s => bnd (ma e s) fun ds s => if ds.length ≤ sizeLine then some (.tup ds, s) else none
def mLst (ma : MA) : ME := fun e s => bnd (ma e s) fun ds s => if ds.length ≤ sizeLine then some (.lst ds, s) else none
theorem d_tup {x1} (h : PA X es (trA X.K ma)) : PE X (.Tuple es x1 pos) (trE X.K (mTup ma)) := PE.imp (pe_tup h) fun σ H Q ⟨g, e, s, d, s', R, E, hm, k⟩ => by
  obtain ⟨ds, s1, h1, hm1⟩ := bnd_some hm
  split at hm1
  · cases hm1
    refine ⟨g, e, s, ds, s', R, E, h1, fun vs g1 H1 st1 rv => ⟨by rw [rv.length]; assumption, fun p hp => ?_⟩⟩
    obtain ⟨g2, st, r⟩ := fresh_tup st1.rel hp rv
    exact k _ _ _ (st1.trans st) r
  · cases hm1
theorem f_lst (h : PA X es (trA X.K ma)) : PE X (.List es pos) (trF X.K (mLst ma)) := PE.imp (pe_lst h) fun σ H Q ⟨g, e, s, d, s', R, E, hm, k⟩ => by
  obtain ⟨ds, s1, h1, hm1⟩ := bnd_some hm
  split at hm1
  · cases hm1
    refine ⟨g, e, s, ds, s', R, E, h1, fun vs g1 H1 st1 rv => ⟨by rw [rv.length]; assumption, fun p hp => ?_⟩⟩
    obtain ⟨st, hf, hc, o⟩ := fresh_upd (u := .lst vs) (d := .lst ds) st1.rel hp fun g' L => ⟨vs, upd_same, rv.mono L⟩
    exact k p g1 _ (st1.trans st) (st1.noneOf hp) hf hc o
  · cases hm1
/-! ### items -/
def atD (xs : List D) (i : Int) : Option D := atI xs i
def idxD : D → D → Option D
  | .lst ds, .int i => atI ds i
  | .tup ds, .int i => atI ds i
  | .str z, .int i => if z.length ≤ sizeLine then (atI z.cps.toList i).map fun c => .str ⟨#[c]⟩ else none
  | _, _ => none
theorem repL_at {vs : List V} {ds : List D} {i : Int} {d : D} (r : RepL K g vs ds) (h : atI ds i = some d) : ∃ v, atI vs i = some v ∧ Rep K g v d := by
  unfold atI at h ⊢
  rw [r.length]
  obtain ⟨j, h1, h2⟩ := Option.bind_eq_some_iff.mp h
  obtain ⟨v, h3, h4⟩ := r.get h2
  exact ⟨v, by rw [h1]; exact h3, h4⟩
theorem idx_ok : OpOk K (rIx K) idxD := by
  intro g H s x y a b d Q R ra rb e k
  unfold idxD at e
  split at e
  · cases rb
    cases ra with
    | lst hl r =>
      obtain ⟨v, h1, h2⟩ := repL_at r e
      exact .inl ⟨_, _, _, _, rfl, rfl, .inl (rd_H R hl), h1, k _ _ _ (.refl R) h2⟩
  · cases rb
    cases ra with
    | tup hl r =>
      obtain ⟨v, h1, h2⟩ := repL_at r e
      exact .inr (.inl ⟨_, _, _, _, rfl, rfl, sqT_H R hl, h1, k _ _ _ (.refl R) h2⟩)
  · split at e
    · cases rb; cases ra
      obtain ⟨c, h1, rfl⟩ := Option.map_eq_some_iff.mp e
      exact .inr (.inr ⟨_, _, _, rfl, rfl, by assumption, h1, k _ _ _ (.refl R) (.str _)⟩)
    · cases e
  · cases e
theorem d_idx (ha : PE X a (trE X.K me)) (hb : PE X b (trE X.K mb)) (hs : PlainIx b := by exact fun _ _ => rfl) : PE X (.Subscript a b pos) (trE X.K (mOp idxD me mb)) := PE.imp (pe_ix ix_seq ha hb hs) fun _ _ _ => trE_op idx_ok
def idxDic : D → D → Option D
  | .dic kvs, y => (keyD y).bind fun k => lookD kvs k
  | _, _ => none
/-! ### slices -/
def cutL {α : Type} (xs : List α) (lo hi : Option Int) : List α := (xs.drop (HT.sIx xs.length 0 lo)).take (HT.sIx xs.length xs.length hi - HT.sIx xs.length 0 lo)
theorem repL_cut {vs : List V} {ds : List D} (r : RepL K g vs ds) (lo hi : Option Int) : RepL K g (cutV vs lo hi) (cutL ds lo hi) := by
  unfold cutV cutL
  rw [r.length]
  exact (r.drop _).take _
abbrev MO := EnvD → S → Option (Option Int × S)
def oNone : MO := fun _ s => some (none, s)
def oSome (m : ME) : MO := fun e s => bnd (m e s) fun d s => match d with
  | .int i => some (some i, s)
  | _ => none
def trO (K : PySem.W.Frag) (m : MO) : TO := fun σ H Q => ∃ g e s d s', SRel K g H s ∧ EnvRel K g H σ e ∧ m e s = some (d, s') ∧ ∀ g' H', Step K g H g' H' s' → Q d H'
theorem PO.imp {X : Cx} {e : Option Expr} {t t' : TO} (h : PO X e t) (i : ∀ σ H Q, t' σ H Q → t σ H Q) : PO X e t' := ⟨fun pins s σ H Q I q => h.run pins s σ H Q I (i _ _ _ q)⟩
theorem o_none : PO X none (trO X.K oNone) := PO.imp po_none fun σ H Q ⟨g, e, s, d, s', R, E, hm, k⟩ => by
  cases hm
  exact k _ _ (.refl R)
theorem o_some (h : PE X a (trE X.K me)) : PO X (some a) (trO X.K (oSome me)) := PO.imp (po_some h) fun σ H Q ⟨g, e, s, d, s', R, E, hm, k⟩ => by
  obtain ⟨x, s1, h1, hm1⟩ := bnd_some hm
  split at hm1
  · cases hm1
    exact ⟨g, e, s, _, s', R, E, h1, fun x g1 H1 st1 rx => by cases rx; exact ⟨_, rfl, k _ _ st1⟩⟩
  · cases hm1
def mSl (f : D → Option Int → Option Int → Option D) (m : ME) (ml mh : MO) : ME := fun e s => bnd (m e s) fun d s => bnd (ml e s) fun lo s => bnd (mh e s) fun hi s => lft (f d lo hi) s
def slD : D → Option Int → Option Int → Option D
  | .tup ds, lo, hi => some (.tup (cutL ds lo hi))
  | .str z, lo, hi => if z.length ≤ sizeLine then some (.str (cutS z lo hi)) else none
  | _, _, _ => none
def slL : D → Option Int → Option Int → Option D
  | .lst ds, lo, hi => some (.lst (cutL ds lo hi))
  | _, _, _ => none
variable {lo hi : Option Expr} {ml mh : MO} {p2 : Pos}
theorem f_sl (h : PE X a (trE X.K me)) (hl : PO X lo (trO X.K ml)) (hh : PO X hi (trO X.K mh)) : PE X (.Subscript a (.Slice lo hi none p2) pos) (trF X.K (mSl slL me ml mh)) := PE.imp (pe_slice sl_list h hl hh) fun σ H Q ⟨g, e, s, d, s', R, E, hm, k⟩ => by
  obtain ⟨x, s1, h1, hm1⟩ := bnd_some hm
  obtain ⟨l, s2, h2, hm2⟩ := bnd_some hm1
  obtain ⟨u, s3, h3, hm3⟩ := bnd_some hm2
  obtain ⟨h4, h5⟩ := lft_some hm3
  dsimp only at h4 h5
  subst h5
  refine ⟨g, e, s, x, s1, R, E, h1, fun v g1 H1 st1 rv => ⟨g1, e, s1, l, s2, st1.rel, E.step st1, h2, fun g2 H2 st2 => ⟨g2, e, s2, u, s', st2.rel, (E.step st1).step st2, h3, fun g3 H3 st3 => ?_⟩⟩⟩
  have st := (st1.trans st2).trans st3
  have rv3 := rv.mono (st2.le.trans st3.le)
  unfold slL at h4
  split at h4
  · cases h4
    cases rv3 with
    | lst hl r =>
      refine ⟨_, _, rfl, .inl (rd_H st.rel hl), fun p hp => ?_⟩
      obtain ⟨st4, hf, hc, o⟩ := fresh_upd (u := .lst (cutV _ l u)) (d := .lst (cutL _ l u)) st.rel hp fun g' L => ⟨_, upd_same, (repL_cut r l u).mono L⟩
      exact k p g3 _ (st.trans st4) (st.noneOf hp) hf hc o
  · cases h4
/-! ### built-ins by their values -/
def CallOk (K : PySem.W.Frag) (r : List V → Hp → VK → Prop) (f : List D → Option D) : Prop := ∀ (g : G) (H : Hp) (s : S) (xs : List V) (ds : List D) (d : D) (Q : VK), SRel K g H s → RepL K g xs ds → f ds = some d →
  (∀ v g' H', Step K g H g' H' s → Rep K g' v d → Q v H') → r xs H Q
def CallOkF (K : PySem.W.Frag) (r : List V → Hp → VK → Prop) (f : List D → Option D) : Prop := ∀ (g : G) (H : Hp) (s : S) (xs : List V) (ds : List D) (d : D) (Q : VK), SRel K g H s → RepL K g xs ds → f ds = some d →
  (∀ p g' H', Step K g H g' H' s → H p = none → g'.F p = none → p ∉ g'.ad → OwnAt K g' H' p d → Q (.ref p) H') → r xs H Q
def mCall (f : List D → Option D) (ma : MA) : ME := fun e s => bnd (ma e s) fun ds s => lft (f ds) s
theorem trE_call {r : List V → Hp → VK → Prop} {f : List D → Option D} (h : CallOk K r f) {σ : L2.St} {H : Hp} {Q : VK} (q : trE K (mCall f ma) σ H Q) : tCB r (trA K ma) σ H Q := by
  obtain ⟨g, e, s, d, s', R, E, hm, k⟩ := q
  obtain ⟨ds, s1, h1, hm1⟩ := bnd_some hm
  obtain ⟨h4, h5⟩ := lft_some hm1
  dsimp only at h4 h5
  subst h5
  exact ⟨g, e, s, ds, s', R, E, h1, fun vs g1 H1 st1 rv => h g1 H1 s' vs ds d Q st1.rel rv h4 fun v g2 H2 st2 rd => k v g2 H2 (st1.trans st2) rd⟩
variable {x : Str} {p : Pos}
theorem d_callB {id : String} {r : List V → Hp → VK → Prop} {f : List D → Option D} (hc : CallR X (.builtin id) r) (ho : CallOk X.K r f) (hv : bootBuiltins x = some (.builtin id)) (hg : Gl X x) (hm : X.mg x = none) (ha : PA X (a :: es) (trA X.K ma)) (hn : x ≠ "__name__" := by decide +kernel) (hdb : (x == ("__debug__" : Str)) = false := by decide +kernel)
    (he : starEach (a :: es) X.env = (false, eval a X.env) :: starEach es X.env := by rfl) (hpl : (backTo pos (starEach es X.env)).any (·.1) = false := by rfl) : PE X (.Call (.Name x p) (a :: es) [] pos) (trE X.K (mCall f ma)) :=
  PE.imp (pe_callB hc hg hm hv ha hn hdb he hpl) fun _ _ _ => trE_call ho
theorem d_callT {T : String} {r : List V → Hp → VK → Prop} {f : List D → Option D} (hc : CallR X (.type T) r) (ho : CallOk X.K r f) (hv : bootBuiltins x = some (.type T)) (hg : Gl X x) (hm : X.mg x = none) (ha : PA X (a :: es) (trA X.K ma)) (hn : x ≠ "__name__" := by decide +kernel) (hdb : (x == ("__debug__" : Str)) = false := by decide +kernel)
    (he : starEach (a :: es) X.env = (false, eval a X.env) :: starEach es X.env := by rfl) (hpl : (backTo pos (starEach es X.env)).any (·.1) = false := by rfl) : PE X (.Call (.Name x p) (a :: es) [] pos) (trE X.K (mCall f ma)) :=
  PE.imp (pe_callTy hc hg hm hv ha hn hdb he hpl) fun _ _ _ => trE_call ho
/-- len -/
def lenD : List D → Option D
  | [.str y] => if y.length ≤ sizeLine then some (.int y.length) else none
  | [.lst ds] => some (.int ds.length)
  | [.tup ds] => some (.int ds.length)
  | _ => none
theorem len_ok : CallOk K (fun xs H Q => ∃ x n, xs = [x] ∧ LenV K x H n ∧ Q (.int n) H) lenD := by
  intro g H s xs ds d Q R r e k
  unfold lenD at e
  split at e
  · split at e
    · cases e
      cases r with
      | cons r1 r2 => cases r2; cases r1; exact ⟨_, _, rfl, ⟨by assumption, rfl⟩, k _ _ _ (.refl R) (.int _)⟩
    · cases e
  · cases e
    cases r with
    | cons r1 r2 =>
      cases r2
      cases r1 with
      | lst hl rl => exact ⟨_, _, rfl, .inl ⟨_, .inl (rd_H R hl), rfl⟩, by rw [rl.length]; exact k _ _ _ (.refl R) (.int _)⟩
  · cases e
    cases r with
    | cons r1 r2 =>
      cases r2
      cases r1 with
      | tup hl rl => exact ⟨_, _, rfl, .inr ⟨_, sqT_H R hl, rfl⟩, by rw [rl.length]; exact k _ _ _ (.refl R) (.int _)⟩
  · cases e
def boolsD : List D → Option (List Bool)
  | [] => some []
  | .bl b :: ds => (boolsD ds).map (b :: ·)
  | _ => none
theorem bools_of : ∀ {vs : List V} {ds : List D} {bs : List Bool}, RepL K g vs ds → boolsD ds = some bs → vs = bs.map V.bl
  | _, _, _, .nil, e => by simp only [boolsD] at e; cases e; rfl
  | _, _, _, .cons (d := d) h r, e => by
    cases d <;> simp only [boolsD] at e <;> first | (cases e; done) | skip
    obtain ⟨q, h1, rfl⟩ := Option.map_eq_some_iff.mp e
    cases h
    rw [bools_of r h1]
    rfl
def intsD : List D → Option (List Int)
  | [] => some []
  | .int b :: ds => (intsD ds).map (b :: ·)
  | _ => none
def strsD : List D → Option (List Str)
  | [] => some []
  | .str b :: ds => (strsD ds).map (b :: ·)
  | _ => none
theorem repL_one {vs : List V} {d : D} (r : RepL K g vs [d]) : ∃ v, vs = [v] ∧ Rep K g v d := by
  cases r with
  | cons r1 r2 => cases r2; exact ⟨_, rfl, r1⟩
theorem repL_two {vs : List V} {d e : D} (r : RepL K g vs [d, e]) : ∃ v w, vs = [v, w] ∧ Rep K g v d ∧ Rep K g w e := by
  cases r with
  | cons r1 r2 =>
    cases r2 with
    | cons r3 r4 => cases r4; exact ⟨_, _, rfl, r1, r3⟩
def allD : List D → Option D
  | [.lst ds] => (boolsD ds).map fun bs => .bl (bs.all id)
  | _ => none
def anyD : List D → Option D
  | [.lst ds] => (boolsD ds).map fun bs => .bl (bs.any id)
  | _ => none
def sumD : List D → Option D
  | [.lst ds] => (intsD ds).map fun bs => .int bs.sum
  | _ => none
theorem all_ok : CallOk K (rAll K) allD := by
  intro g H s xs ds d Q R r e k
  unfold allD at e
  split at e
  · obtain ⟨bs, h1, rfl⟩ := Option.map_eq_some_iff.mp e
    obtain ⟨v, rfl, rv⟩ := repL_one r
    cases rv with
    | lst hl rl => exact ⟨_, bs, rfl, by rw [← bools_of rl h1]; exact .inl (rd_H R hl), k _ _ _ (.refl R) (.bl _)⟩
  · cases e
/-- max, min of two ints; abs -/
def max2D : List D → Option D
  | [.int i, .int j] => some (.int (if j > i then j else i))
  | _ => none
def min2D : List D → Option D
  | [.int i, .int j] => some (.int (if j < i then j else i))
  | _ => none
def absD : List D → Option D
  | [.int i] => some (.int (if i < 0 then -i else i))
  | _ => none
theorem max2_ok : CallOk K (fun xs H Q => ∃ i j, xs = [.int i, .int j] ∧ Q (.int (if j > i then j else i)) H) max2D := by
  intro g H s xs ds d Q R r e k
  unfold max2D at e
  split at e
  · cases e
    obtain ⟨v, w, rfl, r1, r2⟩ := repL_two r
    cases r1; cases r2
    exact ⟨_, _, rfl, k _ _ _ (.refl R) (.int _)⟩
  · cases e
theorem min2_ok : CallOk K (fun xs H Q => ∃ i j, xs = [.int i, .int j] ∧ Q (.int (if j < i then j else i)) H) min2D := by
  intro g H s xs ds d Q R r e k
  unfold min2D at e
  split at e
  · cases e
    obtain ⟨v, w, rfl, r1, r2⟩ := repL_two r
    cases r1; cases r2
    exact ⟨_, _, rfl, k _ _ _ (.refl R) (.int _)⟩
  · cases e
theorem abs_ok : CallOk K (fun xs H Q => ∃ i, xs = [.int i] ∧ Q (.int (if i < 0 then -i else i)) H) absD := by
  intro g H s xs ds d Q R r e k
  unfold absD at e
  split at e
  · cases e
    obtain ⟨v, rfl, r1⟩ := repL_one r
    cases r1
    exact ⟨_, rfl, k _ _ _ (.refl R) (.int _)⟩
  · cases e
/-- int(x) -/
def intD : List D → Option D
  | [.int i] => some (.int i)
  | [.bl b] => some (.int (if b then 1 else 0))
  | [.str x] => if x.length ≤ 640 then (PySem.intText? x).map .int else none
  | _ => none
theorem CallR.or {f : Value} {r r' : List V → Hp → VK → Prop} (h : CallR X f r) (h' : CallR X f r') : CallR X f (fun xs H Q => r xs H Q ∨ r' xs H Q) := fun pins s σ H xs us Q I r q => q.elim (h pins s σ H xs us Q I r) (h' pins s σ H xs us Q I r)
theorem int_okC : CallOk K (fun xs H Q => ((∃ i, xs = [.int i] ∧ Q (.int i) H) ∨ ∃ k, xs = [.bl k] ∧ Q (.int (if k then 1 else 0)) H) ∨ ∃ a n, xs = [.str a] ∧ PySem.intText? a = some n ∧ a.length ≤ 640 ∧ Q (.int n) H) intD := by
  intro g H s xs ds d Q R r e k
  unfold intD at e
  split at e
  · cases e
    obtain ⟨v, rfl, r1⟩ := repL_one r
    cases r1
    exact .inl (.inl ⟨_, rfl, k _ _ _ (.refl R) (.int _)⟩)
  · cases e
    obtain ⟨v, rfl, r1⟩ := repL_one r
    cases r1
    exact .inl (.inr ⟨_, rfl, k _ _ _ (.refl R) (.int _)⟩)
  · split at e
    · obtain ⟨n, h1, rfl⟩ := Option.map_eq_some_iff.mp e
      obtain ⟨v, rfl, r1⟩ := repL_one r
      cases r1
      exact .inr ⟨_, n, rfl, h1, by assumption, k _ _ _ (.refl R) (.int _)⟩
    · cases e
  · cases e
/-- str(x) -/
def strD : List D → Option D
  | [.int i] => if i.natAbs.log2 < 1920 then some (.str (toString i)) else none
  | [.str x] => some (.str x)
  | _ => none
theorem str_ok : CallOk K (fun xs H Q => (∃ i, xs = [.int i] ∧ i.natAbs.log2 < 1920 ∧ Q (.str (toString i)) H) ∨ ∃ a, xs = [.str a] ∧ Q (.str a) H) strD := by
  intro g H s xs ds d Q R r e k
  unfold strD at e
  split at e
  · split at e
    · cases e
      obtain ⟨v, rfl, r1⟩ := repL_one r
      cases r1
      exact .inl ⟨_, rfl, by assumption, k _ _ _ (.refl R) (.str _)⟩
    · cases e
  · cases e
    obtain ⟨v, rfl, r1⟩ := repL_one r
    cases r1
    exact .inr ⟨_, rfl, k _ _ _ (.refl R) (.str _)⟩
  · cases e
/-- tuple(x), list(x) of a list or tuple -/
def tupleD : List D → Option D
  | [.lst ds] => some (.tup ds)
  | [.tup ds] => some (.tup ds)
  | _ => none
def listD : List D → Option D
  | [.lst ds] => some (.lst ds)
  | [.tup ds] => some (.lst ds)
  | _ => none
/-- divmod -/
def divmodD : List D → Option D
  | [.int i, .int j] => if 0 < j ∧ j < 1152921504606846976 then some (.tup [.int (i / j), .int (i % j)]) else none
  | _ => none
theorem divmod_ok : CallOk K (fun xs H Q => ∃ i j, xs = [.int i, .int j] ∧ CDivP i j ∧ ∀ p, H p = none → Q (.ref p) (upd H p (.tup [.int (i / j), .int (i % j)]))) divmodD := by
  intro g H s xs ds d Q R r e k
  unfold divmodD at e
  split at e
  · split at e
    · cases e
      obtain ⟨v, w, rfl, r1, r2⟩ := repL_two r
      cases r1; cases r2
      rename_i hz
      refine ⟨_, _, rfl, ⟨hz.1, PyProof.noPylong_of_log2 (Nat.lt_of_lt_of_le (PySem.Flt.log2_lt_of (k := 60) (by omega) (by have := hz.2; omega)) (by omega))⟩, fun p hp => ?_⟩
      obtain ⟨g2, st, r2⟩ := fresh_tup (vs := [.int _, .int _]) R hp (.cons (.int _) (.cons (.int _) .nil))
      exact k _ _ _ st r2
    · cases e
  · cases e
end
end Z

set_option Elab.async false
set_option linter.all false
set_option maxRecDepth 100000
set_option maxHeartbeats 4000000
namespace Z
open PySem PySem.Spec PyProof.Rows L2
/-! ### statements -/
inductive Fl where
  | nx | ret (d : D) | bk | ct | rto (d : D)
abbrev MS := EnvD → S → Option (Fl × EnvD × S)
def OwnA (σ : L2.St) (e : EnvD) (a : Addr) : Prop := ∃ (i : Nat) (d : D), e[i]? = some (Sl.own d) ∧ σ[i]? = some (some (.ref a))
structure StepS (K : PySem.W.Frag) (g : G) (H : Hp) (σ : L2.St) (e : EnvD) (g' : G) (H' : Hp) (σ' : L2.St) (e' : EnvD) (s' : S) : Prop where
  rel : SRel K g' H' s'
  env : EnvRel K g' H' σ' e'
  le : GLe g g'
  new : ∀ a u, g'.F a = some u → g.F a = some u ∨ Fre H a ∨ OwnA σ e a
  newc : ∀ a, a ∈ g'.ad → a ∈ g.ad ∨ H a = none ∨ OwnA σ e a
  keep : ∀ a u, H a = some u → a ∉ g.ad → ¬ OwnA σ e a → H' a = some u ∧ ¬ OwnA σ' e' a
  has : ∀ a u, H a = some u → ∃ u', H' a = some u'
section
variable {K : PySem.W.Frag} {g g' g'' : G} {H H' H'' : Hp} {σ σ' σ'' : L2.St} {e e' e'' : EnvD} {s s' s'' : S}
theorem Step.S (x : Step K g H g' H' s') (E : EnvRel K g H σ e) : StepS K g H σ e g' H' σ e s' where
  rel := x.rel
  env := E.step x
  le := x.le
  new := fun a u h => (x.new a u h).elim .inl fun z => .inr (.inl z)
  newc := fun a h => (x.newc a h).elim .inl fun z => .inr (.inl z)
  keep := fun a u h ha ho => ⟨x.keep a u h ha, ho⟩
  has := fun a u h => x.has h
theorem StepS.refl (R : SRel K g H s) (E : EnvRel K g H σ e) : StepS K g H σ e g H σ e s := (Step.refl R).S E
theorem StepS.noneOf (x : StepS K g H σ e g' H' σ' e' s') {a : Addr} (h : H' a = none) : H a = none := by
  cases q : H a with
  | none => rfl
  | some u => obtain ⟨u', z⟩ := x.has a u q; rw [h] at z; cases z
theorem StepS.back (x : StepS K g H σ e g' H' σ' e' s') {a : Addr} (h : OwnA σ' e' a) : H a = none ∨ OwnA σ e a := by
  by_cases ho : OwnA σ e a
  · exact .inr ho
  · cases q : H a with
    | none => exact .inl rfl
    | some u =>
      by_cases ha : a ∈ g.ad
      · obtain ⟨i, d, h1, h2⟩ := h
        obtain ⟨b, h3, _, h4, _⟩ := x.env.own i d h1
        rw [h2] at h3; cases h3
        exact absurd (mem_ad x.le ha) h4
      · exact absurd h (x.keep a u q ha ho).2
theorem StepS.trans (x : StepS K g H σ e g' H' σ' e' s') (y : StepS K g' H' σ' e' g'' H'' σ'' e'' s'') : StepS K g H σ e g'' H'' σ'' e'' s'' where
  rel := y.rel
  env := y.env
  le := x.le.trans y.le
  new := fun a u h => by
    rcases y.new a u h with q | q | q
    · exact x.new a u q
    · rcases q with q | ⟨vs, q⟩
      · exact .inr (.inl (.inl (x.noneOf q)))
      · by_cases ho : OwnA σ e a
        · exact .inr (.inr ho)
        · cases z : H a with
          | none => exact .inr (.inl (.inl z))
          | some w =>
            by_cases ha : a ∈ g.ad
            · exact absurd q (x.rel.noT (mem_ad x.le ha) vs)
            · have := (x.keep a w z ha ho).1
              rw [q] at this; cases this
              exact .inr (.inl (.inr ⟨vs, z⟩))
    · exact .inr ((x.back q).imp .inl id)
  newc := fun a h => by
    rcases y.newc a h with q | q | q
    · exact x.newc a q
    · exact .inr (.inl (x.noneOf q))
    · exact .inr (x.back q)
  keep := fun a u h ha ho => by
    obtain ⟨h1, h2⟩ := x.keep a u h ha ho
    refine y.keep a u h1 (fun z => ?_) h2
    rcases x.newc a z with q | q | q
    · exact ha q
    · rw [h] at q; cases q
    · exact ho q
  has := fun a u h => by
    obtain ⟨u1, h1⟩ := x.has a u h
    exact y.has a u1 h1
/-- H: the heap ahead of it; rto: a new object, nobody's -/
def FlOk (K : PySem.W.Frag) (Dn : Ends) (f : Fl) (H : Hp) (g' : G) (σ' : L2.St) (H' : Hp) : Prop := match f with
  | .nx => Dn.nx σ' H'
  | .ret d => ∀ v, Rep K g' v d → Dn.rt v H'
  | .bk => Dn.bk σ' H'
  | .ct => Dn.ct σ' H'
  | .rto d => ∀ a, H a = none → g'.F a = none → a ∉ g'.ad → OwnAt K g' H' a d → Dn.rt (.ref a) H'
theorem FlOk.mid {K : PySem.W.Frag} {Dn : Ends} {f : Fl} {H H1 : Hp} {g' : G} {σ' : L2.St} {H' : Hp} (h : FlOk K Dn f H g' σ' H') (n : ∀ a, H1 a = none → H a = none) : FlOk K Dn f H1 g' σ' H' := by
  cases f with
  | rto d => exact fun a ha => h a (n a ha)
  | nx => exact h
  | ret d => exact h
  | bk => exact h
  | ct => exact h
def trS (K : PySem.W.Frag) (m : MS) : TS := fun Dn σ H => ∃ g e s f e' s', SRel K g H s ∧ EnvRel K g H σ e ∧ m e s = some (f, e', s') ∧ ∀ g' H' σ', StepS K g H σ e g' H' σ' e' s' → FlOk K Dn f H g' σ' H'
end
def bndS {α : Type} (x : Option (α × S)) (f : α → S → Option (Fl × EnvD × S)) : Option (Fl × EnvD × S) := match x with
  | some (a, s) => f a s
  | none => none
theorem bndS_some {α : Type} {x : Option (α × S)} {f : α → S → Option (Fl × EnvD × S)} {r : Fl × EnvD × S} (h : bndS x f = some r) : ∃ a s, x = some (a, s) ∧ f a s = some r := by
  cases x with
  | none => cases h
  | some p => exact ⟨p.1, p.2, rfl, h⟩
def sNil : MS := fun e s => some (.nx, e, s)
def seqK (r : Option (Fl × EnvD × S)) (m : MS) : Option (Fl × EnvD × S) := match r with
  | some (.nx, e, s) => m e s
  | r => r
def sSeq (m1 m2 : MS) : MS := fun e s => seqK (m1 e s) m2
def sExpr (m : ME) : MS := fun e s => bndS (m e s) fun _ s => some (.nx, e, s)
def sRet (m : ME) : MS := fun e s => bndS (m e s) fun d s => some (.ret d, e, s)
def sRetN : MS := fun e s => some (.ret .non, e, s)
def sIf (t : MT) (m1 m2 : MS) : MS := fun e s => bndS (t e s) fun k s => match k with
  | true => m1 e s
  | false => m2 e s
def sSet (i : Nat) (m : ME) : MS := fun e s => bndS (m e s) fun d s => some (.nx, e.set i (.val d), s)
def sOwn (i : Nat) (m : ME) : MS := fun e s => bndS (m e s) fun d s => some (.nx, e.set i (.own d), s)
def frzE (i : Nat) (e : EnvD) : EnvD := match e[i]? with
  | some (.own d) => e.set i (.val d)
  | _ => e
/-- the ghost of a statement: slot i owns no more -/
def sFrz (i : Nat) (m : MS) : MS := fun e s => m (frzE i e) s
section
variable {X : Cx} {K : PySem.W.Frag} {st : Stmt} {sts : List Stmt} {m m1 m2 : MS} {me : ME} {mt : MT} {a : Expr} {pos : Pos}
theorem s_nil : PSs X [] (trS X.K sNil) := PSs.imp pss_nil fun Dn σ H ⟨g, e, s, f, e', s', R, E, hm, k⟩ => by
  cases hm
  exact k _ _ _ (.refl R E)
theorem trS_seq {Dn : Ends} {σ : L2.St} {H : Hp} (h : trS K (sSeq m1 m2) Dn σ H) : trS K m1 { Dn with nx := trS K m2 Dn } σ H := by
  obtain ⟨g, e, s, f, e', s', R, E, hm, k⟩ := h
  unfold sSeq seqK at hm
  split at hm
  · rename_i e1 s1 h1
    exact ⟨g, e, s, .nx, e1, s1, R, E, h1, fun g1 H1 σ1 st1 => ⟨g1, e1, s1, f, e', s', st1.rel, st1.env, hm, fun g2 H2 σ2 st2 => (k g2 H2 σ2 (st1.trans st2)).mid fun a => st1.noneOf⟩⟩
  · rename_i hne
    refine ⟨g, e, s, f, e', s', R, E, hm, fun g1 H1 σ1 st1 => ?_⟩
    have hk := k g1 H1 σ1 st1
    cases f with
    | nx => exact absurd hm (hne e' s')
    | ret d => exact hk
    | bk => exact hk
    | ct => exact hk
    | rto d => exact hk
theorem s_cons (h1 : PS X st (trS X.K m1)) (h2 : PSs X sts (trS X.K m2)) : PSs X (st :: sts) (trS X.K (sSeq m1 m2)) := PSs.imp (pss_cons h1 h2) fun _ _ _ h => trS_seq h
theorem s_one (h1 : PS X st (trS X.K m1)) : PSs X [st] (trS X.K m1) := pss_one h1
theorem s_ret (h : PE X a (trE X.K me)) : PS X (.Return (some a) pos) (trS X.K (sRet me)) := PS.imp (ps_ret h) fun Dn σ H ⟨g, e, s, f, e', s', R, E, hm, k⟩ => by
  obtain ⟨d, s1, h1, hm1⟩ := bndS_some hm
  cases hm1
  exact ⟨g, e, s, d, _, R, E, h1, fun v g1 H1 st1 rv => k _ _ _ (st1.S E) v rv⟩
/-- a new object given back -/
def sRto (m : ME) : MS := fun e s => bndS (m e s) fun d s => some (.rto d, e, s)
theorem s_rto (h : PE X a (trF X.K me)) : PS X (.Return (some a) pos) (trS X.K (sRto me)) := PS.imp (ps_ret h) fun Dn σ H ⟨g, e, s, f, e', s', R, E, hm, k⟩ => by
  obtain ⟨d, s1, h1, hm1⟩ := bndS_some hm
  cases hm1
  exact ⟨g, e, s, d, _, R, E, h1, fun p g1 H1 st1 hn hf hc o => k _ _ _ (st1.S E) p hn hf hc o⟩
theorem s_if {c : Expr} {sa sb : List Stmt} (hc : PT X c (trT X.K mt)) (ha : PSs X sa (trS X.K m1)) (hb : PSs X sb (trS X.K m2)) : PS X (.If c sa sb pos) (trS X.K (sIf mt m1 m2)) := PS.imp (ps_if hc ha hb) fun Dn σ H ⟨g, e, s, f, e', s', R, E, hm, k⟩ => by
  obtain ⟨z, s1, h1, hm1⟩ := bndS_some hm
  refine ⟨g, e, s, z, s1, R, E, h1, fun g1 H1 st1 => ?_⟩
  cases z with
  | true => exact iteT ⟨g1, e, s1, f, e', s', st1.rel, E.step st1, hm1, fun g2 H2 σ2 st2 => (k g2 H2 σ2 ((st1.S E).trans st2)).mid fun a => st1.noneOf⟩
  | false => exact iteF ⟨g1, e, s1, f, e', s', st1.rel, E.step st1, hm1, fun g2 H2 σ2 st2 => (k g2 H2 σ2 ((st1.S E).trans st2)).mid fun a => st1.noneOf⟩
/-- code that is not come to -/
def sDie : MS := fun _ _ => none
/-! ### stores into slots -/
theorem set_slot {g : G} {H : Hp} {σ : L2.St} {e : EnvD} {s : S} (R : SRel K g H s) (E : EnvRel K g H σ e) {i : Nat} {v : V} {d : D} (r : Rep K g v d) : StepS K g H σ e g H (σ.set i (some v)) (e.set i (.val d)) s := by
  have hE : EnvRel K g H (σ.set i (some v)) (e.set i (.val d)) := by
    refine ⟨by simp [E.len], fun j d' h => ?_, fun j d' h => ?_, fun j k d1 d2 a h1 h2 h3 h4 => ?_⟩
    · by_cases hj : i = j
      · subst hj
        have hl : i < e.length := by
          have := (List.getElem?_eq_some_iff.mp h).1
          simpa using this
        rw [List.getElem?_set_self hl] at h
        cases h
        exact ⟨v, List.getElem?_set_self (by rw [← E.len]; exact hl), r⟩
      · rw [List.getElem?_set_ne hj] at h ⊢
        exact E.val j d' h
    · by_cases hj : i = j
      · subst hj
        have hl : i < e.length := by
          have := (List.getElem?_eq_some_iff.mp h).1
          simpa using this
        rw [List.getElem?_set_self hl] at h
        cases h
      · rw [List.getElem?_set_ne hj] at h ⊢
        exact E.own j d' h
    · have n1 : i ≠ j := fun z => by
        subst z
        have hl : i < e.length := by
          have := (List.getElem?_eq_some_iff.mp h1).1
          simpa using this
        rw [List.getElem?_set_self hl] at h1; cases h1
      have n2 : i ≠ k := fun z => by
        subst z
        have hl : i < e.length := by
          have := (List.getElem?_eq_some_iff.mp h2).1
          simpa using this
        rw [List.getElem?_set_self hl] at h2; cases h2
      rw [List.getElem?_set_ne n1] at h1 h3
      rw [List.getElem?_set_ne n2] at h2 h4
      exact E.apart j k d1 d2 a h1 h2 h3 h4
  refine ⟨R, hE, .refl, fun _ _ h => .inl h, fun _ h => .inl h, fun a u h ha ho => ⟨h, fun ⟨j, d', h1, h2⟩ => ho ?_⟩, fun a u h => ⟨u, h⟩⟩
  have n1 : i ≠ j := fun z => by
    subst z
    have hl : i < e.length := by
      have := (List.getElem?_eq_some_iff.mp h1).1
      simpa using this
    rw [List.getElem?_set_self hl] at h1; cases h1
  rw [List.getElem?_set_ne n1] at h1 h2
  exact ⟨j, d', h1, h2⟩
theorem own_slot {g : G} {H : Hp} {σ : L2.St} {e : EnvD} {s : S} (R : SRel K g H s) (E : EnvRel K g H σ e) {i : Nat} {a : Addr} {d : D} (hf : g.F a = none) (hc : a ∉ g.ad) (o : OwnAt K g H a d) (hn : ∀ (j : Nat) (d' : D), e[j]? = some (Sl.own d') → σ[j]? ≠ some (some (V.ref a))) : EnvRel K g H (σ.set i (some (.ref a))) (e.set i (.own d)) := by
  have hs : ∀ {j : Nat} {x : Sl}, (e.set i (.own d))[j]? = some x → (i = j ∧ x = .own d) ∨ (i ≠ j ∧ e[j]? = some x) := fun {j x} h => by
    by_cases hj : i = j
    · subst hj
      have hl : i < e.length := by
        have := (List.getElem?_eq_some_iff.mp h).1
        simpa using this
      rw [List.getElem?_set_self hl] at h
      cases h
      exact .inl ⟨rfl, rfl⟩
    · rw [List.getElem?_set_ne hj] at h
      exact .inr ⟨hj, h⟩
  have hv : ∀ {j : Nat} {x : Sl}, (e.set i (.own d))[j]? = some x → i = j → (σ.set i (some (V.ref a)))[j]? = some (some (.ref a)) := fun {j x} h hj => by
    subst hj
    have hl : i < e.length := by
      have := (List.getElem?_eq_some_iff.mp h).1
      simpa using this
    exact List.getElem?_set_self (by rw [← E.len]; exact hl)
  refine ⟨by simp [E.len], fun j d' h => ?_, fun j d' h => ?_, fun j k d1 d2 b h1 h2 h3 h4 => ?_⟩
  · rcases hs h with ⟨_, z⟩ | ⟨hj, h'⟩
    · cases z
    · rw [List.getElem?_set_ne hj]
      exact E.val j d' h'
  · rcases hs h with ⟨hj, z⟩ | ⟨hj, h'⟩
    · cases z
      exact ⟨a, hv h hj, hf, hc, o⟩
    · rw [List.getElem?_set_ne hj]
      exact E.own j d' h'
  · rcases hs h1 with ⟨hj, _⟩ | ⟨hj, h1'⟩
    · have q := hv h1 hj
      rw [q] at h3; cases h3
      rcases hs h2 with ⟨hk, _⟩ | ⟨hk, h2'⟩
      · rw [← hj, hk]
      · rw [List.getElem?_set_ne hk] at h4
        exact absurd h4 (hn k _ h2')
    · rw [List.getElem?_set_ne hj] at h3
      rcases hs h2 with ⟨hk, _⟩ | ⟨hk, h2'⟩
      · have q := hv h2 hk
        rw [q] at h4; cases h4
        exact absurd h3 (hn j _ h1')
      · rw [List.getElem?_set_ne hk] at h4
        exact E.apart j k d1 d2 b h1' h2' h3 h4
theorem s_set {i : Nat} {x : Str} {pos' : Pos} (hN : X.N.Nodup) (hi : X.N[i]? = some x) (hx : Loc X.env.scope x) (h : PE X a (trE X.K me)) (hs : swapsWith a (some (.Name x pos')) pos.line X.env = pure false := by rfl) (hf : X.fn x = true ∨ X.env.scope.names.lookup x = some .local := by first | exact .inl rfl | assumption) :
    PS X (.Assign [.Name x pos'] a pos) (trS X.K (sSet i me)) := PS.imp (ps_set hN hi hx h hs hf) fun Dn σ H ⟨g, e, s, f, e', s', R, E, hm, k⟩ => by
  obtain ⟨d, s1, h1, hm1⟩ := bndS_some hm
  cases hm1
  exact ⟨g, e, s, d, _, R, E, h1, fun v g1 H1 st1 rv => k _ _ _ ((st1.S E).trans (set_slot st1.rel (E.step st1) rv))⟩
/-! ### what an owned slot holds, changed in place -/
def sApp (i : Nat) (m : ME) : MS := fun e s => bndS (m e s) fun d s => match e[i]? with
  | some (.own (.lst ds)) => if ds.length < sizeLine then some (.nx, e.set i (.own (.lst (ds ++ [d]))), s) else none
  | _ => none
end
end Z

set_option Elab.async false
set_option linter.all false
set_option maxRecDepth 100000
set_option maxHeartbeats 4000000
namespace Z
open PySem PySem.Spec PyProof.Rows L2
/-! ### targets -/
abbrev MG := D → EnvD → S → Option (EnvD × S)
def trG (K : PySem.W.Frag) (mg : MG) : TG := fun v σ H Q => ∃ g e s d e' s', SRel K g H s ∧ EnvRel K g H σ e ∧ Rep K g v d ∧ mg d e s = some (e', s') ∧ ∀ g' H' σ', StepS K g H σ e g' H' σ' e' s' → Q σ' H'
abbrev MGs := List D → EnvD → S → Option (EnvD × S)
def trGs (K : PySem.W.Frag) (mg : MGs) : TGs := fun vs σ H Q => ∃ g e s ds e' s', SRel K g H s ∧ EnvRel K g H σ e ∧ RepL K g vs ds ∧ mg ds e s = some (e', s') ∧ ∀ g' H' σ', StepS K g H σ e g' H' σ' e' s' → Q σ' H'
def gNm (i : Nat) : MG := fun d e s => some (e.set i (.val d), s)
def gsNil : MGs := fun ds e s => match ds with
  | [] => some (e, s)
  | _ => none
def gsCons (mg : MG) (ms : MGs) : MGs := fun ds e s => match ds with
  | d :: ds => match mg d e s with
    | some (e', s') => ms ds e' s'
    | none => none
  | [] => none
def gSeq (ms : MGs) : MG := fun d e s => match d with
  | .tup ds => ms ds e s
  | .lst ds => ms ds e s
  | _ => none
section
variable {X : Cx} {K : PySem.W.Frag} {mg : MG} {ms : MGs} {me mi : ME} {pos : Pos} {a : Expr}
theorem g_nm {i : Nat} {x : Str} (hN : X.N.Nodup) (hi : X.N[i]? = some x) (hx : Loc X.env.scope x) (hf : X.fn x = true ∨ X.env.scope.names.lookup x = some .local := by first | exact .inl rfl | assumption) : PG X (.Name x pos) (trG X.K (gNm i)) := PG.imp (pg_name hN hi hx hf) fun v σ H Q ⟨g, e, s, d, e', s', R, E, r, hm, k⟩ => by
  cases hm
  exact k _ _ _ (set_slot R E r)
theorem PGs.imp {X : Cx} {es : List Expr} {t t' : TGs} (h : PGs X es t) (i : ∀ v σ H Q, t' v σ H Q → t v σ H Q) : PGs X es t' := ⟨fun pins s σ H v u Q I r q => h.run pins s σ H v u Q I r (i _ _ _ _ q)⟩
theorem PG.or {X : Cx} {e : Expr} {t t' : TG} (h : PG X e t) (h' : PG X e t') : PG X e (fun v σ H Q => t v σ H Q ∨ t' v σ H Q) := ⟨fun pins s σ H v u Q I r q => q.elim (h.run pins s σ H v u Q I r) (h'.run pins s σ H v u Q I r)⟩
theorem gs_nil : PGs X [] (trGs X.K gsNil) := PGs.imp pgs_nil fun vs σ H Q ⟨g, e, s, ds, e', s', R, E, r, hm, k⟩ => by
  unfold gsNil at hm
  split at hm
  · cases hm
    cases r
    exact ⟨rfl, k _ _ _ (.refl R E)⟩
  · cases hm
theorem gs_cons {es : List Expr} (h1 : PG X a (trG X.K mg)) (h2 : PGs X es (trGs X.K ms)) (hs : (assignEach (a :: es) X.env).map (·.2) = assign a X.env :: (assignEach es X.env).map (·.2) := by rfl) : PGs X (a :: es) (trGs X.K (gsCons mg ms)) := PGs.imp (pgs_cons h1 h2 hs) fun vs σ H Q ⟨g, e, s, ds, e', s', R, E, r, hm, k⟩ => by
  unfold gsCons at hm
  split at hm
  · split at hm
    · rename_i d ds _ e1 s1 h3
      cases r with
      | cons r1 r2 =>
        refine ⟨_, _, rfl, g, e, s, d, e1, s1, R, E, r1, h3, fun g1 H1 σ1 st1 => ?_⟩
        exact ⟨g1, e1, s1, ds, e', s', st1.rel, st1.env, r2.mono st1.le, hm, fun g2 H2 σ2 st2 => k _ _ _ (st1.trans st2)⟩
    · cases hm
  · cases hm
theorem g_seq {es : List Expr} {kk n : Nat} (hc : X.calm = true) (h : PGs X es (trGs X.K ms)) (hlen : ∀ ds e s r, ms ds e s = some r → ds.length = n) (hn : (assignEach es X.env).length = n := by rfl) (hst : (assignEach es X.env).findIdx? (·.1) = none := by rfl) : PG X (.Tuple es kk pos) (trG X.K (gSeq ms)) :=
  PG.imp (PG.or (pg_tup hc h hn hst) (pg_unl hc h hn hst)) fun v σ H Q ⟨g, e, s, d, e', s', R, E, r, hm, k⟩ => by
  unfold gSeq at hm
  split at hm
  · cases r with
    | tup hl rl => exact .inl ⟨_, _, rfl, sqT_H R hl, by rw [rl.length]; exact hlen _ _ _ _ hm, g, e, s, _, e', s', R, E, rl, hm, k⟩
  · cases r with
    | lst hl rl => exact .inr ⟨_, _, rfl, .inl (rd_H R hl), by rw [rl.length]; exact hlen _ _ _ _ hm, g, e, s, _, e', s', R, E, rl, hm, k⟩
  · cases hm
theorem gsLen0 : ∀ ds e s r, gsNil ds e s = some r → ds.length = 0 := fun ds e s r h => by
  unfold gsNil at h
  split at h
  · rfl
  · cases h
theorem gsLen1 {n : Nat} (h : ∀ ds e s r, ms ds e s = some r → ds.length = n) : ∀ ds e s r, gsCons mg ms ds e s = some r → ds.length = n + 1 := fun ds e s r q => by
  unfold gsCons at q
  split at q
  · split at q
    · rw [List.length_cons, h _ _ _ _ q]
    · cases q
  · cases q
/-- a cell's item -/
def gCel (mo mi : ME) : MG := fun d e s => match mo e s with
  | some (.cel n, s) => match mi e s with
    | some (.int k, s) => match s[n]? with
      | some (.lst ds) => match ixN ds.length k with
        | some j => some (e, s.set n (.lst (ds.set j d)))
        | none => none
      | _ => none
    | _ => none
  | _ => none
theorem cel_step {g : G} {H : Hp} {σ : L2.St} {e : EnvD} {s : S} {n : Nat} {p : Addr} {u : HO} {c : D} (R : SRel K g H s) (E : EnvRel K g H σ e) (hp : g.ad[tk K + n]? = some p) (hn0 : n < s.length) (o : ∀ g', GLe g g' → OwnC K g' (upd H p u) p c) : StepS K g H σ e g (upd H p u) σ e (s.set n c) := by
  have hn := tb_lt (K := K) hn0
  have hm : p ∈ g.ad := List.mem_iff_getElem?.mpr ⟨_, hp⟩
  have hF : ∀ b w, g.F b = some w → b ≠ p := fun b w q z => by
    subst z
    obtain ⟨b', h1, h2, _⟩ := R.cell _ _ (List.getElem?_eq_getElem hn)
    rw [hp] at h1; cases h1
    rw [h2] at q; cases q
  have R' : SRel K g (upd H p u) (s.set n c) := by
    show SRel0 K g (upd H p u) (tbD K ++ s.set n c)
    rw [tb_set]
    refine ⟨fun b w q => by rw [upd_ne (hF b w q)]; exact R.sub b w q, by rw [List.length_set]; exact R.len, fun m c' q => ?_, R.inj⟩
    by_cases hmn : tk K + n = m
    · subst hmn
      rw [List.getElem?_set_self hn] at q
      cases q
      obtain ⟨b', h1, h2, _⟩ := R.cell _ _ (List.getElem?_eq_getElem hn)
      rw [hp] at h1; cases h1
      exact ⟨p, hp, h2, o g .refl⟩
    · rw [List.getElem?_set_ne hmn] at q
      obtain ⟨b', h1, h2, h3⟩ := R.cell m c' q
      have nb : b' ≠ p := fun z => by subst z; exact hmn (R.inj _ m b' hp h1)
      exact ⟨b', h1, h2, h3.mono .refl fun w hw => by rw [upd_ne nb]; exact hw⟩
  refine ⟨R', ⟨E.len, E.val, fun i d h => ?_, E.apart⟩, .refl, fun _ _ h => .inl h, fun _ h => .inl h, fun b w hb hc ho => ⟨?_, ho⟩, fun b w hb => ?_⟩
  · obtain ⟨b, h1, h2, h3, h4⟩ := E.own i d h
    have nb : b ≠ p := fun z => by subst z; exact h3 hm
    exact ⟨b, h1, h2, h3, h4.mono .refl fun w hw => by rw [upd_ne nb]; exact hw⟩
  · rw [upd_ne fun z => by subst z; exact hc hm]
    exact hb
  · by_cases hbp : b = p
    · subst hbp; exact ⟨u, upd_same⟩
    · exact ⟨w, by rw [upd_ne hbp]; exact hb⟩
theorem g_cel {o i : Expr} (ho : PE X o (trE X.K me)) (hi : PE X i (trE X.K mi))
    (ha : ∀ v, assign (.Subscript o i pos) X.env v = (do
      let ov ← holding [v] (eval o X.env)
      let iv ← holding [v, ov] (eval i X.env)
      standAt pos
      holding [v, ov, iv] (setItem ov iv v)
      release [v, ov, iv] []) := by intro _; rfl) : PG X (.Subscript o i pos) (trG X.K (gCel me mi)) := PG.imp (pg_sub ho hi set_list ha) fun v σ H Q ⟨g, e, s, d, e', s', R, E, r, hm, k⟩ => by
  unfold gCel at hm
  split at hm
  · rename_i n s1 h1
    split at hm
    · rename_i kk s2 h2
      split at hm
      · rename_i ds h3
        split at hm
        · rename_i j h4
          cases hm
          refine ⟨g, e, s, _, s1, R, E, h1, fun ov g1 H1 st1 ro => ⟨g1, e, s1, _, s2, st1.rel, E.step st1, h2, fun iv g2 H2 st2 ri => ?_⟩⟩
          cases ri
          have st := st1.trans st2
          cases ro with
          | cel hp =>
            have hp2 := st2.le.ad _ _ hp
            obtain ⟨b, q1, q2, vs, q3, q4⟩ := st2.rel.vis h3
            rw [hp2] at q1; cases q1
            refine ⟨_, vs, kk, j, rfl, rfl, q3, by rw [q4.length]; exact h4, ?_⟩
            have hn : n < s2.length := (List.getElem?_eq_some_iff.mp h3).1
            refine k _ _ _ ((st.S E).trans (cel_step st2.rel (E.step st) hp2 hn fun g' L => ⟨_, upd_same, ?_⟩))
            exact ((q4.set (r.mono st.le) j)).mono L
        · cases hm
      · cases hm
    · cases hm
  · cases hm
/-- target = value -/
def sAsg (mg : MG) (m : ME) : MS := fun e s => bndS (m e s) fun d s => match mg d e s with
  | some (e', s') => some (.nx, e', s')
  | none => none
theorem s_asg {tg : Expr} (h : PE X a (trE X.K me)) (hg : PG X tg (trG X.K mg)) (hs : swapsWithSole [tg] a pos.line X.env = pure false := by rfl) (hw : swappedStores [tg] a X.env = pure none := by rfl)
    (h1 : (assignEach [tg] X.env).map (·.2) = [assign tg X.env] := by rfl) : PS X (.Assign [tg] a pos) (trS X.K (sAsg mg me)) := PS.imp (ps_asg h hg hs hw h1) fun Dn σ H ⟨g, e, s, f, e', s', R, E, hm, k⟩ => by
  obtain ⟨d, s1, h2, hm1⟩ := bndS_some hm
  split at hm1
  · rename_i e2 s2 h3
    cases hm1
    exact ⟨g, e, s, d, s1, R, E, h2, fun v g1 H1 st1 rv => ⟨g1, e, s1, d, _, _, st1.rel, E.step st1, rv, h3, fun g2 H2 σ2 st2 => k _ _ _ ((st1.S E).trans st2)⟩⟩
  · cases hm1
/-! ### a, b = .. stored from the right; some of the values new objects -/
abbrev MX := EnvD → S → Option (List Sl × S)
def OwnX (vs : List V) (sl : List Sl) (b : Addr) : Prop := ∃ (j : Nat) (d : D), sl[j]? = some (Sl.own d) ∧ vs[j]? = some (V.ref b)
inductive RepX (K : PySem.W.Frag) (g : G) (H0 H : Hp) : List V → List Sl → Prop
  | nil : RepX K g H0 H [] []
  | val {v d vs sl} : Rep K g v d → RepX K g H0 H vs sl → RepX K g H0 H (v :: vs) (.val d :: sl)
  | own {a d vs sl} : H0 a = none → g.F a = none → a ∉ g.ad → OwnAt K g H a d → ¬ OwnX vs sl a → RepX K g H0 H vs sl → RepX K g H0 H (.ref a :: vs) (.own d :: sl)
theorem RepX.fresh {g : G} {H0 H : Hp} : ∀ {vs : List V} {sl : List Sl} {b : Addr}, RepX K g H0 H vs sl → OwnX vs sl b → H0 b = none
  | _, _, _, .nil, ⟨j, d, h1, _⟩ => by simp at h1
  | _, _, _, .val _ r, ⟨0, d, h1, _⟩ => by simp at h1
  | _, _, _, .val _ r, ⟨j + 1, d, h1, h2⟩ => RepX.fresh r ⟨j, d, by simpa using h1, by simpa using h2⟩
  | _, _, _, .own h _ _ _ _ r, ⟨0, d, h1, h2⟩ => by simp at h2; rw [← h2]; exact h
  | _, _, _, .own h _ _ _ _ r, ⟨j + 1, d, h1, h2⟩ => RepX.fresh r ⟨j, d, by simpa using h1, by simpa using h2⟩
theorem RepX.base {g : G} {H0 H1 H : Hp} (h : ∀ b, H1 b = none → H0 b = none) : ∀ {vs : List V} {sl : List Sl}, RepX K g H1 H vs sl → RepX K g H0 H vs sl
  | _, _, .nil => .nil
  | _, _, .val h1 r => .val h1 (RepX.base h r)
  | _, _, .own h1 h2 h3 h4 h5 r => .own (h _ h1) h2 h3 h4 h5 (RepX.base h r)
theorem RepX.up {g : G} {H0 H H' : Hp} (h : ∀ a u, H a = some u → H' a = some u) : ∀ {vs : List V} {sl : List Sl}, RepX K g H0 H vs sl → RepX K g H0 H' vs sl
  | _, _, .nil => .nil
  | _, _, .val h1 r => .val h1 (RepX.up h r)
  | _, _, .own h1 h2 h3 h4 h5 r => .own h1 h2 h3 (h4.mono .refl fun u hu => h _ u hu) h5 (RepX.up h r)
def trX (K : PySem.W.Frag) (m : MX) : TA := fun σ H Q => ∃ g e s ds s', SRel K g H s ∧ EnvRel K g H σ e ∧ m e s = some (ds, s') ∧ ∀ vs g' H', Step K g H g' H' s' → RepX K g' H H' vs ds → Q vs H'
def xNil : MX := fun _ s => some ([], s)
def xVal (m : ME) (mx : MX) : MX := fun e s => bnd (m e s) fun d s => bnd (mx e s) fun ds s => some (.val d :: ds, s)
def xOwn (m : ME) (mx : MX) : MX := fun e s => bnd (m e s) fun d s => bnd (mx e s) fun ds s => some (.own d :: ds, s)
variable {es : List Expr} {mx : MX}
/-- one more slot is given what is new -/
theorem StepS.own {g g1 : G} {H H1 : Hp} {σ σ1 : L2.St} {e e1 : EnvD} {s1 : S} (x : StepS K g H σ e g1 H1 σ1 e1 s1) {i : Nat} {p : Addr} {d : D} (hn : H p = none) (hf : g1.F p = none) (hc : p ∉ g1.ad) (o : OwnAt K g1 H1 p d) (ho : ¬ OwnA σ1 e1 p) : StepS K g H σ e g1 H1 (σ1.set i (some (.ref p))) (e1.set i (.own d)) s1 := by
  refine ⟨x.rel, own_slot x.rel x.env hf hc o (fun j d' h1 h2 => ho ⟨j, d', h1, h2⟩), x.le, x.new, x.newc, fun a u h ha hoa => ?_, x.has⟩
  obtain ⟨q1, q2⟩ := x.keep a u h ha hoa
  refine ⟨q1, fun ⟨j, d', h1, h2⟩ => ?_⟩
  by_cases hj : i = j
  · subst hj
    have hl : i < e1.length := by
      have := (List.getElem?_eq_some_iff.mp h1).1
      simpa using this
    rw [List.getElem?_set_self (by rw [← x.env.len]; exact hl)] at h2
    cases h2
    rw [hn] at h; cases h
  · rw [List.getElem?_set_ne hj] at h1 h2
    exact q2 ⟨j, d', h1, h2⟩
def setX : List Nat → List Sl → EnvD → EnvD
  | i :: is, x :: xs, e => setX is xs (e.set i x)
  | _, _, e => e
def setV : List Nat → List V → L2.St → L2.St
  | i :: is, v :: vs, σ => setV is vs (σ.set i (some v))
  | _, _, σ => σ
def sPar (is : List Nat) (m : MX) : MS := fun e s => bndS (m e s) fun sl s => if sl.length = is.length then some (.nx, setX is sl e, s) else none
theorem RepX.length {g : G} {H0 H : Hp} : ∀ {vs : List V} {sl : List Sl}, RepX K g H0 H vs sl → vs.length = sl.length
  | _, _, .nil => rfl
  | _, _, .val _ r => by simp [RepX.length r]
  | _, _, .own _ _ _ _ _ r => by simp [RepX.length r]
/-- several names, by a tuple -/
inductive Nms (X : Cx) : List Expr → List Nat → Prop
  | nil : Nms X [] []
  | cons {x pos es i is} : X.N[i]? = some x → Loc X.env.scope x → (X.fn x = true ∨ X.env.scope.names.lookup x = some .local) → Nms X es is → Nms X (.Name x pos :: es) (i :: is)
def gNames : List Nat → TGs
  | [] => gNil
  | i :: is => gCons (gName i) (gNames is)
end
end Z

set_option Elab.async false
set_option linter.all false
set_option maxRecDepth 100000
set_option maxHeartbeats 4000000
namespace Z
open PySem PySem.Spec PyProof.Rows L2
/-! ### borrowed: an owned slot read as a value, then owned again; what comes back holds no list -/
mutual
def noL : D → Bool
  | .non => true | .bl _ => true | .int _ => true | .str _ => true | .cel _ => true | .ty _ => true
  | .tup ds => noLs ds
  | _ => false
def noLs : List D → Bool
  | [] => true
  | d :: ds => noL d && noLs ds
end
def G.unf (g : G) (a : Addr) : G := ⟨fun b => if b = a then none else g.F b, g.ad⟩
def NoTup : HO → Prop
  | .lst _ => True | .dK _ => True | .ins _ _ _ => True | _ => False
section
variable {K : PySem.W.Frag} {g g' : G}
theorem unf_F {a b : Addr} {u : HO} (h : g.F b = some u) (n : b ≠ a) : (g.unf a).F b = some u := by
  show (if b = a then none else g.F b) = _
  rw [if_neg n]; exact h
theorem unf_some {a b : Addr} {u : HO} (h : (g.unf a).F b = some u) : g.F b = some u ∧ b ≠ a := by
  have h : (if b = a then none else g.F b) = some u := h
  by_cases q : b = a
  · rw [if_pos q] at h; cases h
  · rw [if_neg q] at h; exact ⟨h, q⟩
theorem rd_unf {a b : Addr} {u w : HO} (ha : g.F a = some w) (hw : NoTup w) (h : Rd g.F b (.tup vs)) : Rd (g.unf a).F b (.tup vs) := by
  have n : ∀ u, g.F b = some u → ¬ NoTup u → b ≠ a := fun u q z e => by subst e; rw [ha] at q; cases q; exact z hw
  rcases h with h | ⟨o, h⟩
  · exact .inl (unf_F h (n _ h (fun z => z)))
  · exact .inr ⟨o, unf_F h (n _ h (fun z => z))⟩
mutual
theorem Rep.unf {a : Addr} {w : HO} (ha : g.F a = some w) (hw : NoTup w) : ∀ {v d}, Rep K g v d → noL d = true → Rep K (g.unf a) v d
  | _, _, .non, _ => .non
  | _, _, .bl b, _ => .bl b
  | _, _, .int i, _ => .int i
  | _, _, .str x, _ => .str x
  | _, _, .tup (vs := vs) (ds := ds) h r, q => .tup (h.elim (fun z => .inl (rd_unf (u := w) ha hw z)) .inr) (RepL.unf ha hw r (by simpa [noL] using q))
  | _, _, .lst h r, q => by simp [noL] at q
  | _, _, .dic h r, q => by simp [noL] at q
  | _, _, .obj h r, q => by simp [noL] at q
  | _, _, .cel h, _ => .cel h
  | _, _, .ty c, _ => .ty c
  | _, _, .opq v, q => by simp [noL] at q
  | _, _, .exc _ _ _, q => by simp [noL] at q
  | _, _, .exc0 _, q => by simp [noL] at q
theorem RepL.unf {a : Addr} {w : HO} (ha : g.F a = some w) (hw : NoTup w) : ∀ {v d}, RepL K g v d → noLs d = true → RepL K (g.unf a) v d
  | _, _, .nil, _ => .nil
  | _, _, .cons h r, q => by
    simp only [noLs, Bool.and_eq_true] at q
    exact .cons (Rep.unf ha hw h q.1) (RepL.unf ha hw r q.2)
end
theorem RepK.unf {a : Addr} {w : HO} (ha : g.F a = some w) (hw : NoTup w) : ∀ {v d}, RepK K g v d → d.all (fun p => noL p.2) = true → RepK K (g.unf a) v d
  | _, _, .nil, _ => .nil
  | _, _, .cons h r, q => by
    simp only [List.all_cons, Bool.and_eq_true] at q
    exact .cons (Rep.unf ha hw h q.1) (RepK.unf ha hw r q.2)
theorem RepF.unf {a : Addr} {w : HO} (ha : g.F a = some w) (hw : NoTup w) : ∀ {v d}, RepF K g v d → d.all (fun p => noL p.2) = true → RepF K (g.unf a) v d
  | _, _, .nil, _ => .nil
  | _, _, .cons h r, q => by
    simp only [List.all_cons, Bool.and_eq_true] at q
    exact .cons (Rep.unf ha hw h q.1) (RepF.unf ha hw r q.2)
/-- content that holds no list -/
def noC : D → Bool
  | .lst ds => noLs ds
  | .dic kvs => kvs.all fun p => noL p.2
  | .obj _ fs => fs.all fun p => noL p.2
  | _ => true
theorem OwnAt.unf {H : Hp} {a b : Addr} {w : HO} {d : D} (ha : g.F a = some w) (hw : NoTup w) (h : OwnAt K g H b d) (q : noC d = true) : OwnAt K (g.unf a) H b d := by
  cases d with
  | lst ds => obtain ⟨vs, h, r⟩ := h; exact ⟨vs, h, r.unf ha hw (by simpa [noC] using q)⟩
  | dic ds => obtain ⟨vs, h, r⟩ := h; exact ⟨vs, h, r.unf ha hw (by simpa [noC] using q)⟩
  | obj c ds => obtain ⟨dx, vs, h, r⟩ := h; exact ⟨dx, vs, h, r.unf ha hw (by simpa [noC] using q)⟩
  | _ => exact h.elim
theorem OwnC.unf {H : Hp} {a b : Addr} {w : HO} {d : D} (ha : g.F a = some w) (hw : NoTup w) (h : OwnC K g H b d) (q : noC d = true) : OwnC K (g.unf a) H b d := by
  cases d with
  | ty q =>
    obtain ⟨ps, h, h1, h2⟩ := h
    refine ⟨ps, h, h1, fun pos cv q => ?_⟩
    obtain ⟨c, z1, z2⟩ := h2 pos cv q
    refine ⟨c, z1, ?_⟩
    have n : c ≠ a := fun z => by
      subst z
      rw [ha] at z2; cases z2
      exact hw
    exact unf_F z2 n
  | tup q => obtain ⟨ps, h, h1, h2⟩ := h; exact ⟨ps, h, h1, h2⟩
  | lst ds => exact OwnAt.unf (d := .lst ds) ha hw h q
  | dic ds => exact OwnAt.unf (d := .dic ds) ha hw h q
  | obj c ds => exact OwnAt.unf (d := .obj c ds) ha hw h q
  | _ => exact (h : False).elim
/-- the owned slot at a was frozen for the step: no more -/
theorem tb_all {s : Z.S} {p : D → Bool} (hp : ∀ q, p (.ty q) = true) (h : s.all p = true) : (tbD K ++ s).all p = true := by
  rw [List.all_append, h, Bool.and_true]
  exact List.all_eq_true.mpr fun d hd => by
    obtain ⟨q, _, rfl⟩ := List.mem_map.mp hd
    exact hp q
theorem Step.unf {H H' : Hp} {s' : Z.S} {a : Addr} {u : HO} (hf : g.F a = none) (hw : NoTup u) (x : Step K (g.frz a u) H g' H' s') (hs : s'.all noC = true) : Step K g H (g'.unf a) H' s' ∧ g'.F a = some u := by
  have ha : g'.F a = some u := x.le.F a u upd_same
  refine ⟨⟨⟨fun b w q => x.rel.sub b w (unf_some q).1, x.rel.len, fun n c q => ?_, x.rel.inj⟩, ⟨fun b w q => ?_, fun n b q => x.le.ad n b q⟩, fun b w q => ?_, x.newc, x.keep⟩, ha⟩
  · obtain ⟨b, h1, h2, h3⟩ := x.rel.cell n c q
    refine ⟨b, h1, ?_, h3.unf ha hw (List.all_eq_true.mp (tb_all (K := K) (p := noC) (fun _ => rfl) hs) c (List.mem_iff_getElem?.mpr ⟨n, q⟩))⟩
    show (if b = a then none else g'.F b) = none
    by_cases z : b = a
    · rw [if_pos z]
    · rw [if_neg z]; exact h2
  · have n : b ≠ a := fun z => by subst z; rw [hf] at q; cases q
    refine unf_F (x.le.F b w ?_) n
    show upd g.F a u b = some w
    rw [upd_ne n]; exact q
  · obtain ⟨q1, n⟩ := unf_some q
    rcases x.new b w q1 with z | z
    · have z : upd g.F a u b = some w := z
      rw [upd_ne n] at z
      exact .inl z
    · exact .inr z
end
def mBor (i : Nat) (m : ME) : ME := fun e s => bnd (m (frzE i e) s) fun d s' => match noL d && s'.all noC with
  | true => some (d, s')
  | false => none
def tBor (i : Nat) (m : MT) : MT := fun e s => bnd (m (frzE i e) s) fun d s' => match s'.all noC with
  | true => some (d, s')
  | false => none
def fBor (i : Nat) (m : ME) : ME := fun e s => bnd (m (frzE i e) s) fun d s' => match noC d && s'.all noC with
  | true => some (d, s')
  | false => none
section
variable {X : Cx} {K : PySem.W.Frag} {m : ME} {mt : MT} {a : Expr}
end
/-! ### what is walked -/
structure ItD (K : PySem.W.Frag) (J : It) (g : G) (ds : List D) : Prop where
  go : ∀ (g' : G) (H : Hp) (s : S) (i : Nat), SRel K g' H s → GLe g g' → i < ds.length → J.go i H
  stop : ∀ (g' : G) (H : Hp) (s : S), SRel K g' H s → GLe g g' → J.stop ds.length H
  yld : ∀ (g' : G) (H : Hp) (s : S) (i : Nat) (x : V) (H' : Hp) (d : D), SRel K g' H s → GLe g g' → ds[i]? = some d → J.yld i H x H' → ∃ g'', Step K g' H g'' H' s ∧ Rep K g'' x d
abbrev MI := EnvD → S → Option (List D × S)
def trI (K : PySem.W.Frag) (m : MI) : TI := fun σ H R => ∃ g e s ds s', SRel K g H s ∧ EnvRel K g H σ e ∧ m e s = some (ds, s') ∧ ∀ J g' H', Step K g H g' H' s' → ItD K J g' ds → R J H'
section
variable {X : Cx} {K : PySem.W.Frag} {a b tg : Expr} {m : ME} {ma : MA} {p pos tpos : Pos}
theorem itd_lst {g : G} {a : Addr} {vs : List V} {ds : List D} (h : Rd g.F a (.lst vs)) (r : RepL K g vs ds) : ItD K (Itl K a) g ds := by
  have hq : ∀ (g' : G) (H : Hp) (s : S), SRel K g' H s → GLe g g' → SqL K H a vs := fun g' H s R L => .inl (rd_H R (rd_mono L.F h))
  refine ⟨fun g' H s i R L hi => ?_, fun g' H s R L => ⟨vs, hq g' H s R L, by rw [r.length]; exact Nat.le_refl _⟩, fun g' H s i x H' d R L hd y => ?_⟩
  · have hi' : i < vs.length := by rw [r.length]; exact hi
    exact ⟨vs, vs[i], hq g' H s R L, List.getElem?_eq_getElem hi'⟩
  · obtain ⟨e, y⟩ := y
    subst e
    have hx := y vs (hq g' _ s R L)
    obtain ⟨v, h1, h2⟩ := r.get hd
    rw [hx] at h1; cases h1
    exact ⟨g', .refl R, h2.mono L⟩
theorem itd_tup {g : G} {a : Addr} {vs : List V} {ds : List D} (h : SqT K g.F a vs) (r : RepL K g vs ds) : ItD K (Itt K a) g ds := by
  have hq : ∀ (g' : G) (H : Hp) (s : S), SRel K g' H s → GLe g g' → SqT K H a vs := fun g' H s R L => sqT_H R (sqT_mono L.F h)
  refine ⟨fun g' H s i R L hi => ?_, fun g' H s R L => ⟨vs, hq g' H s R L, by rw [r.length]; exact Nat.le_refl _⟩, fun g' H s i x H' d R L hd y => ?_⟩
  · have hi' : i < vs.length := by rw [r.length]; exact hi
    exact ⟨vs, vs[i], hq g' H s R L, List.getElem?_eq_getElem hi'⟩
  · obtain ⟨e, y⟩ := y
    subst e
    have hx := y vs (hq g' _ s R L)
    obtain ⟨v, h1, h2⟩ := r.get hd
    rw [hx] at h1; cases h1
    exact ⟨g', .refl R, h2.mono L⟩
def rngD (lo : Int) (n : Nat) : List D := (List.range n).map fun i => .int (lo + (i : Nat))
theorem itd_rng {g : G} (lo : Int) (n : Nat) : ItD K (Itr lo n) g (rngD lo n) := by
  refine ⟨fun g' H s i R L hi => by simpa [rngD, Itr] using hi, fun g' H s R L => by simp [rngD, Itr], fun g' H s i x H' d R L hd y => ?_⟩
  obtain ⟨e, y⟩ := y
  subst e y
  have hi : i < n := by
    have := (List.getElem?_eq_some_iff.mp hd).1
    simpa [rngD] using this
  simp [rngD, List.getElem?_map, List.getElem?_range hi] at hd
  subst hd
  exact ⟨g', .refl R, .int _⟩
def chD (x : Str) : List D := x.cps.toList.map fun c => .str ⟨#[c]⟩
theorem itd_str {g : G} (x : Str) : ItD K (Its x) g (chD x) := by
  refine ⟨fun g' H s i R L hi => by simpa [chD, Its] using hi, fun g' H s R L => by simp [chD, Its], fun g' H s i v H' d R L hd y => ?_⟩
  obtain ⟨e, c, h1, h2⟩ := y
  subst e h2
  simp [chD, List.getElem?_map, h1] at hd
  subst hd
  exact ⟨g', .refl R, .str _⟩
def seqI (m : ME) : MI := fun e s => bnd (m e s) fun d s => match d with
  | .lst ds => some (ds, s)
  | .tup ds => some (ds, s)
  | .str x => some (chD x, s)
  | _ => none
theorem i_seq (h : PE X a (trE X.K m)) : PI X tg a (trI X.K (seqI m)) := PI.imp (PI.or (pi_list h) (PI.or (pi_tup h) (pi_str h))) fun σ H R ⟨g, e, s, ds, s', R0, E, hm, k⟩ => by
  obtain ⟨d, s1, h1, hm1⟩ := bnd_some hm
  split at hm1
  · cases hm1
    refine .inl ⟨g, e, s, _, _, R0, E, h1, fun v g1 H1 st rv => ?_⟩
    cases rv with
    | lst q r => exact ⟨_, rfl, ⟨_, .inl (rd_H st.rel q)⟩, k _ g1 H1 st (itd_lst q r)⟩
  · cases hm1
    refine .inr (.inl ⟨g, e, s, _, _, R0, E, h1, fun v g1 H1 st rv => ?_⟩)
    cases rv with
    | tup q r => exact ⟨_, rfl, ⟨_, sqT_H st.rel q⟩, k _ g1 H1 st (itd_tup q r)⟩
  · cases hm1
    refine .inr (.inr ⟨g, e, s, _, _, R0, E, h1, fun v g1 H1 st rv => ?_⟩)
    cases rv with
    | str x => exact ⟨_, rfl, k _ g1 H1 st (itd_str _)⟩
  · cases hm1
def rngI (ma : MA) : MI := fun e s => bnd (ma e s) fun ds s => match ds with
  | [.int j] => if -(2 ^ 62) ≤ j ∧ j < 2 ^ 62 then some (rngD 0 j.toNat, s) else none
  | _ => none
theorem i_rng1 (hg : Gl X "range") (hm : X.mg "range" = none) (ha : PA X [a] (trA X.K ma)) (hs : starEach [a] X.env = [(false, eval a X.env)] := by rfl) : PI X tg (.Call (.Name "range" p) [a] [] pos) (trI X.K (rngI ma)) :=
  PI.imp (pi_range1 hg hm ha hs) fun σ H R ⟨g, e, s, ds, s', R0, E, hm, k⟩ => by
    obtain ⟨xs, s1, h1, hm1⟩ := bnd_some hm
    refine ⟨g, e, s, xs, s1, R0, E, h1, fun vs g1 H1 st rv => ?_⟩
    split at hm1
    · split at hm1
      · rename_i hb
        cases hm1
        cases rv with
        | cons r rr => cases rr; cases r; exact ⟨_, rfl, hb.1, hb.2, k _ g1 H1 st (itd_rng 0 _)⟩
      · cases hm1
    · cases hm1
def rng2I (ma : MA) : MI := fun e s => bnd (ma e s) fun ds s => match ds with
  | [.int i, .int j] => if (-(2 ^ 62) ≤ i ∧ i < 2 ^ 62) ∧ -(2 ^ 62) ≤ j ∧ j < 2 ^ 62 then some (rngD i (j - i).toNat, s) else none
  | _ => none
def enumD (ds : List D) : List D := (List.range ds.length).map fun i => .tup [.int (i : Nat), (ds[i]?).getD .non]
def enumI (ma : MA) : MI := fun e s => bnd (ma e s) fun ds s => match ds with
  | [.lst ds] => some (enumD ds, s)
  | _ => none
def zipD (ds es : List D) : List D := (List.zip ds es).map fun p => .tup [p.1, p.2]
end
/-! ### for -/
def forL (mg : MG) (mb : MS) : List D → EnvD → S → Option (Fl × EnvD × S)
  | [], e, s => some (.nx, e, s)
  | d :: ds, e, s => match mg d e s with
    | none => none
    | some (e1, s1) => match mb e1 s1 with
      | none => none
      | some (.nx, e2, s2) => forL mg mb ds e2 s2
      | some (.ct, e2, s2) => forL mg mb ds e2 s2
      | some (.bk, e2, s2) => some (.nx, e2, s2)
      | some (.ret d, e2, s2) => some (.ret d, e2, s2)
      | some (.rto d, e2, s2) => some (.rto d, e2, s2)
def sFor (mi : MI) (mg : MG) (mb : MS) : MS := fun e s => bndS (mi e s) fun ds s => forL mg mb ds e s
section
variable {X : Cx} {tg a : Expr} {mi : MI} {mg : MG} {mb : MS} {body : List Stmt} {pos : Pos}
theorem tFor_of {K : PySem.W.Frag} {Dn : Ends} {σ : L2.St} {H : Hp} (h : trS K (sFor mi mg mb) Dn σ H) : tFor (trI K mi) (trG K mg) (trS K mb) Dn σ H := by
  obtain ⟨g, e, s, f, e', s', R0, E0, hm, k⟩ := h
  obtain ⟨ds, s1, h1, hm1⟩ := bndS_some hm
  refine ⟨g, e, s, ds, s1, R0, E0, h1, fun J g1 H1 st1 hJ => ?_⟩
  refine ⟨fun i m σ2 H2 => m = ds.length - i ∧ i ≤ ds.length ∧ ∃ g2 e2 s2, StepS K g H σ e g2 H2 σ2 e2 s2 ∧ GLe g1 g2 ∧ forL mg mb (ds.drop i) e2 s2 = some (f, e', s'), ⟨_, rfl, Nat.zero_le _, g1, e, s1, st1.S E0, .refl, by simpa using hm1⟩, ?_⟩
  rintro i m σ2 H2 ⟨rfl, hi, g2, e2, s2, st2, L2, hf⟩
  by_cases hlt : i < ds.length
  · refine .inr ⟨hJ.go g2 H2 s2 i st2.rel L2 hlt, ?_⟩
    have hd : ds.drop i = ds[i] :: ds.drop (i + 1) := by rw [List.drop_eq_getElem_cons hlt]
    rw [hd] at hf
    refine ⟨fun σ' H' => ∃ g3 e3 s3, StepS K g H σ e g3 H' σ' e3 s3 ∧ GLe g1 g3 ∧ forL mg mb (ds.drop (i + 1)) e3 s3 = some (f, e', s'), fun σ' H' ⟨g3, e3, s3, q1, q2, q3⟩ => ⟨ds.length - (i + 1), by omega, rfl, hlt, g3, e3, s3, q1, q2, q3⟩, fun x H' y => ?_⟩
    obtain ⟨g3, st3, rx⟩ := hJ.yld g2 H2 s2 i x H' ds[i] st2.rel L2 (List.getElem?_eq_getElem hlt) y
    unfold forL at hf
    split at hf
    · cases hf
    · rename_i e4 s4 hg
      refine ⟨g3, e2, s2, _, e4, s4, st3.rel, st2.env.step st3, rx, hg, fun g4 H4 σ4 st4 => ?_⟩
      have stA := (st2.trans (st3.S st2.env)).trans st4
      have LA : GLe g1 g4 := (L2.trans st3.le).trans st4.le
      split at hf
      · cases hf
      · rename_i e5 s5 hb
        exact ⟨g4, e4, s4, .nx, e5, s5, st4.rel, st4.env, hb, fun g5 H5 σ5 st5 => ⟨g5, e5, s5, stA.trans st5, LA.trans st5.le, hf⟩⟩
      · rename_i e5 s5 hb
        exact ⟨g4, e4, s4, .ct, e5, s5, st4.rel, st4.env, hb, fun g5 H5 σ5 st5 => ⟨g5, e5, s5, stA.trans st5, LA.trans st5.le, hf⟩⟩
      · rename_i e5 s5 hb
        cases hf
        exact ⟨g4, e4, s4, .bk, _, _, st4.rel, st4.env, hb, fun g5 H5 σ5 st5 => k g5 H5 σ5 (stA.trans st5)⟩
      · rename_i d5 e5 s5 hb
        cases hf
        exact ⟨g4, e4, s4, .ret d5, _, _, st4.rel, st4.env, hb, fun g5 H5 σ5 st5 => k g5 H5 σ5 (stA.trans st5)⟩
      · rename_i d5 e5 s5 hb
        cases hf
        exact ⟨g4, e4, s4, .rto d5, _, _, st4.rel, st4.env, hb, fun g5 H5 σ5 st5 => (k g5 H5 σ5 (stA.trans st5)).mid fun a => stA.noneOf⟩
  · have e0 : i = ds.length := by omega
    subst e0
    rw [List.drop_length] at hf
    cases hf
    exact .inl ⟨hJ.stop g2 H2 _ st2.rel L2, k g2 H2 σ2 st2⟩
theorem s_for (hp : PassesOwn (model X.prog X.w) X.A X.env X.xe) (hc : X.calm = true) (hi : PI X tg a (trI X.K mi)) (hg : PG X tg (trG X.K mg)) (hb : PSs X body (trS X.K mb))
    (hs : ∀ x, foldedSetIterable a X.env x = pure x := by intro _; rfl) : PS X (.For tg a body [] pos) (trS X.K (sFor mi mg mb)) := PS.imp (ps_for hp hc hi hg hb hs) fun Dn σ H h => tFor_of h
end
def sBrk : MS := fun e s => some (.bk, e, s)
def sCont : MS := fun e s => some (.ct, e, s)
end Z

set_option Elab.async false
set_option linter.all false
set_option maxRecDepth 100000
set_option maxHeartbeats 4000000
namespace Z
open PySem PySem.Spec PyProof.Rows L2
/-! ### comprehensions -/
def wipeE (e : EnvD) : List Nat → EnvD
  | [] => e
  | v :: vs => (wipeE e vs).set v .unb
section
variable {K : PySem.W.Frag} {g : G} {H : Hp} {σ : L2.St} {e : EnvD} {s : S}
theorem unb_slot (E : EnvRel K g H σ e) (i : Nat) : EnvRel K g H (σ.set i none) (e.set i .unb) := by
  have hs : ∀ {j : Nat} {x : Sl}, (e.set i .unb)[j]? = some x → (i = j ∧ x = .unb) ∨ (i ≠ j ∧ e[j]? = some x) := fun {j x} h => by
    by_cases hj : i = j
    · subst hj
      have hl : i < e.length := by
        have := (List.getElem?_eq_some_iff.mp h).1
        simpa using this
      rw [List.getElem?_set_self hl] at h
      cases h
      exact .inl ⟨rfl, rfl⟩
    · rw [List.getElem?_set_ne hj] at h
      exact .inr ⟨hj, h⟩
  refine ⟨by simp [E.len], fun j d' h' => ?_, fun j d' h' => ?_, fun j k d1 d2 c q1 q2 q3 q4 => ?_⟩
  · rcases hs h' with ⟨hj, z⟩ | ⟨hj, z⟩
    · cases z
    · rw [List.getElem?_set_ne hj]; exact E.val j d' z
  · rcases hs h' with ⟨hj, z⟩ | ⟨hj, z⟩
    · cases z
    · rw [List.getElem?_set_ne hj]; exact E.own j d' z
  · rcases hs q1 with ⟨hj, z⟩ | ⟨hj, z⟩
    · cases z
    · rcases hs q2 with ⟨hk, z'⟩ | ⟨hk, z'⟩
      · cases z'
      · rw [List.getElem?_set_ne hj] at q3
        rw [List.getElem?_set_ne hk] at q4
        exact E.apart j k d1 d2 c z z' q3 q4
theorem EnvRel.wipe (E : EnvRel K g H σ e) : ∀ vs : List Nat, EnvRel K g H (wipe σ vs) (wipeE e vs)
  | [] => E
  | v :: vs => unb_slot (EnvRel.wipe E vs) v
end
theorem wipe_get (σ : L2.St) : ∀ (vs : List Nat) (j : Nat), (wipe σ vs)[j]? = if j ∈ vs then (σ[j]?).map fun _ => none else σ[j]?
  | [], j => by simp [wipe]
  | v :: vs, j => by
    unfold wipe
    have ih := wipe_get σ vs j
    have hl := wipe_length σ vs
    by_cases hj : v = j
    · subst hj
      by_cases hv : v < σ.length
      · rw [List.getElem?_set_self (by rw [hl]; exact hv)]
        simp [List.getElem?_eq_getElem hv]
      · rw [List.getElem?_eq_none (by simpa [hl] using hv)]
        simp [List.getElem?_eq_none (by omega : σ.length ≤ v)]
    · rw [List.getElem?_set_ne hj, ih]
      have : (j ∈ v :: vs) ↔ (j ∈ vs) := by rw [List.mem_cons]; exact ⟨fun z => z.resolve_left (fun w => hj w.symm), .inr⟩
      simp only [this]
theorem wipe_set (σ : L2.St) (vs : List Nat) (i : Nat) (x : Option V) (h : i ∈ vs) : wipe (σ.set i x) vs = wipe σ vs := by
  apply List.ext_getElem?
  intro j
  rw [wipe_get, wipe_get]
  by_cases hj : j ∈ vs
  · simp only [hj, if_true]
    by_cases hij : i = j
    · subst hij
      by_cases hl : i < σ.length
      · rw [List.getElem?_set_self hl, List.getElem?_eq_getElem hl]; rfl
      · rw [List.getElem?_eq_none (by simpa using hl), List.getElem?_eq_none (by omega)]
    · rw [List.getElem?_set_ne hij]
  · simp only [hj, if_false]
    rw [List.getElem?_set_ne (fun z => by subst z; exact hj h)]
/-! ### a target of a comprehension -/
abbrev MC := D → EnvD → Option EnvD
structure CtOk (K : PySem.W.Frag) (vs : List Nat) (t : TG) (mc : MC) : Prop where
  run : ∀ (g : G) (H : Hp) (σ : L2.St) (e e1 : EnvD) (s : S) (v : V) (d : D) (Q : L2.St → Hp → Prop), SRel K g H s → EnvRel K g H σ e → Rep K g v d → mc d e = some e1 → (∀ σ1, StepS K g H σ e g H σ1 e1 s → wipe σ1 vs = wipe σ vs → Q σ1 H) → t v σ H Q
def cNm (i : Nat) : MC := fun d e => some (e.set i (.val d))
theorem ct_nm {K : PySem.W.Frag} {vs : List Nat} {i : Nat} (h : i ∈ vs) : CtOk K vs (gName i) (cNm i) := ⟨fun g H σ e e1 s v d Q R E r hm k => by
  cases hm
  exact k _ (set_slot R E r) (wipe_set σ vs i _ h)⟩
def setD : List Nat → List D → EnvD → EnvD
  | i :: is, x :: xs, e => setD is xs (e.set i (.val x))
  | _, _, e => e
def cTup (is : List Nat) : MC := fun d e => match d with
  | .tup ds => if ds.length = is.length then some (setD is ds e) else none
  | _ => none
/-! ### list comprehensions -/
def yesT : MT := fun _ s => some (true, s)
def lcL (mc : MC) (mt : MT) (me : ME) (e : EnvD) : List D → S → Option (List D × S)
  | [], s => some ([], s)
  | d :: ds, s => match mc d e with
    | none => none
    | some e1 => match mt e1 s with
      | none => none
      | some (false, s1) => lcL mc mt me e ds s1
      | some (true, s1) => match me e1 s1 with
        | none => none
        | some (y, s2) => match lcL mc mt me e ds s2 with
          | none => none
          | some (ys, s3) => some (y :: ys, s3)
def mLc (vs : List Nat) (mi : MI) (mc : MC) (mt : MT) (me : ME) : ME := fun e s => bnd (mi e s) fun ds s1 => bnd (lcL mc mt me (wipeE e vs) ds s1) fun ys s2 => if ys.length ≤ sizeLine then some (.lst ys, s2) else none
section
variable {K : PySem.W.Frag}
/-- the same, a step seen from an object that stays apart -/
theorem Step.apart {g g' : G} {H H' : Hp} {s' : Z.S} (st : Step K g H g' H' s') {p : Addr} {u : HO} (hu : H p = some u) (hc : p ∉ g.ad) (hf : g.F p = none) (nt : ∀ vs, u ≠ .tup vs := by intro vs z; cases z) : H' p = some u ∧ p ∉ g'.ad ∧ g'.F p = none := by
  refine ⟨st.keep p u hu hc, fun z => ?_, ?_⟩
  · rcases st.newc p z with q | q
    · exact hc q
    · rw [hu] at q; cases q
  · cases q : g'.F p with
    | none => rfl
    | some w =>
      rcases st.new p w q with z | z
      · rw [hf] at z; cases z
      · exact (z.no hu nt).elim
/-- an object of nobody's is written -/
theorem Step.put {g0 g : G} {H0 H : Hp} {s : Z.S} (st : Step K g0 H0 g H s) {p : Addr} {u : HO} (h0 : H0 p = none) (hc : p ∉ g.ad) (hf : g.F p = none) : Step K g0 H0 g (upd H p u) s := by
  have ne : ∀ a, a ∈ g.ad → a ≠ p := fun a ha z => hc (z ▸ ha)
  have neF : ∀ a w, g.F a = some w → a ≠ p := fun a w q z => by subst z; rw [hf] at q; cases q
  refine ⟨⟨fun a w q => ?_, st.rel.len, fun n c q => ?_, st.rel.inj⟩, st.le, st.new, st.newc, fun a w q ha => ?_⟩
  · rw [upd_ne (neF a w q)]
    exact st.rel.sub a w q
  · obtain ⟨a, w1, w2, w3⟩ := st.rel.cell n c q
    refine ⟨a, w1, w2, w3.mono .refl fun u hu => ?_⟩
    rw [upd_ne (ne a (List.mem_iff_getElem?.mpr ⟨n, w1⟩))]; exact hu
  · rw [upd_ne (fun z => by subst z; rw [h0] at q; cases q)]
    exact st.keep a w q ha
theorem Step.fresh {g g' : G} {H H' : Hp} {s' : Z.S} (st1 : Step K g H g' H' s') {P : Addr} (hP : H' P = none) : H P = none ∧ g'.F P = none ∧ P ∉ g'.ad := by
  refine ⟨st1.noneOf hP, ?_, fun z => ?_⟩
  · cases q : g'.F P with
    | none => rfl
    | some u =>
      rcases st1.rel.sub P u q with z | ⟨_, _, z⟩
      · rw [hP] at z; cases z
      · rw [hP] at z; cases z
  · obtain ⟨u, hu⟩ := st1.rel.has z
    rw [hP] at hu; cases hu
theorem EnvRel.noOwn {g : G} {H : Hp} {σ : L2.St} {e : EnvD} (E : EnvRel K g H σ e) {P : Addr} (hn : H P = none) {j : Nat} {d : D} (hj : e[j]? = some (Sl.own d)) : σ[j]? ≠ some (some (V.ref P)) := fun z => by
  obtain ⟨b, h1, _, _, h2⟩ := E.own j d hj
  rw [z] at h1; cases h1
  obtain ⟨u, hu⟩ := h2.has
  rw [hn] at hu; cases hu
/-- a list that grows at P, apart: one clause's loop -/
theorem lc_loop {vs : List Nat} {mc : MC} {mt : MT} {me : ME} {t : TG} {σ : L2.St} {e : EnvD} {g0 g1 : G} {H0 H1 : Hp} {s1 s' : Z.S} {J : It} {ds acc rest : List D} {vs1 : List V} {P : Addr} {Fin : Hp → Prop} (ht : CtOk K vs t mc)
    (st1 : Step K g0 H0 g1 H1 s1) (E1 : EnvRel K g1 H1 σ e) (hJ : ItD K J g1 ds) (hn0 : H0 P = none) (hP : H1 P = some (.lst vs1)) (hc1 : P ∉ g1.ad) (hf1 : g1.F P = none) (ra1 : RepL K g1 vs1 acc)
    (h2 : lcL mc mt me (wipeE e vs) ds s1 = some (rest, s')) (hsz : (acc ++ rest).length ≤ sizeLine)
    (hP0 : ∀ {j : Nat} {d : D}, e[j]? = some (Sl.own d) → σ[j]? ≠ some (some (V.ref P)))
    (k : ∀ g2 H2 vs2, Step K g0 H0 g2 H2 s' → GLe g1 g2 → H2 P = some (.lst vs2) → P ∉ g2.ad → g2.F P = none → RepL K g2 vs2 (acc ++ rest) → Fin H2) :
    ∃ W : Nat → Nat → Hp → Prop, (∃ m, W 0 m H1) ∧ ∀ i m H, W i m H →
      (J.stop i H ∧ Fin H) ∨ (J.go i H ∧ ∃ Nx : Hp → Prop, (∀ H', Nx H' → ∃ m', m' < m ∧ W (i + 1) m' H') ∧ ∀ x H', J.yld i H x H' → t x (wipe σ vs) H' fun σ2 H2 => wipe σ2 vs = wipe σ vs ∧ trT K mt σ2 H2 fun b H3 =>
        if b = true then trE K me σ2 H3 fun y H4 => ∃ acc, H4 P = some (.lst acc) ∧ acc.length < sizeLine ∧ Nx (upd H4 P (.lst (acc ++ [y]))) else Nx H3) := by
  refine ⟨fun i m H2 => m = ds.length - i ∧ i ≤ ds.length ∧ ∃ g2 s3 vs2 acc2 rest2, Step K g0 H0 g2 H2 s3 ∧ EnvRel K g2 H2 σ e ∧ GLe g1 g2 ∧ H2 P = some (.lst vs2) ∧ P ∉ g2.ad ∧ g2.F P = none ∧ RepL K g2 vs2 acc2 ∧ lcL mc mt me (wipeE e vs) (ds.drop i) s3 = some (rest2, s') ∧ acc ++ rest = acc2 ++ rest2,
    ⟨_, rfl, Nat.zero_le _, g1, s1, vs1, acc, rest, st1, E1, .refl, hP, hc1, hf1, ra1, by simpa using h2, rfl⟩, ?_⟩
  rintro i m H2 ⟨rfl, hi, g2, s3, vs2, acc2, rest2, st2, E2, L2, hP2, hc2, hf2, ra, hl, hy⟩
  by_cases hlt : i < ds.length
  · refine .inr ⟨hJ.go g2 H2 s3 i st2.rel L2 hlt, ?_⟩
    have hd : ds.drop i = ds[i] :: ds.drop (i + 1) := by rw [List.drop_eq_getElem_cons hlt]
    rw [hd] at hl
    refine ⟨fun H' => ∃ g3 s4 vs3 acc3 rest3, Step K g0 H0 g3 H' s4 ∧ EnvRel K g3 H' σ e ∧ GLe g1 g3 ∧ H' P = some (.lst vs3) ∧ P ∉ g3.ad ∧ g3.F P = none ∧ RepL K g3 vs3 acc3 ∧ lcL mc mt me (wipeE e vs) (ds.drop (i + 1)) s4 = some (rest3, s') ∧ acc ++ rest = acc3 ++ rest3,
      fun H' ⟨g3, s4, vs3, acc3, rest3, q⟩ => ⟨ds.length - (i + 1), by omega, rfl, hlt, g3, s4, vs3, acc3, rest3, q⟩, fun x H3 y => ?_⟩
    obtain ⟨g3, st3, rx⟩ := hJ.yld g2 H2 s3 i x H3 ds[i] st2.rel L2 (List.getElem?_eq_getElem hlt) y
    obtain ⟨hP3, hc3, hf3⟩ := st3.apart hP2 hc2 hf2
    have st03 := st2.trans st3
    have E3 := E2.step st3
    unfold lcL at hl
    split at hl
    · cases hl
    · rename_i e1 hmc
      refine ht.run g3 H3 _ _ e1 s3 x _ _ st3.rel (E3.wipe vs) rx hmc fun σ1 SE1 hw => ⟨?_, ?_⟩
      · rw [hw]
        apply List.ext_getElem?
        intro j
        rw [wipe_get, wipe_get]
        by_cases hj : j ∈ vs
        · simp only [hj, if_true, Option.map_map]; rfl
        · simp only [hj, if_false]
      · split at hl
        · cases hl
        · rename_i s4 hmt
          have E1' := SE1.env
          refine ⟨g3, e1, s3, false, s4, st3.rel, E1', hmt, fun g4 H4 st4 => ?_⟩
          simp only [Bool.false_eq_true, if_false]
          obtain ⟨hP4, hc4, hf4⟩ := st4.apart hP3 hc3 hf3
          exact ⟨g4, s4, vs2, acc2, rest2, st03.trans st4, E3.step st4, (L2.trans st3.le).trans st4.le, hP4, hc4, hf4, (ra.mono st3.le).mono st4.le, hl, hy⟩
        · rename_i s4 hmt
          have E1' := SE1.env
          refine ⟨g3, e1, s3, true, s4, st3.rel, E1', hmt, fun g4 H4 st4 => ?_⟩
          simp only [if_true]
          obtain ⟨hP4, hc4, hf4⟩ := st4.apart hP3 hc3 hf3
          split at hl
          · cases hl
          · rename_i y1 s5 hme
            split at hl
            · cases hl
            · rename_i ys1 s6 hrec
              cases hl
              refine ⟨g4, e1, s4, y1, s5, st4.rel, E1'.step st4, hme, fun v5 g5 H5 st5 rv => ?_⟩
              obtain ⟨hP5, hc5, hf5⟩ := st5.apart hP4 hc4 hf4
              have ra5 := ((ra.mono st3.le).mono st4.le).mono st5.le
              have stp := ((st03.trans st4).trans st5).put (u := .lst (vs2 ++ [v5])) hn0 hc5 hf5
              have E5 := (E3.step st4).step st5
              have Ep : EnvRel K g5 (upd H5 P (.lst (vs2 ++ [v5]))) σ e := ⟨E5.len, E5.val, fun j d hj => by
                obtain ⟨b, w1, w2, w3, w4⟩ := E5.own j d hj
                refine ⟨b, w1, w2, w3, w4.mono .refl fun u hu => ?_⟩
                rw [upd_ne (fun z => ?_)]
                · exact hu
                · subst z
                  exact hP0 hj w1, E5.apart⟩
              refine ⟨vs2, hP5, ?_, g5, s5, _, acc2 ++ [y1], ys1, stp, Ep, ((L2.trans st3.le).trans st4.le).trans st5.le, upd_same, hc5, hf5, ra5.append (.cons rv .nil), hrec, by rw [hy]; simp⟩
              rw [ra.length]
              rw [hy] at hsz
              simp at hsz
              omega
  · have e0 : i = ds.length := by omega
    subst e0
    rw [List.drop_length] at hl
    cases hl
    exact .inl ⟨hJ.stop g2 H2 _ st2.rel L2, k g2 H2 vs2 st2 L2 hP2 hc2 hf2 (by rw [hy]; simpa using ra)⟩
theorem tLc_of {vs : List Nat} {mi : MI} {mc : MC} {mt : MT} {me : ME} {t : TG} {σ : L2.St} {H : Hp} {Q : VK} (ht : CtOk K vs t mc) (h : trF K (mLc vs mi mc mt me) σ H Q) : tLc (trI K mi) t (trT K mt) (trE K me) vs σ H Q := by
  obtain ⟨g, e, s, d, s', R0, E0, hm, k⟩ := h
  obtain ⟨ds, s1, h1, hm1⟩ := bnd_some hm
  obtain ⟨ys, s2, h2, hm2⟩ := bnd_some hm1
  split at hm2
  · rename_i hsz
    cases hm2
    refine ⟨g, e, s, ds, s1, R0, E0, h1, fun J g1 H1 st1 hJ P hP => ?_⟩
    obtain ⟨hn0, hf1, hc1⟩ := st1.fresh hP
    have stp := st1.put (u := .lst []) hn0 hc1 hf1
    refine lc_loop ht stp (E0.step stp) hJ hn0 upd_same hc1 hf1 .nil h2 (by simpa using hsz) ?_ fun g2 H2 vs2 st2 L2 hP2 hc2 hf2 ra => k P g2 H2 st2 hn0 hf2 hc2 ⟨vs2, hP2, ra⟩
    exact fun {j d} hj hσ => E0.noOwn hn0 hj hσ
  · cases hm2
end
section
variable {X : Cx} {elt tg iter : Expr} {ifs : List Expr} {scope : Scope} {own : List (Str × Nat)} {pos : Pos} {mi : MI} {mc : MC} {mt : MT} {me : ME} {t : TG} {vs : List Nat}
theorem pts_yes : PTs X [] (trT X.K yesT) := ⟨fun pins s σ H Q I ⟨g, e, s1, b, s', R, E, hm, k⟩ => by
  cases hm
  exact pts_nil.run pins s σ H Q I (k g H (.refl R))⟩
theorem f_lc (hvs : own.map (·.2) = vs) (hc : X.calm = true) (hN : X.N.Nodup) (hi : PI X tg iter (trI X.K mi)) (ok : BlkOk X.N X.env.scope scope own) (hct : CtOk X.K vs t mc)
    (hg : ∀ (s : Shared) (H : Hp) (C : Addr) (cl : List (Str × Addr)) (fp : List Addr), PG (X.blk s H scope (compEnvC scope cl C X.env) fp) tg t) (ht : ∀ (s : Shared) (H : Hp) (C : Addr) (cl : List (Str × Addr)) (fp : List Addr), PTs (X.blk s H scope (compEnvC scope cl C X.env) fp) ifs (trT X.K mt))
    (he : ∀ (s : Shared) (H : Hp) (C : Addr) (cl : List (Str × Addr)) (fp : List Addr), PE (X.blk s H scope (compEnvC scope cl C X.env) fp) elt (trE X.K me)) (hs : ∀ x, foldedSetIterable iter X.env x = pure x := by intro _; rfl) :
    PE X (.ListComp elt [⟨tg, iter, ifs, 0⟩] scope pos) (trF X.K (mLc vs mi mc mt me)) := PE.imp (pe_lc hc hN hi ok hg ht he hs) fun σ H Q h => by rw [hvs]; exact tLc_of hct h
/-- two clauses -/
def lcL2 (mc : MC) (mt : MT) (mi1 : MI) (vs1 : List Nat) (mc1 : MC) (mt1 : MT) (me : ME) (e : EnvD) : List D → S → Option (List D × S)
  | [], s => some ([], s)
  | d :: ds, s => match mc d e with
    | none => none
    | some e1 => match mt e1 s with
      | none => none
      | some (false, s1) => lcL2 mc mt mi1 vs1 mc1 mt1 me e ds s1
      | some (true, s1) => match mi1 e1 s1 with
        | none => none
        | some (ds1, s2) => match lcL mc1 mt1 me (wipeE e1 vs1) ds1 s2 with
          | none => none
          | some (ys, s3) => match lcL2 mc mt mi1 vs1 mc1 mt1 me e ds s3 with
            | none => none
            | some (zs, s4) => some (ys ++ zs, s4)
def mLc2 (vs : List Nat) (mi : MI) (mc : MC) (mt : MT) (mi1 : MI) (vs1 : List Nat) (mc1 : MC) (mt1 : MT) (me : ME) : ME := fun e s => bnd (mi e s) fun ds s1 => bnd (lcL2 mc mt mi1 vs1 mc1 mt1 me (wipeE e vs) ds s1) fun ys s2 => if ys.length ≤ sizeLine then some (.lst ys, s2) else none
variable {tg1 iter1 : Expr} {ifs1 : List Expr} {vs1 : List Nat} {mi1 : MI} {mc1 : MC} {mt1 : MT} {t1 : TG} {y : Str} {py spos : Pos} {i : Nat}
end
/-! ### dict comprehensions -/
def putD (kvs : List (Key × D)) (k : Key) (d : D) : List (Key × D) := if (kvs.any fun kv => decide (kv.1 = k)) = true then kvs.map (fun kv => if kv.1 = k then (kv.1, d) else kv) else kvs ++ [(k, d)]
section
variable {K : PySem.W.Frag} {g : G}
theorem RepK.any (p : Key → Bool) : ∀ {vs : List (Key × V)} {ds : List (Key × D)}, RepK K g vs ds → vs.any (fun kv => p kv.1) = ds.any fun kv => p kv.1
  | _, _, .nil => rfl
  | _, _, .cons _ r => by simp only [List.any_cons, RepK.any p r]
theorem RepK.map {k : Key} {v : V} {d : D} (h : Rep K g v d) : ∀ {vs : List (Key × V)} {ds : List (Key × D)}, RepK K g vs ds → RepK K g (vs.map (fun kv => if kv.1 = k then (kv.1, v) else kv)) (ds.map (fun kv => if kv.1 = k then (kv.1, d) else kv))
  | _, _, .nil => .nil
  | _, _, .cons (k := k0) q r => by
    by_cases e : k0 = k
    · simp only [List.map_cons, e, if_true]; exact .cons h (RepK.map h r)
    · simp only [List.map_cons, e, if_false]; exact .cons q (RepK.map h r)
theorem RepK.append : ∀ {vs : List (Key × V)} {ds : List (Key × D)} {ws es}, RepK K g vs ds → RepK K g ws es → RepK K g (vs ++ ws) (ds ++ es)
  | _, _, _, _, .nil, s => s
  | _, _, _, _, .cons h r, s => .cons h (RepK.append r s)
theorem RepK.length : ∀ {vs : List (Key × V)} {ds : List (Key × D)}, RepK K g vs ds → vs.length = ds.length
  | _, _, .nil => rfl
  | _, _, .cons _ r => by simp [RepK.length r]
theorem RepK.put {k : Key} {v : V} {d : D} (h : Rep K g v d) {vs : List (Key × V)} {ds : List (Key × D)} (r : RepK K g vs ds) : RepK K g (putK vs k v) (putD ds k d) := by
  unfold putK putD
  rw [r.any fun x => decide (x = k)]
  split
  · exact r.map h
  · exact r.append (.cons h .nil)
end
def dcL (mc : MC) (mt : MT) (mk mv : ME) (e : EnvD) : List D → List (Key × D) → S → Option (List (Key × D) × S)
  | [], acc, s => some (acc, s)
  | d :: ds, acc, s => match mc d e with
    | none => none
    | some e1 => match mt e1 s with
      | none => none
      | some (false, s1) => dcL mc mt mk mv e ds acc s1
      | some (true, s1) => match mk e1 s1 with
        | none => none
        | some (kd, s2) => match mv e1 s2 with
          | none => none
          | some (y, s3) => match keyD kd with
            | none => none
            | some kk => if acc.length < sizeLine then dcL mc mt mk mv e ds (putD acc kk y) s3 else none
def mDc (vs : List Nat) (mi : MI) (mc : MC) (mt : MT) (mk mv : ME) : ME := fun e s => bnd (mi e s) fun ds s1 => bnd (dcL mc mt mk mv (wipeE e vs) ds [] s1) fun ys s2 => some (.dic ys, s2)
section
variable {K : PySem.W.Frag}
end
section
variable {X : Cx} {kx vx tg iter : Expr} {ifs : List Expr} {scope : Scope} {own : List (Str × Nat)} {pos : Pos} {mi : MI} {mc : MC} {mt : MT} {mk mv : ME} {t : TG} {vs : List Nat}
end
end Z

set_option Elab.async false
set_option linter.all false
set_option maxRecDepth 100000
set_option maxHeartbeats 4000000
namespace Z
open PySem PySem.Spec PyProof.Rows L2
/-! ### room, with no guard running -/
structure RmZ (k : Nat) (A : Around) : Prop where
  r : Room k A
  gd : A.guards = some []
theorem RmZ.mono {j k : Nat} {A : Around} (r : RmZ k A) (h : j ≤ k := by decide) : RmZ j A := ⟨r.r.mono h, r.gd⟩
theorem RmZ.deeper {k : Nat} {A : Around} (r : RmZ (k + 1) A) (env : Env) : RmZ k (A.deeper env) := ⟨r.r.deeper env, r.gd⟩
theorem make_guards {A : Around} {C : Addr} {us : List Value} {kw : List (Str × Value)} : (A.under (.builtin "type.__call__" ⟨.ref C :: us, kw⟩)).guards = pushGuards [] A.guards := rfl
theorem RmZ.make {k : Nat} {A : Around} (r : RmZ (k + 1) A) (C : Addr) (us : List Value) (kw : List (Str × Value)) : RmZ k (A.under (.builtin "type.__call__" ⟨.ref C :: us, kw⟩)) :=
  ⟨r.r.make C us kw, by rw [make_guards, r.gd]; rfl⟩
/-- a def's promise where no guard runs -/
structure FnZ (P : Program) (w : World) (K : PySem.W.Frag) (mg : Str → Option Value) (base : Heap) (CX : CXT) (k : Nat) (f : Addr) (fd : FuncData) (ps : List Str) (sp : Sp) : Prop where
  len : ∀ vs H Q E, sp vs H Q E → vs.length = ps.length
  run : ∀ (A : Around) (outer : List Env) (s : Shared) (H : Hp) (args : Args) (us : List Value) (vs : List V) (Q : VK) (E : XK), RmZ k A → Env0 P w K mg base A outer s H → BindsTo s fd args (ps.zip us) → Vals vs us → sp vs H Q E →
    codeAny (model P w) A (.call (.ref f) args) (CR CX outer P w H s Q E) s
theorem FnZ.mono {P : Program} {w : World} {K : PySem.W.Frag} {mg : Str → Option Value} {base : Heap} {CX : CXT} {j k : Nat} {f : Addr} {fd : FuncData} {ps : List Str} {sp : Sp} (F : FnZ P w K mg base CX j f fd ps sp) (h : j ≤ k := by decide) : FnZ P w K mg base CX k f fd ps sp :=
  ⟨F.len, fun A outer s H args us vs Q E hr => F.run A outer s H args us vs Q E (hr.mono h)⟩
theorem fnz_of {P : Program} {w : World} {K : PySem.W.Frag} {mg : Str → Option Value} {base : Heap} {CX : CXT} {x qual : Str} {params : Arguments} {body : List Stmt} {scope : Scope} {dvs : List V} {kws : List (Str × V)} {f : Addr} {fd : FuncData} {N ps : List Str} {k : Nat} {sp : Sp}
    (F : FunD K x qual params body scope dvs kws f fd) (S : FnScope N ps scope) (len : ∀ vs H Q E, sp vs H Q E → vs.length = ps.length)
    (hbody : ∀ (cdv : Value) (A : Around) (outer : List Env) (s : Shared) (H : Hp) (vs : List V) (Q : VK) (E : XK), RmZ k (A.deeper (envOfC qual scope s.heap.objs.size f cdv)) → sp vs H Q E →
      ∃ t, PSs (cxOf CX P w K mg base N qual scope f cdv A outer s H E) body t ∧ t { nx := fun _ H' => Q .non H', rt := Q } (L2.start N vs) H) : FnZ P w K mg base CX (k + 1) f fd ps sp := by
  obtain ⟨oc, od, dV, kV, doc, pm, an, cdv, ct, osl, rfl, lk, hcd, _, _⟩ := F.ex
  refine ⟨len, fun A outer s H args us vs Q E hr e0 hb r hsp => ?_⟩
  have nl := len _ _ _ _ hsp
  have kin : K.In s.heap := e0.mod.kin.keeps fun b o q => (e0.bs b o q).1
  have lim : s.heap.NoLimit := e0.mod.nolimit.keeps fun b o q => (e0.bs b o q).1
  have kinds : ∀ z ∈ ps.zip us, scope.names.lookup z.1 = some .local ∨ (scope.names.lookup z.1 = some .cell ∧ ((cellsFrom (s.heap.objs.size + 1) scope.names []).lookup z.1).isSome = true) := fun ⟨n, v⟩ hz =>
    (S.par n (List.of_mem_zip hz).1).elim .inl fun q => .inr ⟨q, PySem.W.cellsFrom_some _ _ _ (.inl q)⟩
  refine codeAny_call_function hr.r.depth (kin _ _ lk) rfl S.co S.gen rfl (PySem.W.codeRec_of kin hcd) (hb _ _ _ _ (wpAny_newFunctionEnv_cells S.kind kinds fun env he s1 ic => ?_))
  subst he
  refine ⟨lim.keeps ic.toInCall.keep, codeAny_func ?_⟩
  obtain ⟨t, pt, ht⟩ := hbody cdv A outer s H vs Q E (hr.deeper _) hsp
  have J0 := inv_start (CX := CX) (E := E) S hr.r.hd e0 nl r ic
  refine wpAny_mono (pt.run [] s1 (start N vs) H _ J0 ht) (fun fl s' h => ?_) fun e s' h => h
  cases fl with
  | next => exact let ⟨_, H', J, q⟩ := h; ⟨.non, H', J.os, J.bare, J.base, J.hok, rfl, q⟩
  | ret u => exact let ⟨v, _, H', J, rv, q⟩ := h; ⟨v, H', J.os, J.bare, J.base, J.hok, rv, q⟩
  | brk => exact let ⟨_, _, _, q⟩ := h; False.elim q
  | cont => exact let ⟨_, _, _, q⟩ := h; False.elim q
/-! ### promises by mirrors -/
abbrev MD := List D → S → Option (D × S)
def rM (K : PySem.W.Frag) (md : MD) : List V → Hp → VK → Prop := fun vs H Q => ∃ g s ds d s', SRel K g H s ∧ RepL K g vs ds ∧ md ds s = some (d, s') ∧ ∀ v g' H', Step K g H g' H' s' → Rep K g' v d → Q v H'
def rF (K : PySem.W.Frag) (md : MD) : List V → Hp → VK → Prop := fun vs H Q => ∃ g s ds d s', SRel K g H s ∧ RepL K g vs ds ∧ md ds s = some (d, s') ∧
  ∀ a g' H', Step K g H g' H' s' → H a = none → g'.F a = none → a ∉ g'.ad → OwnAt K g' H' a d → Q (.ref a) H'
def spM (K : PySem.W.Frag) (md : MD) : Sp := fun vs H Q _ => rM K md vs H Q
def spF (K : PySem.W.Frag) (md : MD) : Sp := fun vs H Q _ => rF K md vs H Q
/-- the mirror of a def from its body's -/
def startE (n m : Nat) (ds : List D) : EnvD := ds.map Sl.val ++ List.replicate (m - n) .unb
def outM (r : Option (Fl × EnvD × S)) : Option (D × S) := match r with
  | some (.nx, _, s) => some (.non, s)
  | some (.ret d, _, s) => some (d, s)
  | _ => none
def outF (r : Option (Fl × EnvD × S)) : Option (D × S) := match r with
  | some (.rto d, _, s) => some (d, s)
  | _ => none
/-- n parameters, m names in all -/
def mkD (n m : Nat) (b : MS) : MD := fun ds s => if ds.length = n then outM (b (startE n m ds) s) else none
def mkF (n m : Nat) (b : MS) : MD := fun ds s => if ds.length = n then outF (b (startE n m ds) s) else none
theorem mkD_some {n m : Nat} {b : MS} {ds : List D} {s : S} {r : D × S} (h : mkD n m b ds s = some r) : ds.length = n ∧ outM (b (startE n m ds) s) = some r := by
  unfold mkD at h
  split at h
  · exact ⟨by assumption, h⟩
  · cases h
theorem mkF_some {n m : Nat} {b : MS} {ds : List D} {s : S} {r : D × S} (h : mkF n m b ds s = some r) : ds.length = n ∧ outF (b (startE n m ds) s) = some r := by
  unfold mkF at h
  split at h
  · exact ⟨by assumption, h⟩
  · cases h
section
variable {K : PySem.W.Frag}
theorem map_val_get {ds : List D} {i : Nat} {x : Sl} (h : (ds.map Sl.val)[i]? = some x) : ∃ d, x = .val d ∧ ds[i]? = some d := by
  rw [List.getElem?_map] at h
  cases e : ds[i]? with
  | none => rw [e] at h; cases h
  | some d => rw [e] at h; cases h; exact ⟨d, rfl, rfl⟩
theorem startE_get {n m : Nat} {ds : List D} {i : Nat} {x : Sl} (h : (startE n m ds)[i]? = some x) : (∃ d, x = .val d ∧ ds[i]? = some d ∧ i < ds.length) ∨ x = .unb := by
  unfold startE at h
  by_cases hi : i < ds.length
  · rw [List.getElem?_append_left (by simpa using hi)] at h
    obtain ⟨d, h1, h2⟩ := map_val_get h
    exact .inl ⟨d, h1, h2, hi⟩
  · rw [List.getElem?_append_right (by simpa using hi), List.getElem?_replicate] at h
    split at h
    · cases h; exact .inr rfl
    · cases h
theorem env_start {g : G} {H : Hp} {N : List Str} {n m : Nat} {vs : List V} {ds : List D} (r : RepL K g vs ds) (hn : vs.length = n) (hm : N.length = m) (hle : n ≤ m) : EnvRel K g H (L2.start N vs) (startE n m ds) := by
  have hl := r.length
  refine ⟨?_, fun i d h => ?_, fun i d h => ?_, fun i j d d' a h => ?_⟩
  · unfold startE L2.start
    simp only [List.length_append, List.length_map, List.length_replicate]
    omega
  · rcases startE_get h with ⟨d', e, h1, h2⟩ | e
    · cases e
      obtain ⟨v, q1, q2⟩ := r.get h1
      refine ⟨v, ?_, q2⟩
      unfold L2.start
      rw [List.getElem?_append_left (by rw [List.length_map, hl]; exact h2), List.getElem?_map, q1]
      rfl
    · cases e
  · rcases startE_get h with ⟨d', e, _⟩ | e <;> cases e
  · rcases startE_get h with ⟨d', e, _⟩ | e <;> cases e
theorem noOwn_start {σ : L2.St} {n m : Nat} {ds : List D} {a : Addr} : ¬ OwnA σ (startE n m ds) a := fun ⟨i, d, h, _⟩ => by
  rcases startE_get h with ⟨d', e, _⟩ | e <;> cases e
/-- what a body did is a step of its def -/
theorem StepS.T {g g' : G} {H H' : Hp} {σ σ' : L2.St} {e e' : EnvD} {s' : Z.S} (x : StepS K g H σ e g' H' σ' e' s') (h : ∀ a, ¬ OwnA σ e a) : Step K g H g' H' s' :=
  ⟨x.rel, x.le, fun a u q => (x.new a u q).imp id fun z => z.elim id fun w => absurd w (h a), fun a q => (x.newc a q).imp id fun z => z.elim id fun w => absurd w (h a), fun a u q ha => (x.keep a u q ha (h a)).1⟩
theorem body_M {N : List Str} {n m : Nat} {b : MS} {vs : List V} {H : Hp} {Q : VK} (hm : N.length = m) (hle : n ≤ m) (h : rM K (mkD n m b) vs H Q) : trS K b { nx := fun _ H' => Q .non H', rt := Q } (L2.start N vs) H := by
  obtain ⟨g, s, ds, d, s', R, r, hmd, k⟩ := h
  have hn : vs.length = n := by rw [r.length]; exact (mkD_some hmd).1
  have hE : EnvRel K g H (L2.start N vs) (startE n m ds) := env_start r hn hm hle
  replace hmd := (mkD_some hmd).2
  unfold outM at hmd
  split at hmd
  · rename_i e1 s1 hb
    cases hmd
    exact ⟨g, _, s, .nx, e1, _, R, hE, hb, fun g' H' σ' st => k .non g' H' (st.T fun a => noOwn_start) .non⟩
  · rename_i d1 e1 s1 hb
    cases hmd
    exact ⟨g, _, s, .ret _, e1, _, R, hE, hb, fun g' H' σ' st v rv => k v g' H' (st.T fun a => noOwn_start) rv⟩
  · cases hmd
theorem body_F {N : List Str} {n m : Nat} {b : MS} {vs : List V} {H : Hp} {Q : VK} (hm : N.length = m) (hle : n ≤ m) (h : rF K (mkF n m b) vs H Q) : trS K b { nx := fun _ H' => Q .non H', rt := Q } (L2.start N vs) H := by
  obtain ⟨g, s, ds, d, s', R, r, hmd, k⟩ := h
  have hn : vs.length = n := by rw [r.length]; exact (mkF_some hmd).1
  have hE : EnvRel K g H (L2.start N vs) (startE n m ds) := env_start r hn hm hle
  replace hmd := (mkF_some hmd).2
  unfold outF at hmd
  split at hmd
  · rename_i d1 e1 s1 hb
    cases hmd
    exact ⟨g, _, s, .rto _, e1, _, R, hE, hb, fun g' H' σ' st a h1 h2 h3 h4 => k a g' H' (st.T fun a => noOwn_start) h1 h2 h3 h4⟩
  · cases hmd
end
/-! ### defs of the text -/
abbrev NoX : CXT := fun _ _ _ _ _ _ => False
structure DfZ (P : Program) (w : World) (K : PySem.W.Frag) (mg : Str → Option Value) (base : Heap) (k : Nat) (d : DefZ) (ps : List Str) (sp : Sp) : Prop where
  ex : ∃ fd, FunD K d.name d.qual d.params d.body d.scope (d.dvs K) [] (d.ad K) fd ∧ FnZ P w K mg base NoX k (d.ad K) fd ps sp ∧ Binds K fd ps []
section
variable {P : Program} {w : World} {K : PySem.W.Frag} {mg : Str → Option Value} {base : Heap} {d : DefZ} {N ps : List Str} {k n m : Nat} {b : MS}
theorem dfz_M (F : ∃ fd, FunD K d.name d.qual d.params d.body d.scope (d.dvs K) [] (d.ad K) fd) (S : FnScope N ps d.scope) (hp : ps.length = n) (hm : N.length = m) (hle : n ≤ m)
    (hbi : ∀ fd, FunD K d.name d.qual d.params d.body d.scope (d.dvs K) [] (d.ad K) fd → Binds K fd ps [])
    (hbody : ∀ (cdv : Value) (A : Around) (outer : List Env) (s : Shared) (H : Hp) (E : XK), RmZ k (A.deeper (envOfC d.qual d.scope s.heap.objs.size (d.ad K) cdv)) → PSs (cxOf NoX P w K mg base N d.qual d.scope (d.ad K) cdv A outer s H E) d.body (trS K b)) :
    DfZ P w K mg base (k + 1) d ps (spM K (mkD n m b)) := by
  obtain ⟨fd, F⟩ := F
  refine ⟨fd, F, fnz_of F S (fun vs H Q E h => ?_) (fun cdv A outer s H vs Q E hr h => ⟨_, hbody cdv A outer s H E hr, body_M hm hle h⟩), hbi fd F⟩
  obtain ⟨g, s, ds, x, s', R, r, hmd, _⟩ := h
  rw [r.length, hp]
  exact (mkD_some hmd).1
theorem dfz_F (F : ∃ fd, FunD K d.name d.qual d.params d.body d.scope (d.dvs K) [] (d.ad K) fd) (S : FnScope N ps d.scope) (hp : ps.length = n) (hm : N.length = m) (hle : n ≤ m)
    (hbi : ∀ fd, FunD K d.name d.qual d.params d.body d.scope (d.dvs K) [] (d.ad K) fd → Binds K fd ps [])
    (hbody : ∀ (cdv : Value) (A : Around) (outer : List Env) (s : Shared) (H : Hp) (E : XK), RmZ k (A.deeper (envOfC d.qual d.scope s.heap.objs.size (d.ad K) cdv)) → PSs (cxOf NoX P w K mg base N d.qual d.scope (d.ad K) cdv A outer s H E) d.body (trS K b)) :
    DfZ P w K mg base (k + 1) d ps (spF K (mkF n m b)) := by
  obtain ⟨fd, F⟩ := F
  refine ⟨fd, F, fnz_of F S (fun vs H Q E h => ?_) (fun cdv A outer s H vs Q E hr h => ⟨_, hbody cdv A outer s H E hr, body_F hm hle h⟩), hbi fd F⟩
  obtain ⟨g, s, ds, x, s', R, r, hmd, _⟩ := h
  rw [r.length, hp]
  exact (mkF_some hmd).1
end
section
variable {X : Cx} {d : DefZ} {ps : List Str} {k j : Nat} {sp : Sp} {x : Str} {p pos apos : Pos} {e o : Expr} {es : List Expr} {t : TA} {md : MD} {ma : MA} {mo : ME}
theorem DfZ.callR (F : DfZ X.prog X.w X.K X.mg X.base k d ps sp) (hr : RmZ k X.A) : CallR X (.ref (d.ad X.K)) (fun vs H Q => sp vs H Q fun _ _ _ => False) := fun pins s σ H xs us Q I r h => by
  obtain ⟨fd, _, F, hb⟩ := F.ex
  have hl : (us ++ []).length = ps.length := by
    rw [List.append_nil, ← r.length]
    exact F.len _ _ _ _ h
  have bt := hb s us I.kIn hl
  rw [List.append_nil] at bt
  refine wpAny_call (codeAny_mono (F.run X.A X.stack s H ⟨us, []⟩ us xs Q _ hr I.env0 bt r h) fun f s' hf => ?_)
  match f, hf with
  | .ok (.ret u), hf => exact I.after hf
theorem DfZ.kp (F : DfZ X.prog X.w X.K X.mg X.base k d ps sp) : PySem.W.keepIn X.K (.ref (d.ad X.K)) = true := let ⟨_, F, _⟩ := F.ex; F.kp
/-- f(e, ..) of a value that is known -/
theorem pe_callR {f : Addr} {r : List V → Hp → VK → Prop} (c : CallR X (.ref f) r) (hk : PySem.W.keepIn X.K (.ref f) = true) (hg : Gl X x) (hm : X.mg x = some (.ref f)) (ha : PA X (e :: es) t) (hdb : (x == ("__debug__" : Str)) = false := by decide +kernel)
    (he : starEach (e :: es) X.env = (false, eval e X.env) :: starEach es X.env := by rfl) (hpl : (backTo pos (starEach es X.env)).any (·.1) = false := by rfl) : PE X (.Call (.Name x p) (e :: es) [] pos) (tCB r t) := ⟨fun pins s σ H Q I h =>
  wpAny_Call_Name_kw (ld_glob I hg hm (PySem.W.callWith_K (h₀ := X.base) I.ok.mod.kin hk (thn (ha.run pos pins s σ H _ I h) fun us s1 ⟨vs, H1, I1, rv, q⟩ => ⟨I1.kIn, c pins s1 σ H1 vs us Q I1 rv q⟩) he hpl) hdb)⟩
def mCallD (md : MD) (ma : MA) : ME := fun e s => bnd (ma e s) md
theorem trE_callD {K : PySem.W.Frag} {σ : L2.St} {H : Hp} {Q : VK} (q : trE K (mCallD md ma) σ H Q) : tCB (fun vs H Q => spM K md vs H Q fun _ _ _ => False) (trA K ma) σ H Q := by
  obtain ⟨g, e, s, d, s', R, E, hm, k⟩ := q
  obtain ⟨ds, s1, h1, hm1⟩ := bnd_some hm
  exact ⟨g, e, s, ds, s1, R, E, h1, fun vs g1 H1 st1 rv => ⟨g1, s1, ds, d, s', st1.rel, rv, hm1, fun v g2 H2 st2 r2 => k v g2 H2 (st1.trans st2) r2⟩⟩
theorem trF_callD {K : PySem.W.Frag} {σ : L2.St} {H : Hp} {Q : VK} (q : trF K (mCallD md ma) σ H Q) : tCB (fun vs H Q => spF K md vs H Q fun _ _ _ => False) (trA K ma) σ H Q := by
  obtain ⟨g, e, s, d, s', R, E, hm, k⟩ := q
  obtain ⟨ds, s1, h1, hm1⟩ := bnd_some hm
  exact ⟨g, e, s, ds, s1, R, E, h1, fun vs g1 H1 st1 rv => ⟨g1, s1, ds, d, s', st1.rel, rv, hm1, fun a g2 H2 st2 q1 q2 q3 q4 => k a g2 H2 (st1.trans st2) (st1.noneOf q1) q2 q3 q4⟩⟩
theorem d_call (F : DfZ X.prog X.w X.K X.mg X.base j d ps (spM X.K md)) (hr : RmZ k X.A) (hj : j ≤ k) (hg : Gl X x) (hm : X.mg x = some (.ref (d.ad X.K))) (ha : PA X (e :: es) (trA X.K ma)) (hdb : (x == ("__debug__" : Str)) = false := by decide +kernel)
    (he : starEach (e :: es) X.env = (false, eval e X.env) :: starEach es X.env := by rfl) (hpl : (backTo pos (starEach es X.env)).any (·.1) = false := by rfl) : PE X (.Call (.Name x p) (e :: es) [] pos) (trE X.K (mCallD md ma)) :=
  PE.imp (pe_callR (F.callR (hr.mono hj)) F.kp hg hm ha hdb he hpl) fun _ _ _ => trE_callD
theorem f_call (F : DfZ X.prog X.w X.K X.mg X.base j d ps (spF X.K md)) (hr : RmZ k X.A) (hj : j ≤ k) (hg : Gl X x) (hm : X.mg x = some (.ref (d.ad X.K))) (ha : PA X (e :: es) (trA X.K ma)) (hdb : (x == ("__debug__" : Str)) = false := by decide +kernel)
    (he : starEach (e :: es) X.env = (false, eval e X.env) :: starEach es X.env := by rfl) (hpl : (backTo pos (starEach es X.env)).any (·.1) = false := by rfl) : PE X (.Call (.Name x p) (e :: es) [] pos) (trF X.K (mCallD md ma)) :=
  PE.imp (pe_callR (F.callR (hr.mono hj)) F.kp hg hm ha hdb he hpl) fun _ _ _ => trF_callD
/-- a new object becomes a cell -/
def mCel (m : ME) : ME := fun e s => bnd (m e s) fun d s => some (.cel s.length, s ++ [d])
theorem trE_cel {K : PySem.W.Frag} {m : ME} {σ : L2.St} {H : Hp} {Q : VK} (q : trE K (mCel m) σ H Q) : trF K m σ H Q := by
  obtain ⟨g, e, s, d, s', R, E, hm, k⟩ := q
  obtain ⟨d1, s1, h1, hm1⟩ := bnd_some hm
  cases hm1
  refine ⟨g, e, s, d1, s1, R, E, h1, fun a g1 H1 st1 hn hf hc o => ?_⟩
  have L : GLe g1 ⟨g1.F, g1.ad ++ [a]⟩ := .push
  refine k (.ref a) ⟨g1.F, g1.ad ++ [a]⟩ H1 ⟨st1.rel.pushV hf hc fun g2 L2 => (o.mono L2 fun _ q => q).toC, st1.le.trans L, st1.new, fun b hb => ?_, st1.keep⟩ (.cel st1.rel.atV)
  rcases List.mem_append.mp hb with z | z
  · exact st1.newc b z
  · rw [List.mem_singleton.mp z]; exact .inr hn
theorem d_cel {m : ME} (h : PE X e (trF X.K m)) : PE X e (trE X.K (mCel m)) := PE.imp h fun _ _ _ => trE_cel
end
end Z

set_option Elab.async false
set_option linter.all false
set_option maxRecDepth 100000
set_option maxHeartbeats 4000000
namespace Z
open PySem PySem.Spec PyProof.Rows L2
/-! ### either reading -/
def mAlt (m1 m2 : ME) : ME := fun e s => match m1 e s with
  | some r => some r
  | none => m2 e s
/-! ### instances -/
def lookF (fs : List (Str × D)) (f : Str) : Option D := fs.lookup f
section
variable {K : PySem.W.Frag} {g : G}
end
section
variable {X : Cx} {a o e : Expr} {es : List Expr} {mo m1 m2 : ME} {ma : MA} {md : MD} {c f m : Str} {pos apos p : Pos} {d : DefZ} {ps : List Str} {j k : Nat}
/-- a field -/
def mFld (c f : Str) (mo : ME) : ME := fun e s => bnd (mo e s) fun d s => match d with
  | .obj c' fs => if c' = c then lft (lookF fs f) s else none
  | _ => none
def mMeth (c m : Str) (md : MD) (mo : ME) (ma : MA) : ME := fun e s => bnd (mo e s) fun d s => match d with
  | .obj c' fs => if c' = c ∧ lookF fs m = none then bnd (ma e s) fun ds s => md (.obj c' fs :: ds) s else none
  | _ => none
def mMeth0 (c m : Str) (md : MD) (mo : ME) : ME := fun e s => bnd (mo e s) fun d s => match d with
  | .obj c' fs => if c' = c ∧ lookF fs m = none then md [.obj c' fs] s else none
  | _ => none
/-- a property -/
def mProp (c : Str) (md : MD) (mo : ME) : ME := fun e s => bnd (mo e s) fun d s => match d with
  | .obj c' fs => if c' = c then md [.obj c' fs] s else none
  | _ => none
end
end Z

set_option Elab.async false
set_option linter.all false
set_option maxRecDepth 100000
set_option maxHeartbeats 4000000
namespace Z
open PySem PySem.Spec PyProof.Rows L2
/-! ### a new instance: its __init__ -/
structure SelfAt (K : PySem.W.Frag) (g : G) (H : Hp) (x : Addr) (c : Str) (fs : List (Str × D)) : Prop where
  F : g.F x = none
  ad : x ∉ g.ad
  o : OwnAt K g H x (.obj c fs)
/-- a step in which x alone may be written -/
structure StepN (K : PySem.W.Frag) (g : G) (H : Hp) (x : Addr) (g' : G) (H' : Hp) (s' : Z.S) : Prop where
  rel : SRel K g' H' s'
  le : GLe g g'
  new : ∀ a u, g'.F a = some u → g.F a = some u ∨ Fre H a ∨ a = x
  newc : ∀ a, a ∈ g'.ad → a ∈ g.ad ∨ H a = none
  keep : ∀ a u, H a = some u → a ∉ g.ad → a ≠ x → H' a = some u
  has : ∀ a u, H a = some u → ∃ u', H' a = some u'
section
variable {K : PySem.W.Frag} {g g' g'' : G} {H H' H'' : Hp} {s s' s'' : Z.S} {x : Addr}
theorem Step.N (st : Step K g H g' H' s') (x : Addr) : StepN K g H x g' H' s' := ⟨st.rel, st.le, fun a u h => (st.new a u h).imp id .inl, st.newc, fun a u h ha _ => st.keep a u h ha, fun a u h => st.has h⟩
theorem StepN.noneOf (st : StepN K g H x g' H' s') {a : Addr} (h : H' a = none) : H a = none := by
  cases q : H a with
  | none => rfl
  | some u => obtain ⟨u', z⟩ := st.has a u q; rw [h] at z; cases z
theorem StepN.trans (a : StepN K g H x g' H' s') (b : StepN K g' H' x g'' H'' s'') : StepN K g H x g'' H'' s'' := by
  refine ⟨b.rel, a.le.trans b.le, fun y u h => ?_, fun y h => ?_, fun y u h hy hx => ?_, fun y u h => ?_⟩
  · rcases b.new y u h with q | q | q
    · exact a.new y u q
    · rcases q with q | ⟨vs, q⟩
      · exact .inr (.inl (.inl (a.noneOf q)))
      · by_cases hx : y = x
        · exact .inr (.inr hx)
        · cases z : H y with
          | none => exact .inr (.inl (.inl z))
          | some w =>
            by_cases hy : y ∈ g.ad
            · exact absurd q (a.rel.noT (mem_ad a.le hy) vs)
            · have := a.keep y w z hy hx
              rw [q] at this; cases this
              exact .inr (.inl (.inr ⟨vs, z⟩))
    · exact .inr (.inr q)
  · rcases b.newc y h with q | q
    · exact a.newc y q
    · exact .inr (a.noneOf q)
  · refine b.keep y u (a.keep y u h hy hx) (fun z => ?_) hx
    rcases a.newc y z with q | q
    · exact hy q
    · rw [h] at q; cases q
  · obtain ⟨u', q⟩ := a.has y u h
    exact b.has y u' q
theorem SelfAt.step {c : Str} {fs : List (Str × D)} (a : SelfAt K g H x c fs) (st : Step K g H g' H' s') : SelfAt K g' H' x c fs := by
  obtain ⟨u, hu⟩ := a.o.has
  obtain ⟨h1, h2, h3⟩ := st.apart hu a.ad a.F (fun vs z => a.o.noT vs (z ▸ hu))
  exact ⟨h3, h2, a.o.mono st.le fun w hw => st.keep x w hw a.ad⟩
end
def NoOwn (e : EnvD) : Prop := ∀ (i : Nat) (d : D), e[i]? ≠ some (Sl.own d)
abbrev MN := EnvD → List (Str × D) → S → Option (List (Str × D) × S)
def trN (K : PySem.W.Frag) (c : Str) (m : MN) : TS := fun Dn σ H => ∃ g e s x fs0 fs s', SRel K g H s ∧ EnvRel K g H σ e ∧ NoOwn e ∧ σ[0]? = some (some (.ref x)) ∧ SelfAt K g H x c fs0 ∧ m e fs0 s = some (fs, s') ∧
  ∀ g' H', StepN K g H x g' H' s' → SelfAt K g' H' x c fs → Dn.nx σ H'
def bndN {α : Type} (x : Option (α × S)) (f : α → S → Option (List (Str × D) × S)) : Option (List (Str × D) × S) := match x with
  | some (a, s) => f a s
  | none => none
def nNil : MN := fun _ fs s => some (fs, s)
def nSeq (m1 m2 : MN) : MN := fun e fs s => bndN (m1 e fs s) fun fs s => m2 e fs s
def nExpr (m : ME) : MN := fun e fs s => bndN (m e s) fun _ s => some (fs, s)
def nNot (m : MT) : MN := fun e fs s => bndN (m e s) fun b s => match b with
  | true => none
  | false => some (fs, s)
def putFD (f : Str) (d : D) : List (Str × D) → List (Str × D)
  | [] => [(f, d)]
  | (g, x) :: r => if g = f then (g, d) :: r else (g, x) :: putFD f d r
def nFld (f : Str) (m : ME) : MN := fun e fs s => bndN (m e s) fun d s => if fs.length < 1000 then some (putFD f d fs, s) else none
theorem RepF.length {K : PySem.W.Frag} {g : G} : ∀ {vs ds}, RepF K g vs ds → vs.length = ds.length
  | _, _, .nil => rfl
  | _, _, .cons _ r => by simp [RepF.length r]
theorem RepF.put {K : PySem.W.Frag} {g : G} {f : Str} {v : V} {d : D} (h : Rep K g v d) : ∀ {vs ds}, RepF K g vs ds → RepF K g (putF f v vs) (putFD f d ds)
  | _, _, .nil => .cons h .nil
  | _, _, .cons (k := k) q r => by
    unfold putF putFD
    by_cases e : k = f
    · rw [if_pos e, if_pos e]; exact .cons h r
    · rw [if_neg e, if_neg e]; exact .cons q (RepF.put h r)
section
variable {X : Cx} {a : Expr} {st : Stmt} {sts : List Stmt} {me : ME} {mt : MT} {m1 m2 : MN} {c f : Str} {pos : Pos}
end
/-! ### promises of __init__ -/
abbrev MI0 := List D → S → Option (List (Str × D) × S)
def spI (K : PySem.W.Frag) (c : Str) (mi : MI0) : Sp := fun vs H Q _ => ∃ x ws g s ds fs s', vs = .ref x :: ws ∧ SelfAt K g H x c [] ∧ SRel K g H s ∧ RepL K g ws ds ∧ mi ds s = some (fs, s') ∧ ∀ g' H', StepN K g H x g' H' s' → SelfAt K g' H' x c fs → Q .non H'
/-- n parameters behind self, m names in all -/
def startI (n m : Nat) (ds : List D) : EnvD := .unb :: startE n (m - 1) ds
def mkI (n m : Nat) (b : MN) : MI0 := fun ds s => if ds.length = n then b (startI n m ds) [] s else none
section
variable {P : Program} {w : World} {K : PySem.W.Frag} {mg : Str → Option Value} {base : Heap} {d : DefZ} {N ps : List Str} {k n m : Nat} {b : MN} {c : Str}
end
/-- the new object of a class -/
def mdMake (c : Str) (mi : MI0) : MD := fun ds s => match mi ds s with
  | some (fs, s') => some (.obj c fs, s')
  | none => none
section
variable {X : Cx} {d : DefZ} {ps : List Str} {j k : Nat} {mi : MI0} {c x : Str} {p pos : Pos} {e : Expr} {es : List Expr} {ma : MA} {t : TA}
theorem free_of {K : PySem.W.Frag} {g : G} {H : Hp} {s : S} {x : Addr} (R : SRel K g H s) (hx : H x = none) : g.F x = none ∧ x ∉ g.ad := by
  refine ⟨?_, fun z => ?_⟩
  · cases q : g.F x with
    | none => rfl
    | some u =>
      rcases R.sub x u q with z | ⟨_, _, z⟩
      · rw [hx] at z; cases z
      · rw [hx] at z; cases z
  · obtain ⟨u, hu⟩ := R.has z
    rw [hx] at hu; cases hu
def mNone : MA := fun _ s => some ([], s)
/-- a class's name read as a value -/
theorem d_ty (hg : Gl X x) (hm : X.mg x = some (.ref (He.ga X.K x))) (hdb : (x == ("__debug__" : Str)) = false := by decide +kernel) : PE X (.Name x p) (trE X.K (mC (.ty x))) := ⟨fun pins s σ H Q I ⟨g, e, s0, d0, s', R, E, hm0, k⟩ => by
  cases hm0
  exact ld_glob I hg hm ⟨.ref (He.ga X.K x), H, I, rfl, k _ g H (.refl R) (.ty x)⟩ hdb⟩
/-- cls(e, ..), cls a local name that stands for the class c -/
def mCls (c : Str) (i : Nat) (md : MD) (ma : MA) : ME := fun e s => match e[i]? with
  | some (.val (.ty c')) => if c' = c then bnd (ma e s) md else none
  | _ => none
end
end Z

set_option Elab.async false
set_option linter.all false
set_option maxRecDepth 100000
set_option maxHeartbeats 4000000
namespace Z
open PySem PySem.Spec PyProof.Rows L2
section
variable {X : Cx} {K : PySem.W.Frag} {o a b e : Expr} {es : List Expr} {mo me : ME} {ma : MA} {apos pos p tpos : Pos} {x : Str}
/-! ### texts -/
def toSs : List D → Option (List Str)
  | [] => some []
  | .str x :: r => (toSs r).map (x :: ·)
  | _ :: _ => none
/-- x.split(sep) -/
def mSplit (mo me : ME) : ME := fun e s => bnd (mo e s) fun d s => bnd (me e s) fun y s => match d, y with
  | .str z, .str w => if (w.length == 0) = false ∧ z.length + 2 ≤ sizeLine then some (.lst ((Txt.split z w).map D.str), s) else none
  | _, _ => none
/-- one more object -/
theorem Step.new1 {K : PySem.W.Frag} {g g1 : G} {H H1 : Hp} {s1 : Z.S} (st : Step K g H g1 H1 s1) {q : Addr} {u : HO} (hq : H1 q = none) : Step K g H g1 (upd H1 q u) s1 ∧ H q = none ∧ g1.F q = none ∧ q ∉ g1.ad := by
  obtain ⟨h1, h2, h3⟩ := st.fresh hq
  exact ⟨st.put h1 h3 h2, h1, h2, h3⟩
/-- sep.join(list or tuple of texts) -/
def joinD : D → D → Option D
  | .str z, .lst ds => (toSs ds).bind fun ys => if (ys.map (·.length)).sum + ys.length * z.length ≤ 16777216 then some (.str (Txt.join z ys)) else none
  | .str z, .tup ds => (toSs ds).bind fun ys => if (ys.map (·.length)).sum + ys.length * z.length ≤ 16777216 then some (.str (Txt.join z ys)) else none
  | _, _ => none
def mJoin (mo me : ME) : ME := mOp joinD mo me
/-! ### isinstance -/
/-- the built-in types asked for -/
def tyD : D → Option String
  | .non => some "NoneType" | .bl _ => some "bool" | .int _ => some "int" | .str _ => some "str" | .tup _ => some "tuple" | .lst _ => some "list" | .dic _ => some "dict"
  | _ => none
/-- isinstance(x, T), T a built-in type: of built-in values -/
def isiT (T : String) : D → Option D := fun d => match d with
  | .obj _ _ => some (.bl false)
  | d => (tyD d).bind fun t => (kitB t T).map D.bl
end
/-! ### enumerate of a tuple: what it walks -/
section
variable {X : Cx} {K : PySem.W.Frag} {a b : Expr} {ma : MA} {p pos tpos : Pos}
def zipI (ma : MA) : MI := fun e s => bnd (ma e s) fun ds s => match ds with
  | [.lst x, .lst y] => some (zipD x y, s)
  | [.tup x, .tup y] => some (zipD x y, s)
  | _ => none
end
/-! ### owned dicts written -/
section
variable {X : Cx} {a b : Expr} {m1 m2 : ME} {x : Str} {p apos cpos pos : Pos} {i : Nat}
/-- x.setdefault(k, v) as a statement -/
def sSetd (i : Nat) (m1 m2 : ME) : MS := fun e s => bndS (m1 e s) fun kd s => bndS (m2 e s) fun d s => match keyD kd, e[i]? with
  | some k, some (.own (.dic kvs)) => if kvs.length < sizeLine then some (.nx, e.set i (.own (.dic (if (lookD kvs k).isSome then kvs else putD kvs k d))), s) else none
  | _, _ => none
/-- x[k] = v, x an owned dict -/
def sPutK (i : Nat) (m1 m2 : ME) : MS := fun e s => bndS (m2 e s) fun d s => bndS (m1 e s) fun kd s => match keyD kd, e[i]? with
  | some k, some (.own (.dic kvs)) => if kvs.length < sizeLine then some (.nx, e.set i (.own (.dic (putD kvs k d))), s) else none
  | _, _ => none
end
end Z
namespace Z
open PySem PySem.Spec PyProof.Rows L2
/-! ### isinstance -/
structure InsF (K : PySem.W.Frag) (c : Str) : Prop where
  cl : Cls K (He.ga K c)
  ha : PySem.W.findIn K (.ref (He.ga K c)) "__class__" = some (some (.builtin "object.__class__"))
  hn : PySem.W.specialIn K (.builtin "object.__class__") "__get__" = some (some (.builtin "getset_descriptor.__get__"))
  tk : PySem.W.takesIn K (.builtin "object.__class__") = some true
  mr : PySem.W.mroIn K (He.ga K c) (.type "object") = some true
def insB (K : PySem.W.Frag) (c : Str) : Bool := (He.Fa.cls c).ok K && (He.eqO (PySem.W.findIn K (.ref (He.ga K c)) "__class__") (some (some (.builtin "object.__class__"))) && (He.eqO (PySem.W.specialIn K (.builtin "object.__class__") "__get__") (some (some (.builtin "getset_descriptor.__get__"))) &&
  (decide (PySem.W.takesIn K (.builtin "object.__class__") = some true) && decide (PySem.W.mroIn K (He.ga K c) (.type "object") = some true))))
def bTys : List String := ["NoneType", "bool", "int", "str", "tuple", "list", "dict"]
structure IsiF (K : PySem.W.Frag) (cs : List Str) (tys : List String) : Prop where
  ins : ∀ c ∈ cs, InsF K c
  oT : ∀ c ∈ cs, ∀ T ∈ tys, PySem.W.kitOne K (.ref (He.ga K c)) (.type T) = some false
  oO : ∀ c ∈ cs, ∀ C ∈ cs, PySem.W.kitOne K (.ref (He.ga K c)) (.ref (He.ga K C)) = some (decide (c = C))
  tO : ∀ t ∈ bTys, ∀ C ∈ cs, PySem.W.kitOne K (.type t) (.ref (He.ga K C)) = some false
def isiB (K : PySem.W.Frag) (cs : List Str) (tys : List String) : Bool := (cs.all fun c => insB K c) && ((cs.all fun c => tys.all fun T => decide (PySem.W.kitOne K (.ref (He.ga K c)) (.type T) = some false)) &&
  ((cs.all fun c => cs.all fun C => decide (PySem.W.kitOne K (.ref (He.ga K c)) (.ref (He.ga K C)) = some (decide (c = C)))) && (bTys.all fun t => cs.all fun C => decide (PySem.W.kitOne K (.type t) (.ref (He.ga K C)) = some false))))
def isiD (cs : List Str) (tys : List String) : List D → Option D
  | [.obj c _, .opq (.ty T)] => if c ∈ cs ∧ T ∈ tys then some (.bl false) else none
  | [.obj c _, .ty C] => if c ∈ cs ∧ C ∈ cs then some (.bl (decide (c = C))) else none
  | [d, .opq (.ty T)] => (tyD d).bind fun t => (kitB t T).map D.bl
  | [d, .ty C] => if C ∈ cs then (tyD d).map fun _ => .bl false else none
  | _ => none
section
variable {K : PySem.W.Frag} {cs : List Str} {tys : List String}
end
section
variable {X : Cx} {x : Str} {p : Pos} {T : String}
/-- the name of a built-in type -/
theorem d_bty (hg : Gl X x) (hm : X.mg x = none) (hv : bootBuiltins x = some (.type T)) (hn : x ≠ "__name__" := by decide +kernel) (hdb : (x == ("__debug__" : Str)) = false := by decide +kernel) : PE X (.Name x p) (trE X.K (mC (.opq (.ty T)))) := ⟨fun pins s σ H Q I ⟨g, e, s0, d0, s', R, E, hm0, k⟩ => by
  cases hm0
  exact ld_blt I hg hm hv ⟨.ty T, H, I, rfl, k _ g H (.refl R) (.opq _)⟩ hn hdb⟩
end
end Z

set_option Elab.async false
set_option linter.all false
set_option maxRecDepth 100000
set_option maxHeartbeats 4000000
namespace Z
open PySem PySem.Spec PyProof.Rows L2
/-! ### one order for ints, texts and tuples of them -/
def encS : D → List Int
  | .int i => [0, i]
  | .str x => 1 :: (x.cps.toList.map Int.ofNat ++ [-1])
  | _ => [2]
def encD : D → List Int
  | .tup ds => ds.flatMap encS
  | d => encS d
def ltS (a b : D) : Bool := decide (encD a < encD b)
theorem enc_int (i j : Int) (r r' : List Int) : (encS (.int i) ++ r < encS (.int j) ++ r') ↔ (i < j ∨ (i = j ∧ r < r')) := by
  simp [encS, List.cons_lt_cons_iff]
theorem enc_cps : ∀ (xs ys : List Nat) (r r' : List Int), (xs.map Int.ofNat ++ (-1 :: r) < ys.map Int.ofNat ++ (-1 :: r')) ↔ (xs < ys ∨ (xs = ys ∧ r < r'))
  | [], [], r, r' => by simp [List.cons_lt_cons_iff]
  | [], y :: ys, r, r' => by
    simp only [List.map_nil, List.nil_append, List.map_cons, List.cons_append, List.cons_lt_cons_iff]
    constructor
    · intro _; exact .inl (List.nil_lt_cons _ _)
    · intro _; left; exact Int.lt_of_lt_of_le (by decide) (Int.natCast_nonneg y)
  | x :: xs, [], r, r' => by
    simp only [List.map_nil, List.nil_append, List.map_cons, List.cons_append, List.cons_lt_cons_iff]
    constructor
    · rintro (h | ⟨h, _⟩)
      · have := Int.natCast_nonneg x; exact absurd h (by show ¬ ((x : Int) < -1); omega)
      · have := Int.natCast_nonneg x; have h : (x : Int) = -1 := h; omega
    · rintro (h | ⟨h, _⟩)
      · exact absurd h (List.not_lt_nil _)
      · cases h
  | x :: xs, y :: ys, r, r' => by
    have ih := enc_cps xs ys r r'
    simp only [List.map_cons, List.cons_append, List.cons_lt_cons_iff, List.cons.injEq, ih]
    have e1 : (Int.ofNat x < Int.ofNat y) ↔ x < y := by show ((x : Int) < (y : Int)) ↔ _; omega
    have e2 : (Int.ofNat x = Int.ofNat y) ↔ x = y := by show ((x : Int) = (y : Int)) ↔ _; omega
    rw [e1, e2]
    constructor
    · rintro (h | ⟨h, h2 | ⟨h2, h3⟩⟩)
      · exact .inl (.inl h)
      · exact .inl (.inr ⟨h, h2⟩)
      · exact .inr ⟨⟨h, h2⟩, h3⟩
    · rintro ((h | ⟨h, h2⟩) | ⟨⟨h, h2⟩, h3⟩)
      · exact .inl h
      · exact .inr ⟨h, .inl h2⟩
      · exact .inr ⟨h, .inr ⟨h2, h3⟩⟩
theorem str_cps {x y : Str} : x.cps.toList = y.cps.toList ↔ x = y := by
  constructor
  · intro h
    cases x; cases y
    simp only at h
    rw [Array.toList_inj.mp h]
  · rintro rfl; rfl
theorem enc_str (x y : Str) (r r' : List Int) : (encS (.str x) ++ r < encS (.str y) ++ r') ↔ (x.cps.toList < y.cps.toList ∨ (x = y ∧ r < r')) := by
  have := enc_cps x.cps.toList y.cps.toList r r'
  simp only [encS, List.cons_append, List.append_assoc, List.cons_lt_cons_iff, Int.lt_irrefl, false_or, true_and, List.nil_append]
  rw [this, str_cps]
/-! ### which lists may be sorted -/
/-- 0: an int, 1: a text -/
def kS : D → Option Nat
  | .int _ => some 0
  | .str _ => some 1
  | _ => none
def kD : D → Option (List Nat)
  | .tup ds => ds.mapM kS
  | _ => none
theorem mapM_cons_some {α β : Type} {f : α → Option β} {a : α} {l : List α} {r : List β} (h : (a :: l).mapM f = some r) : ∃ b bs, f a = some b ∧ l.mapM f = some bs ∧ r = b :: bs := by
  rw [List.mapM_cons] at h
  cases e : f a with
  | none => rw [e] at h; cases h
  | some b =>
    rw [e] at h
    cases e2 : l.mapM f with
    | none => rw [e2] at h; cases h
    | some bs => rw [e2] at h; cases h; exact ⟨b, bs, rfl, rfl, rfl⟩
/-- a sign list that stands for an item's kind: ints [], texts [] are told by one kind each -/
def sameK : List D → Bool
  | [] => true
  | d :: ds => match d with
    | .int _ => ds.all fun e => match e with | .int _ => true | _ => false
    | .str _ => ds.all fun e => match e with | .str _ => true | _ => false
    | .tup _ => match kD d with
      | some (k :: ks) => ds.all fun e => decide (kD e = some (k :: ks))
      | _ => false
    | _ => false
def sortL (ds : List D) : List D := ds.mergeSort fun a b => !ltS b a
def sortedD : List D → Option D
  | [.lst ds] => if sameK ds then some (.lst (sortL ds)) else none
  | _ => none
/-! ### there is one sorted list -/
theorem lt_int {i j : Int} : ltS (.int i) (.int j) = decide (i < j) := by
  unfold ltS
  have := enc_int i j [] []
  simp only [List.append_nil] at this
  show decide (encS (.int i) < encS (.int j)) = _
  rw [decide_eq_decide, this]
  simp
theorem lt_str {x y : Str} : ltS (.str x) (.str y) = decide (x.cps.toList < y.cps.toList) := by
  unfold ltS
  have := enc_str x y [] []
  simp only [List.append_nil] at this
  show decide (encS (.str x) < encS (.str y)) = _
  rw [decide_eq_decide, this]
  simp
theorem nlt_eq {xs ys : List Nat} (h1 : ¬ xs < ys) (h2 : ¬ ys < xs) : xs = ys := List.le_antisymm (List.not_lt.mp h2) (List.not_lt.mp h1)
/-- items of one kind that are not told apart are equal -/
theorem enc_inj : ∀ (ks : List Nat) {ds es : List D} , ds.mapM kS = some ks → es.mapM kS = some ks → ¬ (ds.flatMap encS < es.flatMap encS) → ¬ (es.flatMap encS < ds.flatMap encS) → ds = es := by
  intro ks
  induction ks with
  | nil =>
    intro ds es h1 h2 _ _
    cases ds with
    | cons d ds => obtain ⟨_, _, _, _, e⟩ := mapM_cons_some h1; cases e
    | nil => cases es with
      | nil => rfl
      | cons d ds => obtain ⟨_, _, _, _, e⟩ := mapM_cons_some h2; cases e
  | cons k ks ih =>
    intro ds es h1 h2 n1 n2
    cases ds with
    | nil => cases h1
    | cons d ds => cases es with
      | nil => cases h2
      | cons e es =>
        obtain ⟨k1, ks1, a1, a2, a3⟩ := mapM_cons_some h1
        obtain ⟨k2, ks2, b1, b2, b3⟩ := mapM_cons_some h2
        cases a3; cases b3
        simp only [List.flatMap_cons] at n1 n2
        cases d <;> simp only [kS] at a1 <;> cases a1 <;> cases e <;> simp only [kS] at b1 <;> cases b1
        · rw [enc_int] at n1 n2
          rename_i i j
          have : i = j := by omega
          subst this
          simp only [Int.lt_irrefl, true_and, false_or] at n1 n2
          rw [ih a2 b2 n1 n2]
        · rw [enc_str] at n1 n2
          rename_i x y
          have : x = y := str_cps.mp (nlt_eq (fun h => n1 (.inl h)) (fun h => n2 (.inl h)))
          subst this
          have irr : ¬ x.cps.toList < x.cps.toList := List.lt_irrefl _
          simp only [irr, true_and, false_or] at n1 n2
          rw [ih a2 b2 n1 n2]
/-! ### the compare of two tuples -/
def scV : Value → D
  | .int i _ => .int i
  | .str x _ => .str x
  | _ => .non
def keyV (h : Heap) : Value → List D
  | .ref a => match h.get? a with
    | some o => match o.data with
      | .seq its _ => its.toList.map scV
      | _ => []
    | none => []
  | _ => []
section
variable {prog : Program} {w : World} {A : Around} {s : Shared}
end
end Z
namespace Z
open PySem PySem.Spec PyProof.Rows L2
def keyZ (h : Heap) (v : Value) : D := match v with
  | .int i _ => .int i
  | .str x _ => .str x
  | v => .tup (keyV h v)
section
variable {X : Cx} {pins : List (Addr × Obj)} {σ : L2.St} {H : Hp} {s : Shared} {g : G} {s0 : S}
/-- what an item is, at any heap that keeps the tuples -/
structure Itm (h : Heap) (v : Value) (d : D) : Prop where
  sc : (∃ i t, v = .int i t ∧ d = .int i) ∨ (∃ z t, v = .str z t ∧ d = .str z) ∨ ∃ a o its n ds ks, v = .ref a ∧ h.get? a = some o ∧ o.cls = .type "tuple" ∧ o.data = .seq its n ∧ its.toList.map scV = ds ∧ d = .tup ds ∧ ds.mapM kS = some ks
theorem Itm.keep {h h' : Heap} {v : Value} {d : D} (i : Itm h v d) (k : ∀ b o, h.get? b = some o → o.cls = .type "tuple" → h'.get? b = some o) : Itm h' v d := by
  refine ⟨?_⟩
  rcases i.sc with z | z | ⟨a, o, its, n, ds, ks, e1, e2, e3, e4⟩
  · exact .inl z
  · exact .inr (.inl z)
  · exact .inr (.inr ⟨a, o, its, n, ds, ks, e1, k _ _ e2 e3, e3, e4⟩)
theorem Itm.key {h : Heap} {v : Value} {d : D} (i : Itm h v d) : keyZ h v = d := by
  rcases i.sc with ⟨i, t, rfl, rfl⟩ | ⟨z, t, rfl, rfl⟩ | ⟨a, o, its, n, ds, ks, rfl, e2, e3, e4, e5, rfl, e6⟩
  · rfl
  · rfl
  · show D.tup (keyV h (.ref a)) = _
    unfold keyV
    simp only [e2, e4, e5]
end
inductive Itms (h : Heap) : List Value → List D → Prop
  | nil : Itms h [] []
  | cons {v d vs ds} : Itm h v d → Itms h vs ds → Itms h (v :: vs) (d :: ds)
theorem Itms.keep {h h' : Heap} (k : ∀ b o, h.get? b = some o → o.cls = .type "tuple" → h'.get? b = some o) : ∀ {vs ds}, Itms h vs ds → Itms h' vs ds
  | _, _, .nil => .nil
  | _, _, .cons i r => .cons (i.keep k) (Itms.keep k r)
theorem Itms.keys {h : Heap} : ∀ {vs ds}, Itms h vs ds → vs.map (keyZ h) = ds
  | _, _, .nil => rfl
  | _, _, .cons i r => by rw [List.map_cons, i.key, Itms.keys r]
theorem Itms.mem {h : Heap} : ∀ {vs ds} {v : Value}, Itms h vs ds → v ∈ vs → ∃ d ∈ ds, Itm h v d
  | _, _, v, .cons (d := d) i r, m => by
    rcases List.mem_cons.mp m with e | m
    · subst e; exact ⟨d, List.mem_cons_self, i⟩
    · obtain ⟨d', q, j⟩ := Itms.mem r m
      exact ⟨d', List.mem_cons_of_mem _ q, j⟩
/-- one kind of items -/
inductive OneK : List D → Prop
  | kInts (ns : List Int) : OneK (ns.map D.int)
  | kStrs (xs : List Str) : OneK (xs.map D.str)
  | kTups (ds : List D) (k : Nat) (ks : List Nat) (h : ∀ d ∈ ds, kD d = some (k :: ks)) : OneK ds
theorem OneK.sc {ds : List D} (h : OneK ds) : ∀ d ∈ ds, (∃ i, d = .int i) ∨ (∃ z, d = .str z) ∨ ∃ ks, kD d = some ks := fun d hd => by
  cases h with
  | kInts ns => obtain ⟨i, _, e⟩ := List.mem_map.mp hd; exact .inl ⟨i, e.symm⟩
  | kStrs xs => obtain ⟨i, _, e⟩ := List.mem_map.mp hd; exact .inr (.inl ⟨i, e.symm⟩)
  | kTups _ k ks h => exact .inr (.inr ⟨_, h d hd⟩)
theorem kD_tup {d : D} {ks : List Nat} (h : kD d = some ks) : ∃ ds, d = .tup ds ∧ ds.mapM kS = some ks := by
  cases d <;> simp only [kD] at h <;> try cases h
  exact ⟨_, rfl, h⟩
theorem OneK.inj {ds : List D} (h : OneK ds) : ∀ x ∈ ds, ∀ y ∈ ds, ltS x y = false → ltS y x = false → x = y := fun x hx y hy h1 h2 => by
  cases h with
  | kInts ns =>
    obtain ⟨i, _, rfl⟩ := List.mem_map.mp hx
    obtain ⟨j, _, rfl⟩ := List.mem_map.mp hy
    rw [lt_int] at h1 h2
    have h1 := of_decide_eq_false h1
    have h2 := of_decide_eq_false h2
    rw [show i = j by omega]
  | kStrs xs =>
    obtain ⟨i, _, rfl⟩ := List.mem_map.mp hx
    obtain ⟨j, _, rfl⟩ := List.mem_map.mp hy
    rw [lt_str] at h1 h2
    rw [str_cps.mp (nlt_eq (of_decide_eq_false h1) (of_decide_eq_false h2))]
  | kTups _ k ks h =>
    obtain ⟨xs, rfl, a1⟩ := kD_tup (h x hx)
    obtain ⟨ys, rfl, b1⟩ := kD_tup (h y hy)
    rw [enc_inj (k :: ks) a1 b1 (of_decide_eq_false h1) (of_decide_eq_false h2)]
section
variable {prog : Program} {w : World} {A : Around} {s : Shared}
end
end Z
namespace Z
open PySem PySem.Spec PyProof.Rows L2
section
variable {X : Cx} {pins : List (Addr × Obj)} {σ : L2.St} {H : Hp} {s : Shared} {g : G} {s0 : S}
end
section
variable {X : Cx} {a e : Expr} {es : List Expr} {ma : MA} {p pos : Pos} {x : Str}
theorem d_bltM {id : String} {md : MD} (hc : CallR X (.builtin id) (rM X.K md)) (hv : bootBuiltins x = some (.builtin id)) (hg : Gl X x) (hm : X.mg x = none) (ha : PA X (a :: es) (trA X.K ma)) (hn : x ≠ "__name__" := by decide +kernel) (hdb : (x == ("__debug__" : Str)) = false := by decide +kernel)
    (he : starEach (a :: es) X.env = (false, eval a X.env) :: starEach es X.env := by rfl) (hpl : (backTo pos (starEach es X.env)).any (·.1) = false := by rfl) : PE X (.Call (.Name x p) (a :: es) [] pos) (trE X.K (mCallD md ma)) :=
  PE.imp (pe_callB hc hg hm hv ha hn hdb he hpl) fun _ _ _ => trE_callD
end
end Z

set_option Elab.async false
set_option linter.all false
set_option maxRecDepth 100000
set_option maxHeartbeats 4000000
namespace Z
open PySem PySem.Spec PyProof.Rows L2 PySem.W
section
variable {prog : Program} {w : World} {A : Around} {E : Value → Shared → Prop} {s : Shared} {T : String} {r d : Addr} {n : Nat} {P : Nat → Value → Prop} {OK : Heap → Prop}
end
def kVD : Key → D
  | .inl i => .int i
  | .inr x => .str x
section
variable {K : PySem.W.Frag} {g : G}
end
section
variable {X : Cx} {pins : List (Addr × Obj)} {σ : L2.St} {H : Hp} {s : Shared}
def tupleDicD : List D → Option D
  | [.dic kvs] => if kvs.length ≤ sizeLine then some (.tup (kvs.map fun p => kVD p.1)) else none
  | _ => none
/-! ### tuple(x.values()) -/
def tupleValsD : D → Option D
  | .dic kvs => if kvs.length ≤ sizeLine then some (.tup (kvs.map fun p => p.2)) else none
  | _ => none
variable {e : Expr} {me : ME} {p pos apos cpos : Pos}
end
end Z

set_option Elab.async false
set_option linter.all false
set_option maxRecDepth 100000
set_option maxHeartbeats 4000000
namespace Z
open PySem PySem.Spec PyProof.Rows L2
/-! ### enumerate of a tuple -/
def tItObj (l : Addr) : Obj := { cls := .type "tuple_iterator", data := .fields #[.ref l, .int 0 0] }
section
variable {prog : Program} {w : World} {A : Around} {E : Value → Shared → Prop} {s : Shared}
end
/-- the tuple at a, each item in a new pair -/
def IteT (K : PySem.W.Frag) (a : Addr) : It :=
  ⟨fun i H => ∃ (xs : List V) (x : V), SqT K H a xs ∧ xs[i]? = some x, fun i H v H' => ∃ T x, v = .ref T ∧ H T = none ∧ H' = upd H T (.tup [.int (i : Nat), x]) ∧ ∀ xs, SqT K H a xs → xs[i]? = some x, fun i H => ∃ xs : List V, SqT K H a xs ∧ xs.length = i⟩
section
variable {X : Cx} {K : PySem.W.Frag} {e : Expr} {ta : TA} {ma : MA} {p pos tpos : Pos} {elts : List Expr} {kk : Nat}
def iEnumT (K : PySem.W.Frag) (ta : TA) : TI := fun σ H R => ta σ H fun vs H1 => ∃ a xs, vs = [.ref a] ∧ SqT K H1 a xs ∧ R (IteT K a) H1
def enum2I (ma : MA) : MI := fun e s => bnd (ma e s) fun ds s => match ds with
  | [.lst ds] => some (enumD ds, s)
  | [.tup ds] => some (enumD ds, s)
  | _ => none
end
end Z

set_option Elab.async false
set_option linter.all false
set_option maxRecDepth 100000
set_option maxHeartbeats 4000000
namespace Z
open PySem PySem.Spec PyProof.Rows L2
/-! ### a def called below a built-in -/
section
variable {X : Cx} {d : DefZ} {ps : List Str} {k j : Nat} {sp : Sp} {md : MD} {c : Str}
/-- what is asked of a receiver: the class -/
def ofC (c : Str) (d : D) : Bool := match d with
  | .obj c' _ => decide (c' = c)
  | _ => false
/-- f(x) of an instance goes to a def of its class -/
def ownD (c : Str) (md : MD) (ok : D → Bool) : MD := fun ds s => match ds with
  | [d] => match ofC c d with
    | true => match md [d] s with
      | some (r, s') => if ok r then some (r, s') else none
      | none => none
    | false => none
  | _ => none
def okLen (d : D) : Bool := match d with
  | .int n => decide (0 ≤ n) && decide (n < 2 ^ 63)
  | _ => false
def okStr (d : D) : Bool := match d with
  | .str _ => true
  | _ => false
def okBool (d : D) : Bool := match d with
  | .bl _ => true
  | _ => false
end
end Z
namespace Z
open PySem PySem.Spec PyProof.Rows L2
/-! ### operators that go to a def of the class -/
def mOpM (f : D → D → S → Option (D × S)) (ma mb : ME) : ME := fun e s => bnd (ma e s) fun a s => bnd (mb e s) fun b s => f a b s
def rOpM (K : PySem.W.Frag) (f : D → D → S → Option (D × S)) : R2 := fun x y H Q => ∃ g s a b d s', SRel K g H s ∧ Rep K g x a ∧ Rep K g y b ∧ f a b s = some (d, s') ∧ ∀ v g' H', Step K g H g' H' s' → Rep K g' v d → Q v H'
def tAlt (m1 m2 : MT) : MT := fun e s => match m1 e s with
  | some r => some r
  | none => m2 e s
section
variable {X : Cx} {a b o e : Expr} {ma mb mo me : ME} {m1 m2 : MT} {d : DefZ} {ps : List Str} {k j : Nat} {md : MD} {c : Str} {pos : Pos} {op : CmpOp}
theorem PT.or {t t' : TT} (h : PT X a t) (h' : PT X a t') : PT X a (fun σ H Q => t σ H Q ∨ t' σ H Q) := ⟨fun pins s σ H Q I q => q.elim (h.run pins s σ H Q I) (h'.run pins s σ H Q I)⟩
theorem trE_opM {K : PySem.W.Frag} {f : D → D → S → Option (D × S)} {σ : L2.St} {H : Hp} {Q : VK} (q : trE K (mOpM f ma mb) σ H Q) : tOp (rOpM K f) (trE K ma) (trE K mb) σ H Q := by
  obtain ⟨g, e, s, d, s', R, E, hm, k⟩ := q
  obtain ⟨x, s1, h1, hm1⟩ := bnd_some hm
  obtain ⟨y, s2, h2, hm2⟩ := bnd_some hm1
  exact ⟨g, e, s, x, s1, R, E, h1, fun v g1 H1 st1 rv => ⟨g1, e, s1, y, s2, st1.rel, E.step st1, h2, fun w g2 H2 st2 rw => ⟨g2, s2, x, y, d, s', st2.rel, rv.mono st2.le, rw, hm2, fun z g3 H3 st3 r3 => k z g3 H3 ((st1.trans st2).trans st3) r3⟩⟩⟩
/-- x in o, o an instance of c -/
def ownIn (c : Str) (md : MD) : D → D → S → Option (D × S) := fun a b s => match ofC c b with
  | true => match md [b, a] s with
    | some (.bl r, s') => some (.bl r, s')
    | _ => none
  | false => none
def ownNotIn (c : Str) (md : MD) : D → D → S → Option (D × S) := fun a b s => match ofC c b with
  | true => match md [b, a] s with
    | some (.bl r, s') => some (.bl (!r), s')
    | _ => none
  | false => none
/-- o[i], o an instance of c -/
def ownSub (c : Str) (md : MD) : D → D → S → Option (D × S) := fun a b s => match ofC c a with
  | true => md [a, b] s
  | false => none
end
/-! ### repr -/
def reprD (d : D) : Option D := (toP d).bind fun p => if p.showable = true ∧ p.depth ≤ 60 ∧ p.shown.length ≤ sizeLine ∧ p.hasDict = false then some (.str p.shown) else none
def reprM : MD := fun ds s => match ds with
  | [d] => lft (reprD d) s
  | _ => none
section
variable {X : Cx}
end
end Z

set_option Elab.async false
set_option linter.all false
set_option maxRecDepth 100000
set_option maxHeartbeats 4000000
namespace Z
open PySem PySem.Spec PyProof.Rows L2
section
variable {X : Cx} {K : PySem.W.Frag} {a b : Expr} {me mb ma : ME} {pos : Pos}
/-! ### a cell's item, read -/
def idxCel (a b : D) (s : S) : Option (D × S) := match a, b with
  | .cel n, .int k => match s[n]? with
    | some (.lst ds) => (atI ds k).map fun d => (d, s)
    | _ => none
  | _, _ => none
theorem idxCel_ok {x y : V} {H : Hp} {Q : VK} (h : rOpM K idxCel x y H Q) : rIx K x y H Q := by
  obtain ⟨g, s, p, q, d, s', R, rx, ry, hf, k⟩ := h
  unfold idxCel at hf
  split at hf
  · rename_i n i
    split at hf
    · rename_i ds hs
      obtain ⟨d', hd, e⟩ := Option.map_eq_some_iff.mp hf
      cases e
      cases rx with
      | cel hp =>
        cases ry
        obtain ⟨w, q1, q2, vs, q3, q4⟩ := R.vis hs
        rw [hp] at q1
        cases q1
        obtain ⟨v, h1, h2⟩ := repL_at q4 hd
        exact .inl ⟨_, _, _, _, rfl, rfl, .inl (.inl q3), h1, k _ _ _ (.refl R) h2⟩
    · cases hf
  · cases hf
theorem d_idxCel (ha : PE X a (trE X.K me)) (hb : PE X b (trE X.K mb)) (hs : PlainIx b := by exact fun _ _ => rfl) : PE X (.Subscript a b pos) (trE X.K (mOpM idxCel me mb)) :=
  PE.imp (pe_ix ix_seq ha hb hs) fun σ H Q q => by
    have z := trE_opM q
    obtain ⟨g, e, s, d, s', R, E, hm, k⟩ := z
    exact ⟨g, e, s, d, s', R, E, hm, fun v g1 H1 st rv => by
      obtain ⟨g2, e2, s2, d2, s3, R2, E2, hm2, k2⟩ := k v g1 H1 st rv
      exact ⟨g2, e2, s2, d2, s3, R2, E2, hm2, fun w g3 H3 st3 rw => idxCel_ok (k2 w g3 H3 st3 rw)⟩⟩
/-! ### + of all kinds, as a value -/
def addAll (a b : D) : Option D := match addD a b with
  | some d => some d
  | none => catD a b
theorem addAll_ok : OpOk K (fun x y H Q => rAddZ K x y H Q ∨ rCatZ x y H Q) addAll := fun g H s x y a b d Q R ra rb e k => by
  unfold addAll at e
  split at e
  · rename_i d' h
    cases e
    exact .inl (add_ok g H s x y a b _ Q R ra rb h k)
  · exact .inr (cat_ok.E g H s x y a b d Q R ra rb e k)
theorem d_addA (ha : PE X a (trE X.K ma)) (hb : PE X b (trE X.K mb)) : PE X (.BinOp a .Add b pos) (trE X.K (mOp addAll ma mb)) := PE.imp (pe_op (OpR.or op_addZ op_catZ) ha hb) fun _ _ _ => trE_op addAll_ok
/-! ### list * int -/
theorem rep_flat {g : G} {vs : List V} {ds : List D} (r : RepL K g vs ds) : ∀ n : Nat, RepL K g (List.replicate n vs).flatten (List.replicate n ds).flatten
  | 0 => by simpa using RepL.nil
  | n + 1 => by
    rw [List.replicate_succ, List.replicate_succ, List.flatten_cons, List.flatten_cons]
    exact r.append (rep_flat r n)
theorem grow_rep (zs : List Value) : ∀ (m : Nat) (acc : List Value), List.foldl (fun u w : Array Value => u ++ w) acc.toArray (List.replicate m zs.toArray) = (acc ++ (List.replicate m zs).flatten).toArray
  | 0, acc => by simp
  | m + 1, acc => by
    rw [List.replicate_succ, List.replicate_succ, List.foldl_cons, List.flatten_cons, ← List.append_assoc]
    have e : acc.toArray ++ zs.toArray = (acc ++ zs).toArray := by simp
    rw [e]
    exact grow_rep zs m (acc ++ zs)
theorem vals_rep {vs : List V} {us : List Value} (r : Vals vs us) : ∀ n : Nat, Vals (List.replicate n vs).flatten (List.replicate n us).flatten
  | 0 => by simpa using .nil
  | n + 1 => by
    rw [List.replicate_succ, List.replicate_succ, List.flatten_cons, List.flatten_cons]
    exact r.append (vals_rep r n)
theorem op_repZ : OpR X (binaryOp .Mult) rRepZ := fun pins s σ H x y v u Q I rx ry q0 => by
  obtain ⟨l, m, xs, rfl, rfl, hH, m1, m2, mx, q⟩ := q0
  obtain rfl : v = Value.ref l := rx
  obtain ⟨tk, rfl⟩ := ry
  obtain ⟨z, zs, n, r, el⟩ := hH.ok I.hok
  have len : xs.length = zs.length := r.length
  have small : zs.toArray.size * m.toNat ≤ 1000 * 1000 := by
    rw [List.size_toArray]
    exact Nat.mul_le_mul (by omega) (by omega)
  have sl : (1000 * 1000 : Nat) ≤ sizeLine := by decide
  have c1 : ¬ zs.toArray.size * m.toNat > (2 ^ 63 - 1) / 8 := by
    have : (1000 * 1000 : Nat) ≤ (2 ^ 63 - 1) / 8 := by decide
    omega
  have c2 : ¬ (!Builtin.List.listFitsIndex m) = true := by
    rw [fitsIndex_both (by omega) (by omega)]
    simp
  have c3 : ¬ Builtin.List.listTooLong (zs.toArray.size * m.toNat) = true := by
    rw [L2.notLongL (Nat.le_trans small sl)]
    simp
  have made : List.foldl (fun u w => u ++ w) #[] (List.replicate (if zs.toArray.isEmpty = true then 0 else m.toNat) zs.toArray) = (List.replicate m.toNat zs).flatten.toArray := by
    have f := fun k => grow_rep zs k []
    simp only [List.nil_append] at f
    refine (f _).trans ?_
    cases zs with
    | nil => simp
    | cons a t => simp
  have ty : s.TypeIs (.ref l) "list" := ⟨_, el, rfl⟩
  refine wpAny_binaryOp_repeat_ref (T := "list") (U := "int") (by decide) ty (fun s1 => typeIs_int s1 m tk) noFill_list_mul F.fills_int_mul F.slot_int_rmul repeat_list F.slot_int_index.lookup ?_
  refine call_meets F.slot_int_rmul (typeIs_int s m tk) F.entry_int_rmul (F.args_int_rmul_2 _ _) (int___rmul___int_list m tk l zs.toArray n) ⟨el, rfl, ty, ?_⟩
  refine call_meets F.slot_list_mul ty F.entry_list_mul (F.args_list_mul_2 _ _) (AutoListH.list___mul___list_int_3 l zs.toArray n m tk c2 c1 c3) ⟨el, ?_⟩
  rw [made]
  have hl : (List.replicate m.toNat xs).flatten.length ≤ sizeLine := by
    rw [PyProof.Rows.lm_len_rep_flat, len]
    rw [List.size_toArray] at small
    rw [Nat.mul_comm]
    omega
  refine ⟨.ref s.heap.objs.size, _, I.laid (t' := s.toks) (fun b w e => Heap.get?_push_of_some _ e) (Nat.le_refl _) ?_, rfl, q _ (I.hok.fresh (Nat.le_refl _))⟩
  exact ⟨hl, (List.replicate m.toNat zs).flatten, 0, vals_rep r m.toNat, Heap.get?_push_size _ rfl⟩
theorem rep_ok : OpOkF K rRepZ repD := fun g H s x y a b d Q R ra rb e k => by
  unfold repD at e
  split at e
  · split at e
    · rename_i hc
      cases e
      cases rb
      cases ra with
      | lst h1 r1 =>
        refine ⟨_, _, _, rfl, rfl, rd_H R h1, hc.1, hc.2.1, by rw [r1.length]; exact hc.2.2, fun p hp => ?_⟩
        obtain ⟨st, hf, hn, o⟩ := fresh_upd (u := .lst _) (d := .lst _) R hp fun g' L => ⟨_, upd_same, (rep_flat r1 _).mono L⟩
        exact k p g _ st hp hf hn o
    · cases e
  · cases e
theorem f_rep (ha : PE X a (trE X.K ma)) (hb : PE X b (trE X.K mb)) : PE X (.BinOp a .Mult b pos) (trF X.K (mOp repD ma mb)) := PE.imp (pe_op op_repZ ha hb) fun _ _ _ => trF_op rep_ok
/-! ### membership by deep equality -/
def inDp (x y : D) : Option Bool := match toP x, (match y with
    | .lst ds => toPL ds
    | .tup ds => toPL ds
    | _ => none) with
  | some d, some xs => if PyData.canLayAll0 xs = true ∧ d.canLay0 = true ∧ d.depth ≤ 60 then some (xs.any fun y => PyData.eqv y d) else none
  | _, _ => none
def inA (x y : D) : Option Bool := match inB x y with
  | some b => some b
  | none => inDp x y
def inAD (x y : D) : Option D := (inA x y).map .bl
def notInAD (x y : D) : Option D := (inA x y).map fun b => .bl (!b)
def rInDp (K : PySem.W.Frag) (f : Bool → Bool) : R2 := fun x y H Q => ∃ p d xs, y = .ref p ∧ Dp K H x d ∧ (Dp K H y (.list xs) ∨ Dp K H y (.tuple xs)) ∧ PyData.canLayAll0 xs = true ∧ d.canLay0 = true ∧ d.depth ≤ 60 ∧ Q (.bl (f (xs.any fun y => PyData.eqv y d))) H
theorem op_inDp (hu : X.A.units + 64 < cLine) : OpR X (compareOp .In) (rInDp X.K id) := fun pins s σ H x y v u Q I rx ry q0 => by
  obtain ⟨p, d, xs, rfl, dx, dy, c1, c2, c3, q⟩ := q0
  obtain ⟨bs, r2⟩ := Dp.reads I d x v dx rx
  have room : X.A.units + 1 + min (PyData.depthAll xs) d.depth < cLine := by omega
  rcases dy with dy | dy
  · obtain ⟨as, r1⟩ := Dp.reads I _ _ u dy ry
    exact PySem.SeqAt.in_list_reads r1 r2 c1 c2 room ⟨.bl _, H, I, rfl, q⟩
  · obtain ⟨as, r1⟩ := Dp.reads I _ _ u dy ry
    exact PySem.SeqAt.in_tuple_reads r1 r2 c1 c2 room ⟨.bl _, H, I, rfl, q⟩
theorem inDp_ok {f : Bool → Bool} {g : G} {H : Hp} {s : S} {x y : V} {a b : D} {k : Bool} {Q : VK} (R : SRel K g H s) (ra : Rep K g x a) (rb : Rep K g y b) (e : inDp a b = some k) (q : Q (.bl (f k)) H) : rInDp K f x y H Q := by
  unfold inDp at e
  split at e
  · rename_i d xs hd hx
    split at e
    · rename_i hc
      cases e
      have dx := dp_of R ra hd
      split at hx
      · cases id rb with
        | lst h1 r1 => exact ⟨_, d, xs, rfl, dx, .inl (dp_of R rb (by simp only [toP, hx]; rfl)), hc.1, hc.2.1, hc.2.2, q⟩
      · cases id rb with
        | tup h1 r1 => exact ⟨_, d, xs, rfl, dx, .inr (dp_of R rb (by simp only [toP, hx]; rfl)), hc.1, hc.2.1, hc.2.2, q⟩
      · cases hx
    · cases e
  · cases e
theorem inA_ok : OpOk K (fun x y H Q => rInZ K x y H Q ∨ rInDp K id x y H Q) inAD := fun g H s x y a b d Q R ra rb e k => by
  unfold inAD inA at e
  split at e
  · rename_i b0 hb
    exact .inl (in_ok g H s x y a b d Q R ra rb (by unfold inD; rw [hb]; exact e) k)
  · obtain ⟨k0, h1, rfl⟩ := Option.map_eq_some_iff.mp e
    exact .inr (inDp_ok R ra rb h1 (k _ _ _ (.refl R) (.bl _)))
theorem bly_inA : Bly inAD := fun a b d h => by unfold inAD at h; obtain ⟨c, _, rfl⟩ := Option.map_eq_some_iff.mp h; exact ⟨_, rfl⟩
theorem t_inA (hu : X.A.units + 64 < cLine) (ha : PE X a (trE X.K ma)) (hb : PE X b (trE X.K mb)) (hm : behindInMarks .In b = false := by rfl) : PT X (.Compare a [.In] [b] pos) (trT X.K (mT (mOp inAD ma mb))) := PT.imp (pt_cmpR (OpR.or oIn (op_inDp hu)) ha hb hm) fun _ _ _ => trT_op inA_ok bly_inA
end
end Z

set_option Elab.async false
set_option linter.all false
set_option maxRecDepth 100000
set_option maxHeartbeats 4000000
namespace Z
open PySem PySem.Spec PyProof.Rows L2 PySem.W
/-! ### a, *b = list -/
section
variable {prog : Program} {w : World} {A : Around} {E : Value → Shared → Prop} {s : Shared}
end
section
variable {X : Cx} {K : PySem.W.Frag} {ms : MGs} {pos : Pos} {es : List Expr} {t : Expr} {p : Pos}
def gStar (i n : Nat) (ms : MGs) : MG := fun d e s => match d with
  | .lst ds => if i < n ∧ n ≤ ds.length + 1 ∧ ds.length ≤ 16384 then ms (ds.take i ++ [.lst ((ds.drop i).take (ds.length + 1 - n))] ++ (ds.drop i).drop (ds.length + 1 - n)) e s else none
  | _ => none
def gStarT (K : PySem.W.Frag) (i n : Nat) (t : TGs) : TG := fun v σ H Q => ∃ a xs, v = .ref a ∧ SqL K H a xs ∧ i < n ∧ n ≤ xs.length + 1 ∧ xs.length ≤ 16384 ∧
  ∀ l, H l = none → t (xs.take i ++ [.ref l] ++ (xs.drop i).drop (xs.length + 1 - n)) σ (upd H l (.lst ((xs.drop i).take (xs.length + 1 - n)))) Q
end
end Z
namespace Z
open PySem PySem.Spec PyProof.Rows L2
/-! ### keywords -/
def pick {α : Type} (ix : List Nat) (ws : List α) : List α := ix.filterMap fun i => ws[i]?
/-- n values ahead, then the keywords ks: in the order of the parameters ps they are those at ix -/
structure KwZ (fd : FuncData) (ps ks : List Str) (n : Nat) (ix : List Nat) : Prop where
  to : ∀ (s : Shared) (us ws : List Value), us.length = n → ws.length = ks.length → BindsTo s fd ⟨us, ks.zip ws⟩ (ps.zip (us ++ pick ix ws))
/-- a call with n values ahead and keywords alone -/
def CallRK (X : Cx) (f : Value) (ks : List Str) (r : List V → List V → Hp → VK → Prop) : Prop := ∀ (pins : List (Addr × Obj)) (s : Shared) (σ : L2.St) (H : Hp) (as vs : List V) (bs us : List Value) (Q : VK), Inv X pins σ H s → Vals as bs → Vals vs us → us.length = ks.length → r as vs H Q →
  wpAny (model X.prog X.w) X.A (call f bs (ks.zip us)) (EP X pins σ Q) X.xe s
section
variable {X : Cx} {d : DefZ} {ps ks : List Str} {k j n : Nat} {ix : List Nat} {sp : Sp} {x m c : Str} {p pos apos kpos : Pos} {e o : Expr} {kws : List Keyword} {t : TA} {md : MD} {ma : MA} {me mo : ME} {mi : MI0} {nm : Option Str}
theorem k_nil : PK X [] (trA X.K aNil) := ⟨fun pos pins s σ H Q I ⟨g, e, s0, ds, s', R, E, hm, k⟩ => pk_nil.run pos pins s σ H Q I (by cases hm; exact k [] g H (.refl R) .nil)⟩
theorem k_cons (h : PE X e (trE X.K me)) (hr : PK X kws (trA X.K ma)) : PK X (⟨nm, e, kpos⟩ :: kws) (trA X.K (aCons me ma)) := ⟨fun pos pins s σ H Q I ⟨g, en, s0, ds, s', R, E, hm, k⟩ => (pk_cons h hr).run pos pins s σ H Q I (by
  obtain ⟨d, s1, h1, hm1⟩ := bnd_some hm
  obtain ⟨ds1, s2, h2, hm2⟩ := bnd_some hm1
  cases hm2
  exact ⟨g, en, s0, d, s1, R, E, h1, fun v g1 H1 st1 rv => ⟨g1, en, s1, ds1, s', st1.rel, E.step st1, h2, fun vs g2 H2 st2 rvs => k (v :: vs) g2 H2 (st1.trans st2) (.cons (rv.mono st2.le) rvs)⟩⟩)⟩
def mdPick (ix : List Nat) (md : MD) : MD := fun ds s => md (pick ix ds) s
/-- o.m(k = v, ..) -/
def mMethK (c m : Str) (ix : List Nat) (md : MD) (mo : ME) (ma : MA) : ME := fun e s => bnd (mo e s) fun d s => match d with
  | .obj c' fs => if c' = c ∧ lookF fs m = none then bnd (ma e s) fun ds s => md (.obj c' fs :: pick ix ds) s else none
  | _ => none
end
end Z

set_option Elab.async false
set_option linter.all false
set_option maxRecDepth 100000
set_option maxHeartbeats 4000000
namespace Z
open PySem PySem.Spec PyProof.Rows L2
/-! ### C.m(..), m a classmethod -/
def mCm (c : Str) (md : MD) (mo : ME) (ma : MA) : ME := fun e s => bnd (mo e s) fun d s => match d with
  | .ty c' => if c' = c then bnd (ma e s) fun ds s => md (.ty c :: ds) s else none
  | _ => none
def mCmK (c : Str) (ix : List Nat) (md : MD) (mo : ME) (ma : MA) : ME := fun e s => bnd (mo e s) fun d s => match d with
  | .ty c' => if c' = c then bnd (ma e s) fun ds s => md (.ty c :: pick ix ds) s else none
  | _ => none
section
variable {X : Cx} {d : DefZ} {ps ks : List Str} {k j : Nat} {ix : List Nat} {m c : Str} {pos apos : Pos} {e o : Expr} {es : List Expr} {kws : List Keyword} {md : MD} {ma : MA} {mo : ME} {rec : Addr}
end
end Z

set_option Elab.async false
set_option linter.all false
set_option maxRecDepth 100000
set_option maxHeartbeats 4000000
namespace Z
open PySem PySem.Spec PyProof.Rows L2
/-! ### {k: v for .. in .. for .. in ..} -/
abbrev dE2 (kx vx t0 i0 : Expr) (f0 : List Expr) (t1 i1 : Expr) (f1 : List Expr) (sc : Scope) (ps : Pos) : Expr := .DictComp kx vx [⟨t0, i0, f0, 0⟩, ⟨t1, i1, f1, 0⟩] sc ps
section
variable {kx vx t0 i0 t1 i1 : Expr} {f0 f1 : List Expr} {sc : Scope} {ps : Pos} {it : Value} {cell : Addr} {env : Env}
variable {prog : Program} {w : World} {A : Around} {R : Result → Shared → Prop} {s : Shared}
abbrev nxE (prog : Program) (w : World) (A : Around) (env : Env) (R : Result → Shared → Prop) : Value → Shared → Prop := notedBy (model prog w) A env fun e s' => R (.error e) s'
/-- the tests of a clause -/
abbrev tests (fs : List Expr) (env : Env) : Sem Bool := forIn fs true fun c r => if r = true then do let ok ← isTrue c env (eval c env); pure (ForInStep.yield ok) else pure (ForInStep.yield r)
end
end Z
namespace Z
open PySem PySem.Spec PyProof.Rows L2
/-- of the block of a comprehension, wherever it runs -/
abbrev InBlk (X : Cx) (sc : Scope) (p : Cx → Prop) : Prop := ∀ (s : Shared) (H : Hp) (C : Addr) (cl : List (Str × Addr)) (fp : List Addr), p (X.blk s H sc (compEnvC sc cl C X.env) fp)
section
variable {X : Cx}
def tDc2 (wi : TI) (g : TG) (tt : TT) (wi1 : TI) (g1 : TG) (tt1 : TT) (tk tv : TE) (vs vs1 : List Nat) : TE := fun σ H Q => wi σ H fun J Ha => ∀ M, Ha M = none → ∃ W : Nat → Nat → Hp → Prop, (∃ m, W 0 m (upd Ha M (.dK []))) ∧ ∀ i m H, W i m H →
  (J.stop i H ∧ Q (.ref M) H) ∨ (J.go i H ∧ ∃ Nx : Hp → Prop, (∀ Hz, Nx Hz → ∃ m', m' < m ∧ W (i + 1) m' Hz) ∧ ∀ x Hb, J.yld i H x Hb → g x (wipe σ vs) Hb fun σ2 Hc => wipe σ2 vs = wipe σ vs ∧ tt σ2 Hc fun b Hd =>
    if b = true then wi1 σ2 Hd fun J1 He => ∃ W1 : Nat → Nat → Hp → Prop, (∃ m, W1 0 m He) ∧ ∀ j k H, W1 j k H →
      (J1.stop j H ∧ Nx H) ∨ (J1.go j H ∧ ∃ Nx1 : Hp → Prop, (∀ Hz, Nx1 Hz → ∃ k', k' < k ∧ W1 (j + 1) k' Hz) ∧ ∀ x Hf, J1.yld j H x Hf → g1 x (wipe σ2 vs1) Hf fun σ3 Hg => wipe σ3 vs1 = wipe σ2 vs1 ∧ tt1 σ3 Hg fun b Hh =>
        if b = true then tk σ3 Hh fun y Hi => tv σ3 Hi fun z Hj => ∃ kvs k, y = kV k ∧ Hj M = some (.dK kvs) ∧ kvs.length < sizeLine ∧ Nx1 (upd Hj M (.dK (putK kvs k z))) else Nx1 Hh)
    else Nx Hd)
variable {pins : List (Addr × Obj)} {s : Shared} {σ : L2.St} {H : Hp} {Q : VK} {kx vx t0 i0 t1 i1 : Expr} {f0 f1 : List Expr} {sc : Scope} {own : List (Str × Nat)} {vs1 : List Nat} {ps ps' : Pos} {wi wi1 : TI} {g g1 : TG} {tt tt1 : TT} {tk tv : TE} {use : Option (Value → Sem Unit)} {Qf : Value → Shared → Prop}
end
end Z
namespace Z
open PySem PySem.Spec PyProof.Rows L2
def dcL2 (mc : MC) (mt : MT) (mi1 : MI) (vs1 : List Nat) (mc1 : MC) (mt1 : MT) (mk mv : ME) (e : EnvD) : List D → List (Key × D) → S → Option (List (Key × D) × S)
  | [], acc, s => some (acc, s)
  | d :: ds, acc, s => match mc d e with
    | none => none
    | some e1 => match mt e1 s with
      | none => none
      | some (false, s1) => dcL2 mc mt mi1 vs1 mc1 mt1 mk mv e ds acc s1
      | some (true, s1) => match mi1 e1 s1 with
        | none => none
        | some (ds1, s2) => match dcL mc1 mt1 mk mv (wipeE e1 vs1) ds1 acc s2 with
          | none => none
          | some (acc1, s3) => dcL2 mc mt mi1 vs1 mc1 mt1 mk mv e ds acc1 s3
def mDc2 (vs : List Nat) (mi : MI) (mc : MC) (mt : MT) (mi1 : MI) (vs1 : List Nat) (mc1 : MC) (mt1 : MT) (mk mv : ME) : ME := fun e s => bnd (mi e s) fun ds s1 => bnd (dcL2 mc mt mi1 vs1 mc1 mt1 mk mv (wipeE e vs) ds [] s1) fun ys s2 => some (.dic ys, s2)
section
variable {K : PySem.W.Frag} {vs vs1 : List Nat} {mi mi1 : MI} {mc mc1 : MC} {mt mt1 : MT} {mk mv : ME} {t t1 : TG}
end
section
variable {X : Cx} {kx vx tg iter tg1 iter1 : Expr} {ifs ifs1 : List Expr} {scope : Scope} {own : List (Str × Nat)} {pos spos py : Pos} {mi mi1 : MI} {mc mc1 : MC} {mt mt1 : MT} {mk mv : ME} {t t1 : TG} {vs vs1 : List Nat} {y : Str} {i : Nat}
end
end Z

set_option Elab.async false
set_option linter.all false
set_option maxRecDepth 100000
set_option maxHeartbeats 4000000
namespace Z
open PySem PySem.Spec PyProof.Rows L2
/-! ### sorted(d) -/
def strKs : List (Key × D) → Option (List Str)
  | [] => some []
  | (.inr x, _) :: r => (strKs r).map (x :: ·)
  | _ => none
def sortedDicD : List D → Option D
  | [.dic kvs] => (strKs kvs).bind fun ks => if ks.length < 64 then some (.lst (sortL (ks.map .str))) else none
  | _ => none
section
variable {X : Cx}
end
end Z

set_option Elab.async false
set_option linter.all false
set_option maxRecDepth 100000
set_option maxHeartbeats 4000000
namespace Z
open PySem PySem.Spec PyProof.Rows L2
/-! ### the forms that the printed derivations use -/
def visB (sc : Scope) (x : Str) : Bool := match sc.names.lookup x with
  | some .local => true
  | some .cell => true
  | some .free => true
  | _ => false
def locB (sc : Scope) (x : Str) : Bool := match sc.names.lookup x with
  | some .local => true
  | some .cell => true
  | _ => false
theorem vis_of {sc : Scope} {x : Str} (h : visB sc x = true) : Vis sc x := by
  unfold visB at h
  split at h
  · exact .inl (by assumption)
  · exact .inr (.inl (by assumption))
  · exact .inr (.inr (by assumption))
  · cases h
theorem loc_of {sc : Scope} {x : Str} (h : locB sc x = true) : Loc sc x := by
  unfold locB at h
  split at h
  · exact .inl (by assumption)
  · exact .inr (by assumption)
  · cases h
theorem hu_of {k : Nat} {A : Around} (r : RmZ k A) : A.units + 64 < cLine := by have := r.r.un; omega
section
variable {X : Cx} {k : Nat} {a b e o : Expr} {es : List Expr} {pos p pos' apos cpos : Pos} {x y z : Str} {me ma mb mo m1 m2 : ME} {mx : MX} {mA : MA} {mg : MG} {mt : MT}
theorem p_var (i : Nat) (hN : X.N[i]? = some x := by rfl) (hv : visB X.env.scope x = true := by rfl) (hd : (x == ("__debug__" : Str)) = false := by decide +kernel) (hcd : (x == ("__classdict__" : Str)) = false := by decide +kernel) : PE X (.Name x pos) (trE X.K (mVar i)) := d_var hN (vis_of hv) hd hcd
theorem p_gint {n : Int} (h : ∃ t, X.mg x = some (.int n t)) (hg : Gl X x := by rfl) (hd : (x == ("__debug__" : Str)) = false := by decide +kernel) : PE X (.Name x pos) (trE X.K (mC (.int n))) := by
  obtain ⟨t, e⟩ := h
  exact d_glob (v := .int n) hg ⟨_, e, ⟨t, rfl⟩⟩ (fun _ => .int n) hd
theorem p_set (i : Nat) (hN : X.N.Nodup) (h : PE X a (trE X.K me)) (hi : X.N[i]? = some x := by rfl) (hx : locB X.env.scope x = true := by rfl) (hs : swapsWith a (some (.Name x pos')) pos.line X.env = pure false := by rfl) (hf : X.fn x = true ∨ X.env.scope.names.lookup x = some .local := by first | exact .inl rfl | exact .inr rfl) :
    PS X (.Assign [.Name x pos'] a pos) (trS X.K (sSet i me)) := s_set hN hi (loc_of hx) h hs hf
theorem p_nm (i : Nat) (hN : X.N.Nodup) (hi : X.N[i]? = some x := by rfl) (hx : locB X.env.scope x = true := by rfl) (hf : X.fn x = true ∨ X.env.scope.names.lookup x = some .local := by first | exact .inl rfl | exact .inr rfl) : PG X (.Name x pos) (trG X.K (gNm i)) := g_nm hN hi (loc_of hx) hf
theorem p_cnm (i : Nat) (hN : X.N.Nodup) (hi : X.N[i]? = some x := by rfl) (hx : locB X.env.scope x = true := by rfl) (hf : X.fn x = true ∨ X.env.scope.names.lookup x = some .local := by first | exact .inl rfl | exact .inr rfl) : PG X (.Name x pos) (gName i) := pg_name hN hi (loc_of hx) hf
theorem nm_cons (i : Nat) {is : List Nat} (r : Nms X es is) (hi : X.N[i]? = some x := by rfl) (hx : locB X.env.scope x = true := by rfl) (hf : X.fn x = true ∨ X.env.scope.names.lookup x = some .local := by first | exact .inl rfl | exact .inr rfl) : Nms X (.Name x pos :: es) (i :: is) := .cons hi (loc_of hx) hf r
/-! built-in functions -/
theorem bt_len : bootBuiltins "len" = some (.builtin "len") := by decide +kernel
theorem bt_all : bootBuiltins "all" = some (.builtin "all") := by decide +kernel
theorem bt_max : bootBuiltins "max" = some (.builtin "max") := by decide +kernel
theorem bt_min : bootBuiltins "min" = some (.builtin "min") := by decide +kernel
theorem bt_abs : bootBuiltins "abs" = some (.builtin "abs") := by decide +kernel
theorem bt_divmod : bootBuiltins "divmod" = some (.builtin "divmod") := by decide +kernel
theorem bt_repr : bootBuiltins "repr" = some (.builtin "repr") := by decide +kernel
theorem bt_isinstance : bootBuiltins "isinstance" = some (.builtin "isinstance") := by decide +kernel
theorem bt_int : bootBuiltins "int" = some (.type "int") := by decide +kernel
end
end Z

set_option Elab.async false
set_option linter.all false
set_option maxRecDepth 100000
set_option maxHeartbeats 4000000
namespace Z
open PySem PySem.Spec PyProof.Rows L2
/-! ### what the head tells -/
structure TxOf (ex : List (PySem.W.Frag → Bool)) (fn : List DefZ) (K : PySem.W.Frag) (mg : Str → Option Value) : Prop where
  says : SaysZ (fun K => ex.all fun f => f K) fn K
  ns : ∃ h : Heap, K.In h ∧ h.Ns mainGlobals mg
section
variable {ex : List (PySem.W.Frag → Bool)} {fn : List DefZ} {K : PySem.W.Frag} {mg : Str → Option Value}
theorem TxOf.fact (T : TxOf ex fn K mg) (i : Nat) {f : PySem.W.Frag → Bool} (h : ex[i]? = some f) : f K = true := List.all_eq_true.mp T.says.ex_ok f (List.mem_of_getElem? h)
theorem TxOf.fun_ (T : TxOf ex fn K mg) (i : Nat) {d : DefZ} (h : fn[i]? = some d := by rfl) : ∃ fd, FunD K d.name d.qual d.params d.body d.scope (d.dvs K) [] (d.ad K) fd := T.says.at_ i h
theorem TxOf.glo (T : TxOf ex fn K mg) (i : Nat) {x : Str} (h : ex[i]? = some (fun K => (He.Fa.glo x).ok K) := by rfl) : mg x = some (.ref (He.ga K x)) := let ⟨_, X, G⟩ := T.ns; He.glo_ok X G (T.fact i h)
theorem TxOf.free (T : TxOf ex fn K mg) (i : Nat) {x : Str} (h : ex[i]? = some (fun K => (He.Fa.free x).ok K) := by rfl) : mg x = none := let ⟨_, X, G⟩ := T.ns; He.free_ok X G (T.fact i h)
theorem TxOf.gint (T : TxOf ex fn K mg) (i : Nat) {x : Str} {n : Int} (h : ex[i]? = some (fun K => (He.Fa.int x n).ok K) := by rfl) : ∃ t, mg x = some (.int n t) := let ⟨_, X, G⟩ := T.ns; He.int_ok X G (T.fact i h)
theorem TxOf.cls (T : TxOf ex fn K mg) (i : Nat) {x : Str} (h : ex[i]? = some (fun K => (He.Fa.cls x).ok K) := by rfl) : Cls K (He.ga K x) := He.cls_ok (T.fact i h)
end
section
variable {X : Cx} {st : List Stmt} {h : ExceptHandler} {hs : List ExceptHandler} {m : MS} {pos : Pos}
end
end Z

set_option Elab.async false
set_option linter.all false
set_option maxRecDepth 100000
set_option maxHeartbeats 4000000
namespace Z
open PySem PySem.Spec PyProof.Rows L2
/-! ### the law's end -/
theorem rmz_caller {k : Nat} (h : Room k callerA) : RmZ k callerA := ⟨h, rfl⟩
/-- the script as a tracked thing that is only read -/
abbrev scrO (us : List Value) : Obj := { cls := .type "list", data := .seq us.toArray }
/-- none of the text's objects is a list -/
def noLstB (K : PySem.W.Frag) : Bool := K.all fun p => match p.2.cls with
  | .type t => !decide (t = "list")
  | .str _ _ => false
  | _ => true
theorem noLst_ok {K : PySem.W.Frag} (h : noLstB K = true) {a : Addr} {us : List Value} (e : K.lookup a = some (scrO us)) : False := by
  have m : (a, scrO us) ∈ K := by
    clear h
    induction K with
    | nil => cases e
    | cons p r ih =>
      obtain ⟨b, o⟩ := p
      by_cases hb : a = b
      · subst hb
        simp only [List.lookup, beq_self_eq_true] at e
        cases e
        exact List.mem_cons_self
      · have hb' : (a == b) = false := by simpa using hb
        simp only [List.lookup, hb'] at e
        exact List.mem_cons_of_mem _ (ih e)
  have z := List.all_eq_true.mp h _ m
  have z : (!decide ("list" = "list")) = true := z
  simp at z
theorem noTabs {K : PySem.W.Frag} (h : noLstB K = true) : tabsOf K = [] := List.filterMap_eq_nil_iff.mpr fun p hp => by
  have z := List.all_eq_true.mp h p hp
  split
  · rename_i q t e
    simp only [e] at z
    cases z
  · rfl
section
variable {P : Program} {w : World} {K : PySem.W.Frag} {mg mb : Str → Option Value} {k : Nat} {fa a : Addr} {fd : FuncData} {x : Str} {md : MD} {s1 : Shared} {us : List Value} {ns : List Int}
/-- from one abstract heap in which at most the script is tracked -/
theorem end_core (KX : K.In s1.heap) (hns : s1.heap.Ns mainGlobals mg) (hb : s1.heap.Ns builtinsNs mb) (hbb : ∀ x : Str, x ≠ "__name__" → mb x = bootBuiltins x) (nl : s1.heap.NoLimit) (hg : s1.gens = #[]) (ha : s1.heap.get? a = some (scrO us)) (hr : Room k callerA)
    (F : ∀ base : Heap, K.In base → base.Ns mainGlobals mg → FnZ P w K mg base NoX k fa fd [x] (spM K md)) (bind : ∀ (s : Shared) (u : Value), BindsTo s fd ⟨[u], []⟩ [(x, u)])
    {H : Hp} (hp : HOk P w H s1.heap) (one : ∀ b, H b ≠ none → b = a) (nK : H a ≠ none → K.lookup a = none) (fz : H a = none ∨ ∃ u, H a = some (.frz (scrO us) u))
    {g : G} (R : SRel K g H []) (rp : Rep K g (.ref a) (.lst (ns.map .int))) (e : ∃ s', md [.lst (ns.map .int)] [] = some (.bl true, s')) :
    codeAny (model P w) callerA (.call (.ref fa) ⟨[.ref a], []⟩) (fun r s' => r = .ok (.ret (.bool true)) ∧ OldK s1.heap s'.heap ∧ s'.os = s1.os ∧ AllBare s'.gens) s1 := by
  have noDict : ∀ {b : Addr} {o : Obj} {es : Array DictEntry} {ep : Nat}, s1.heap.get? b = some o → o.data = .dict es ep → H b = none := fun {b o es ep} e1 e2 => by
    refine Classical.byContradiction fun q => ?_
    have eb := one b q
    rw [eb, ha] at e1
    cases e1
    exact nomatch (show Data.seq us.toArray _ = Data.dict es ep from e2)
  have stay : ∀ {b : Addr} {m : Str → Option Value}, s1.heap.Ns b m → (hidT s1.heap H).Ns b m := fun {b m} ⟨o, es, ep, e1, e2, r⟩ => ⟨o, es, ep, hidT_get e1 (noDict e1 e2), e2, r⟩
  have KB : K.In (hidT s1.heap H) := fun b o e1 => hidT_get (KX b o e1) (Classical.byContradiction fun q => by
    have eb := one b q
    rw [eb] at e1 q
    rw [nK q] at e1
    cases e1)
  have M : Mod K mg (hidT s1.heap H) := ⟨KB, stay hns, ⟨mb, stay hb, hbb⟩, let ⟨mc, z1, z2⟩ := nl; ⟨mc, stay z1, z2⟩⟩
  have E0 : Env0 P w K mg (hidT s1.heap H) callerA [] s1 H := ⟨rfl, M, fun b o z => of_hidT z, Nat.le_of_eq (hidT_size _ _), trivial, (fun b z => nomatch (show b ∈ ([] : List Addr) from z)), hp, .of_eq hg⟩
  obtain ⟨s', e⟩ := e
  have sp : spM K md [.ref a] H (fun v _ => v = .bl true) fun _ _ _ => False := ⟨g, [], [.lst (ns.map .int)], .bl true, s', R, .cons rp .nil, e, fun v g' H' _ rv => by cases rv; rfl⟩
  refine codeAny_mono ((F _ KB (stay hns)).run callerA [] s1 H ⟨[.ref a], []⟩ [.ref a] [.ref a] _ _ (rmz_caller hr) E0 (bind s1 (.ref a)) (.cons (show RelV (V.ref a) (Value.ref a) from rfl) .nil) sp) fun r z h => ?_
  match r, h with
  | .ok (.ret u), h =>
    obtain ⟨v, H', os, bare, un, hp', rv, q⟩ := h
    have q : v = .bl true := q
    subst q
    obtain rfl : u = Value.bool true := rv
    refine ⟨rfl, OldK.of_keep fun b o e1 => ?_, os, bare⟩
    by_cases q : H b = none
    · exact un.keep b o e1 q (fun z => nomatch (show b ∈ ([] : List Addr) from z)) (by simp)
    · have eb := one b q
      subst eb
      rcases fz with z | ⟨u, z⟩
      · exact absurd z q
      · have z2 := un.frzs b _ _ z
        have e2 := (hp' b _ z2).1
        rw [ha] at e1
        cases e1
        exact e2
theorem end_call (KX : K.In s1.heap) (hns : s1.heap.Ns mainGlobals mg) (hb : s1.heap.Ns builtinsNs mb) (hbb : ∀ x : Str, x ≠ "__name__" → mb x = bootBuiltins x) (nl : s1.heap.NoLimit) (hg : s1.gens = #[]) (ha : s1.heap.get? a = some (scrO us)) (nl0 : noLstB K = true) (hi : IntsAre us ns) (hl : ns.length ≤ sizeLine) (hr : Room k callerA)
    (F : ∀ base : Heap, K.In base → base.Ns mainGlobals mg → FnZ P w K mg base NoX k fa fd [x] (spM K md)) (bind : ∀ (s : Shared) (u : Value), BindsTo s fd ⟨[u], []⟩ [(x, u)]) (e : ∃ s', md [.lst (ns.map .int)] [] = some (.bl true, s')) :
    codeAny (model P w) callerA (.call (.ref fa) ⟨[.ref a], []⟩) (fun r s' => r = .ok (.ret (.bool true)) ∧ OldK s1.heap s'.heap ∧ s'.os = s1.os ∧ AllBare s'.gens) s1 := by
  have rv := vals_ints hi
  have lenV := hi.length
  have ri : ∀ g : G, RepL K g (ns.map V.int) (ns.map D.int) := fun g => by
    clear rv lenV hi hl e
    induction ns with
    | nil => exact .nil
    | cons n r ih => exact .cons (.int n) ih
  cases hk : K.lookup a with
  | some o =>
    have e1 := (KX a o hk).symm.trans ha
    cases e1
    exact (noLst_ok nl0 hk).elim
  | none =>
    have hA : (fun b => if b = a then some (HO.frz (scrO us) (.lst (ns.map V.int))) else none : Hp) a = some (HO.frz (scrO us) (.lst (ns.map V.int))) := if_pos rfl
    refine end_core (g := ⟨fun b => if b = a then some (HO.frz (scrO us) (.lst (ns.map V.int))) else none, []⟩) (H := fun b => if b = a then some (.frz (scrO us) (.lst (ns.map V.int))) else none) KX hns hb hbb nl hg ha hr F bind ?_ ?_ (fun _ => hk) (.inr ⟨_, hA⟩) ?_ (.lst (.inr ⟨_, hA⟩) (ri _)) e
    · intro b u z
      by_cases hba : b = a
      · subst hba
        have z := hA.symm.trans z
        cases z
        exact ⟨ha, by rw [List.length_map]; exact hl, us, _, rv, ha⟩
      · exact nomatch ((if_neg hba).symm.trans z)
    · intro b z
      by_cases hba : b = a
      · exact hba
      · exact absurd (if_neg hba) z
    · have e0 : tbD K ++ ([] : S) = [] := by unfold tbD; rw [noTabs nl0]; rfl
      show SRel0 _ _ _ (tbD K ++ [])
      rw [e0]
      exact ⟨fun b u z => .inl z, rfl, (fun n c z => nomatch z), (fun n m c z => nomatch z)⟩
/-- a law: what its def keeps, and that its mirror tells True at every script -/
theorem walk_Z {l : PySem.W.OpenLaw} {n k : Nat} {q : Program} {loose : List Str} {XP : (Str → Option Value) → Heap → Prop} {YP : World → Heap → Prop} {d : DefRec} {x : Str} {md : MD}
    (hn : l.most = some n) (hn2 : n ≤ sizeLine) (hdf : d.params.defaults = []) (hr : Room k callerA)
    (F : ∀ (w : World) (mg : Str → Option Value) (fa : Addr) (h : Heap), YP w h → h.Ns mainGlobals mg → mg d.name = some (.ref fa) → ∃ (K : PySem.W.Frag) (fd : FuncData), K.In h ∧ noLstB K = true ∧ (∀ (s : Shared) (u : Value), BindsTo s fd ⟨[u], []⟩ [(x, u)]) ∧
      ∀ base : Heap, K.In base → base.Ns mainGlobals mg → FnZ l.prog w K mg base NoX k fa fd [x] (spM K md))
    (plain : ∀ ns : List Int, ns.length ≤ n → (∀ z ∈ ns, Builtin.Int.intBits z ≤ 1048576) → ∃ s', md [.lst (ns.map .int)] [] = some (.bl true, s')) :
    PySem.W.WalkO q loose XP YP l.row.toRowW d [] (fun f vs => PySem.call f vs) :=
  Att.attach_callB hn hdf fun w s0 s1 mg mb fa o pm cd doc a vs ns G Y ho hd hcd hmg hobj hints hlen hbits hg => by
    obtain ⟨K, fd, KX, nl0, hb, hF⟩ := F w mg fa _ Y G.T.g hmg
    exact end_call KX G.T.g G.T.b G.T.builtins G.T.nolimit hg hobj nl0 hints (Nat.le_trans hlen hn2) hr hF hb (plain ns hlen hbits)
end
end Z
namespace Z
open PySem PySem.Spec PyProof.Rows L2
theorem fun_one {K : PySem.W.Frag} {x qual : Str} {params : Arguments} {body : List Stmt} {scope : Scope} {dvs : List V} {f : Addr} {fd fd' : FuncData} (F : FunD K x qual params body scope dvs [] f fd) (F' : FunD K x qual params body scope dvs [] f fd') : fd = fd' := by
  obtain ⟨oc, od, dV, kV, doc, pm, an, cdv, ct, osl, rfl, lk, _, _, _⟩ := F.ex
  obtain ⟨oc', od', dV', kV', doc', pm', an', cdv', ct', osl', rfl, lk', _, _, _⟩ := F'.ex
  have e := lk.symm.trans lk'
  cases e
  rfl
theorem law_fd {P : Program} {w : World} {K : PySem.W.Frag} {mg : Str → Option Value} {k : Nat} {d : DefZ} {x : Str} {sp : Sp} {fa : Addr} (h0 : ∃ fd, FunD K d.name d.qual d.params d.body d.scope (d.dvs K) [] (d.ad K) fd) (hd : d.dfl = []) (hf : fa = d.ad K)
    (hb : ∀ (kV doc pm : Value) (an : Option Addr) (cdv ct : Value) (us : List Value), us.length = [x].length → bindArgs (PySem.W.fnOf d.name d.qual d.params d.body d.scope .none kV doc pm an cdv ct) ⟨us, []⟩ = pure ([x].zip us))
    (h : ∀ base : Heap, DfZ P w K mg base k d [x] sp) : ∃ fd : FuncData, (∀ (s : Shared) (u : Value), BindsTo s fd ⟨[u], []⟩ [(x, u)]) ∧ ∀ base : Heap, K.In base → base.Ns mainGlobals mg → FnZ P w K mg base NoX k fa fd [x] sp := by
  subst hf
  obtain ⟨fd, F⟩ := h0
  have e0 : d.dvs K = [] := by unfold DefZ.dvs; rw [hd]; rfl
  have F1 := F
  rw [e0] at F1
  refine ⟨fd, fun s u => FunD.bindsA (ps := [x]) F1 hb s [u] rfl, fun base _ _ => ?_⟩
  obtain ⟨fd', F', FZ, _⟩ := (h base).ex
  have e := fun_one F F'
  subst e
  exact FZ
end Z

set_option Elab.async false
set_option linter.all false
set_option maxRecDepth 100000
set_option maxHeartbeats 4000000
namespace Z
open PySem PySem.Spec PyProof.Rows L2
section
variable {X : Cx} {a b : Expr} {ma mb : ME} {d : DefZ} {ps : List Str} {k j : Nat} {md : MD} {c : Str} {pos : Pos}
/-- x == y, two instances of c -/
def ownEq (c : Str) (md : MD) : D → D → S → Option (D × S) := fun a b s => match ofC c a && ofC c b with
  | true => match md [a, b] s with
    | some (.bl r, s') => some (.bl r, s')
    | _ => none
  | false => none
end
/-! ### d.get(k, x) -/
def mGet (mo ma mb : ME) : ME := fun e s => bnd (mo e s) fun d s => bnd (ma e s) fun kd s => bnd (mb e s) fun x s => match d with
  | .dic kvs => match keyD kd with
    | some k => some ((lookD kvs k).getD x, s)
    | none => none
  | _ => none
section
variable {X : Cx} {o a b : Expr} {mo ma mb : ME} {apos pos : Pos}
end
/-! ### {} -/
def mDic0 : ME := fun _ s => some (.dic [], s)
theorem f_dic0 {X : Cx} {pos : Pos} : PE X (.Dict [] [] pos) (trF X.K mDic0) := PE.imp pe_dnewK fun σ H Q ⟨g, e, s, d, s', R, E, hm, k⟩ => by
  cases hm
  intro p hp
  obtain ⟨z1, z2, z3, z4⟩ := (Step.refl R).new1 (u := .dK []) hp
  exact k p g _ z1 z2 z3 z4 ⟨_, upd_same, .nil⟩
section
variable {Q : D → S → Prop} {s : S}
theorem wp_ownEq {c : Str} {md : MD} {fs gs : List (Str × D)} (h : ∃ r s1, md [.obj c fs, .obj c gs] s = some (r, s1) ∧ ∃ k, r = .bl k ∧ Q (.bl k) s1) : ∃ d s', ownEq c md (.obj c fs) (.obj c gs) s = some (d, s') ∧ Q d s' := by
  obtain ⟨r, s1, h1, kk, rfl, h2⟩ := h
  unfold ownEq
  have : ofC c (.obj c fs) = true := by simp [ofC]
  have : ofC c (.obj c gs) = true := by simp [ofC]
  exact ⟨.bl kk, s1, by simp [*], h2⟩
end
end Z

set_option Elab.async false
set_option linter.all false
set_option maxRecDepth 100000
set_option maxHeartbeats 4000000
namespace SrtO
open PySem PyProof.Rows Srt
/-! ### sorted of a tuple -/
section
variable {prog : Program} {w : World} {A : Around} {E : Value → Shared → Prop} {s : Shared}
end
end SrtO
namespace Z
open PySem PySem.Spec PyProof.Rows L2
section
variable {X : Cx}
/-- sorted(a tuple) -/
def sortedTD : List D → Option D
  | [.tup ds] => if sameK ds then some (.lst (sortL ds)) else none
  | _ => none
end
end Z

set_option Elab.async false
set_option linter.all false
set_option maxRecDepth 100000
set_option maxHeartbeats 4000000
namespace Z
open PySem PySem.Spec PyProof.Rows L2
/-! ### dict(list of pairs) -/
def pairD : D → Option (Key × D)
  | .tup [k, v] => (keyD k).map fun kk => (kk, v)
  | _ => none
def pairsD : List D → Option (List (Key × D))
  | [] => some []
  | d :: ds => match pairD d with
    | some p => (pairsD ds).map (p :: ·)
    | none => none
def mergeD (kvs : List (Key × D)) : List (Key × D) := kvs.foldl (fun a p => putD a p.1 p.2) []
def dictPD : List D → Option D
  | [.lst ds] => (pairsD ds).map fun kvs => .dic (mergeD kvs)
  | _ => none
section
variable {X : Cx} {K : PySem.W.Frag} {g : G} {H : Hp} {s : S}
end
end Z

set_option Elab.async false
set_option linter.all false
set_option maxRecDepth 100000
set_option maxHeartbeats 4000000
namespace Z
open PySem PySem.Spec PyProof.Rows L2
/-! ### t[::-1], xs[::-1] -/
section
variable {prog : Program} {w : World} {A : Around} {E : Value → Shared → Prop} {s : Shared}
end
section
variable {X : Cx}
def tRevT (K : PySem.W.Frag) (te : TE) : TE := fun σ H Q => te σ H fun x H1 => ∃ a xs, x = .ref a ∧ SqT K H1 a xs ∧ ∀ p, H1 p = none → Q (.ref p) (upd H1 p (.tup xs.reverse))
def mRev (f : D → Option D) (m : ME) : ME := fun e s => bnd (m e s) fun d s => lft (f d) s
def revT : D → Option D
  | .tup ds => some (.tup ds.reverse)
  | _ => none
def revLD : D → Option D
  | .lst ds => some (.lst ds.reverse)
  | _ => none
end
/-! ### x != y of two instances whose class has no __ne__ -/
section
open PySem.W PySem.Sem PySem.Builtin
variable {prog : Program} {w : World} {A : Around} {E : Value → Shared → Prop} {s : Shared} {K : Frag} {x C L f : Addr} {h₀ : Heap} {m : Str → Option Value} {ox : Obj} {od : Option Obj} {b tb : Value}
end
def neB (K : PySem.W.Frag) (c : Str) : Bool := He.eqO (PySem.W.findIn K (.ref (He.ga K c)) "__ne__") (some (some (.builtin "object.__ne__"))) && decide (PySem.W.mroIn K (He.ga K c) (.type "object") = some true)
section
variable {X : Cx} {a b : Expr} {ma mb : ME} {d : DefZ} {ps : List Str} {k j : Nat} {md : MD} {c : Str} {pos : Pos}
/-- x != y, two instances of c -/
def ownNe (c : Str) (md : MD) : D → D → S → Option (D × S) := fun a b s => match ofC c a && ofC c b with
  | true => match md [a, b] s with
    | some (.bl r, s') => some (.bl (!r), s')
    | _ => none
  | false => none
end
section
variable {Q : D → S → Prop} {s : S}
theorem wp_ownNe {c : Str} {md : MD} {fs gs : List (Str × D)} (h : ∃ r s1, md [.obj c fs, .obj c gs] s = some (r, s1) ∧ ∃ k, r = .bl k ∧ Q (.bl (!k)) s1) : ∃ d s', ownNe c md (.obj c fs) (.obj c gs) s = some (d, s') ∧ Q d s' := by
  obtain ⟨r, s1, h1, kk, rfl, h2⟩ := h
  unfold ownNe
  have : ofC c (.obj c fs) = true := by simp [ofC]
  have : ofC c (.obj c gs) = true := by simp [ofC]
  exact ⟨.bl (!kk), s1, by simp [*], h2⟩
end
end Z

set_option Elab.async false
set_option linter.all false
set_option maxRecDepth 100000
set_option maxHeartbeats 4000000
namespace Z
open PySem PySem.Spec PyProof.Rows L2
/-! ### min, max of a list of ints -/
def leastI : Int → List Int → Int
  | a, [] => a
  | a, x :: xs => leastI (if x < a then x else a) xs
def mostI : Int → List Int → Int
  | a, [] => a
  | a, x :: xs => mostI (if a < x then x else a) xs
def minLD : List D → Option D
  | [.lst ds] => match intsD ds with
    | some (n :: ns) => some (.int (leastI n ns))
    | _ => none
  | _ => none
def maxLD : List D → Option D
  | [.lst ds] => match intsD ds with
    | some (n :: ns) => some (.int (mostI n ns))
    | _ => none
  | _ => none
section
variable {K : PySem.W.Frag}
end
end Z

set_option Elab.async false
set_option linter.all false
set_option maxRecDepth 100000
set_option maxHeartbeats 4000000
namespace SrtO
open PySem PyProof.Rows Srt PySem.W
/-! ### sorted of a dict -/
section
variable {prog : Program} {w : World} {A : Around} {E : Value → Shared → Prop} {s : Shared} {r d : Addr} {n : Nat} {P : Nat → Value → Prop} {OK : Heap → Prop}
end
end SrtO
namespace Z
open PySem PySem.Spec PyProof.Rows L2 PySem.W
section
variable {X : Cx}
def keysVD (kvs : List (Key × D)) : List D := kvs.map fun p => kVD p.1
def sortedDicA : List D → Option D
  | [.dic kvs] => if sameK (keysVD kvs) ∧ kvs.length ≤ sizeLine then some (.lst (sortL (keysVD kvs))) else none
  | _ => none
end
end Z

set_option Elab.async false
set_option linter.all false
set_option maxRecDepth 100000
set_option maxHeartbeats 4000000
namespace Z
open PySem PySem.Spec PyProof.Rows L2
/-! ### xs.index(x), texts -/
def indexD : D → D → Option D
  | .lst ds, .str x => (toSs ds).bind fun ys => if x ∈ ys then some (.int (ys.findIdx fun y => decide (y = x) : Nat)) else none
  | _, _ => none
section
variable {X : Cx} {o a : Expr} {mo ma : ME} {apos pos : Pos}
end
end Z

set_option Elab.async false
set_option linter.all false
set_option maxRecDepth 100000
set_option maxHeartbeats 4000000
namespace Z
open PySem PySem.Spec PyProof.Rows L2
/-! ### d[k] += v, d owned, whole numbers -/
def sAugK (i : Nat) (m1 m2 : ME) : MS := fun e s => bndS (m1 e s) fun kd s => match keyD kd, e[i]? with
  | some k, some (.own (.dic kvs)) => match lookD kvs k with
    | some (.int a) => bndS (m2 e s) fun d s => match d with
      | .int b => if kvs.length < sizeLine then some (.nx, e.set i (.own (.dic (putD kvs k (.int (a + b))))), s) else none
      | _ => none
    | _ => none
  | _, _ => none
section
variable {X : Cx} {i k : Nat} {x : Str} {a b : Expr} {m1 m2 : ME} {p apos pos : Pos}
end
end Z

set_option Elab.async false
set_option linter.all false
set_option maxRecDepth 100000
set_option maxHeartbeats 4000000
namespace Z
open PySem PySem.Spec PyProof.Rows L2
/-! ### list(range(n)), list(range(a, b)) -/
def lrgD : List D → Option D
  | [.int n] => if 0 ≤ n ∧ n ≤ 16000000 then some (.lst (rngD 0 n.toNat)) else none
  | [.int a, .int b] => if 0 ≤ a ∧ a ≤ 16000000 ∧ 0 ≤ b ∧ b ≤ 16000000 then some (.lst (rngD a (b - a).toNat)) else none
  | _ => none
section
variable {X : Cx} {a b : Expr} {ma mb : ME} {p p2 pos pos2 : Pos}
def mLrg1 (ma : ME) : ME := fun e s => bnd (ma e s) fun d s => lft (lrgD [d]) s
def mLrg2 (ma mb : ME) : ME := fun e s => bnd (ma e s) fun d s => bnd (mb e s) fun d2 s => lft (lrgD [d, d2]) s
end
end Z

set_option Elab.async false
set_option linter.all false
set_option maxRecDepth 100000
set_option maxHeartbeats 4000000
namespace Z
open PySem PySem.Spec PyProof.Rows L2
/-! ### sorted(set(a list of ints)) -/
section
variable {P : Program} {w : World} {A : Around} {E : Value → Shared → Prop} {s : Shared}
end
def tSortSet (K : PySem.W.Frag) (ta : TE) : TE := fun σ H Q => ta σ H fun x H1 => ∃ (l : Addr) (ns : List Int), x = .ref l ∧ SqL K H1 l (ns.map V.int) ∧ ns.length < 64 ∧
  ∀ (out : List Int) (p : Addr), out.Pairwise (· < ·) → (∀ k, k ∈ out ↔ k ∈ ns) → H1 p = none → Q (.ref p) (upd H1 p (.lst (out.map V.int)))
/-! the law's own form -/
def insI (x : Int) : List Int → List Int
  | [] => [x]
  | y :: l => if x < y then x :: y :: l else if x = y then y :: l else y :: insI x l
def sdI (l : List Int) : List Int := l.foldr insI []
def sosD : List D → Option D
  | [.lst ds] => match intsD ds with
    | some ns => if ns.length < 64 then some (.lst ((sdI ns).map .int)) else none
    | none => none
  | _ => none
section
variable {X : Cx} {a : Expr} {ma : ME} {p p2 pos pos2 : Pos}
def mSos (ma : ME) : ME := fun e s => bnd (ma e s) fun d s => lft (sosD [d]) s
end
end Z

set_option Elab.async false
set_option linter.all false
set_option maxRecDepth 100000
set_option maxHeartbeats 4000000
namespace Z
open PySem PySem.Spec PyProof.Rows L2
/-! ### x[k] = v, x an owned list -/
section
variable {X : Cx} {a b : Expr} {m1 m2 : ME} {x : Str} {p apos pos : Pos} {i : Nat}
def sPutL (i : Nat) (m1 m2 : ME) : MS := fun e s => bndS (m2 e s) fun d s => bndS (m1 e s) fun kd s => match kd, e[i]? with
  | .int k, some (.own (.lst ds)) => match ixN ds.length k with
    | some j => some (.nx, e.set i (.own (.lst (ds.set j d))), s)
    | none => none
  | _, _ => none
end
/-! ### *range(n), *range(a, b) in a display or a call -/
section
variable {X : Cx} {a b e : Expr} {es : List Expr} {me m1 m2 : ME} {ma : MA} {ta : TA} {p p2 pos : Pos}
def tStarRg (te : L2.St → Hp → (Int → Int → Hp → Prop) → Prop) (t : TA) : TA := fun σ H Q => te σ H fun a b H1 => RgOk a b ∧ t σ H1 fun ys H2 => Q (rgV a b ++ ys) H2
def aStarR1 (m : ME) (ma : MA) : MA := fun e s => bnd (m e s) fun d s => match d with
  | .int n => if 0 ≤ n ∧ n ≤ 16000000 then bnd (ma e s) fun ds s => some (rngD 0 n.toNat ++ ds, s) else none
  | _ => none
def aStarR2 (m1 m2 : ME) (ma : MA) : MA := fun e s => bnd (m1 e s) fun c s => bnd (m2 e s) fun d s => match c, d with
  | .int i, .int j => if 0 ≤ i ∧ i ≤ 16000000 ∧ 0 ≤ j ∧ j ≤ 16000000 then bnd (ma e s) fun ds s => some (rngD i (j - i).toNat ++ ds, s) else none
  | _, _ => none
end
end Z

set_option Elab.async false
set_option linter.all false
set_option maxRecDepth 100000
set_option maxHeartbeats 4000000
namespace Z
open PySem PySem.Spec PyProof.Rows L2
/-! ### xs.index(b), truth values -/
def toBs : List D → Option (List Bool)
  | [] => some []
  | .bl b :: ds => (toBs ds).map (b :: ·)
  | _ => none
def indexB : D → D → Option D
  | .lst ds, .bl x => (toBs ds).bind fun ys => if x ∈ ys then some (.int (ys.findIdx fun y => decide (y = x) : Nat)) else none
  | _, _ => none
section
variable {X : Cx} {o a : Expr} {mo ma : ME} {apos pos : Pos}
end
end Z

set_option Elab.async false
set_option linter.all false
set_option maxRecDepth 100000
set_option maxHeartbeats 4000000
namespace Z
open PySem PySem.Spec PyProof.Rows L2
/-! ### sorted of a list or of a tuple -/
def sortedED (ds : List D) : Option D := match ds with
  | [.tup _] => sortedTD ds
  | _ => sortedD ds
end Z

set_option Elab.async false
set_option linter.all false
set_option maxRecDepth 100000
set_option maxHeartbeats 4000000
namespace Z
open PySem PySem.Spec PyProof.Rows L2
/-! ### a loop over a dict's keys, the dict a value in a slot -/
section
variable {K : PySem.W.Frag} {g g' : G} {H H' : Hp} {σ σ' : L2.St} {e e' : EnvD} {s s' : S} {a : Addr} {vs : List (Key × V)} {od : Obj}
structure ItK (K : PySem.W.Frag) (J : It) (g : G) (a : Addr) (w : HO) (ds : List D) : Prop where
  go : ∀ (g' : G) (H : Hp) (s : S) (i : Nat), SRel K g' H s → GLe g g' → H a = some w → i < ds.length → J.go i H
  stop : ∀ (g' : G) (H : Hp) (s : S), SRel K g' H s → GLe g g' → H a = some w → J.stop ds.length H
  yld : ∀ (g' : G) (H : Hp) (s : S) (i : Nat) (x : V) (H' : Hp) (d : D), SRel K g' H s → GLe g g' → H a = some w → ds[i]? = some d → J.yld i H x H' → ∃ g'', Step K g' H g'' H' s ∧ Rep K g'' x d
end
section
variable {X : Cx} {tg : Expr} {mg : MG} {mb : MS} {body : List Stmt} {pos p : Pos}
/-- for k in d: d a name -/
def sForK (i : Nat) (mg : MG) (mb : MS) : MS := fun e s => match e[i]? with
  | some (.val (.dic kvs)) => forL mg mb (kvs.map fun p => kVD p.1) e s
  | _ => none
end
end Z

set_option Elab.async false
set_option linter.all false
set_option maxRecDepth 100000
set_option maxHeartbeats 4000000
namespace Z
open PySem PySem.Spec PyProof.Rows L2
/-! ### a comprehension over a dict's keys, the dict a value in a slot -/
section
variable {K : PySem.W.Frag}
/-- [.. for k in d if ..]: d a name -/
def mLcK (i : Nat) (vs : List Nat) (mc : MC) (mt : MT) (me : ME) : ME := fun e s => match e[i]? with
  | some (.val (.dic kvs)) => bnd (lcL mc mt me (wipeE e vs) (kvs.map fun p => kVD p.1) s) fun ys s2 => if ys.length ≤ sizeLine then some (.lst ys, s2) else none
  | _ => none
end
section
variable {X : Cx} {elt tg : Expr} {ifs : List Expr} {scope : Scope} {own : List (Str × Nat)} {pos p : Pos} {mc : MC} {mt : MT} {me : ME} {t : TG} {vs : List Nat}
end
end Z
namespace Z
open PySem PySem.Spec PyProof.Rows L2
section
variable {X : Cx} {tg elt : Expr} {mg : MG} {mb : MS} {body : List Stmt} {pos p : Pos} {ifs : List Expr} {scope : Scope} {own : List (Str × Nat)} {mc : MC} {mt : MT} {me : ME} {t : TG} {vs : List Nat} {x : Str}
end
end Z

set_option Elab.async false
set_option linter.all false
set_option maxRecDepth 100000
set_option maxHeartbeats 4000000
namespace Z
open PySem PySem.Spec PyProof.Rows L2
/-! ### tuple(d.items()) -/
section
variable {prog : Program} {w : World} {A : Around} {E : Value → Shared → Prop} {s : Shared} {K : Type} [DecidableEq K] {knd : KeyKind prog w K} {kvs : List (K × Value)} {r d ep : Addr}
end
section
variable {X : Cx} {pins : List (Addr × Obj)} {σ : L2.St}
def tupleItemsD : D → Option D
  | .dic kvs => if kvs.length ≤ sizeLine then some (.tup (kvs.map fun p => .tup [kVD p.1, p.2])) else none
  | _ => none
variable {e : Expr} {me : ME} {p pos apos cpos : Pos}
end
end Z

set_option Elab.async false
set_option linter.all false
set_option maxRecDepth 100000
set_option maxHeartbeats 4000000
namespace Z
open PySem PySem.Spec PyProof.Rows L2
/-! ### max(d.values()) -/
section
variable {prog : Program} {w : World} {A : Around} {E : Value → Shared → Prop} {s : Shared} {K : Type} [DecidableEq K] {knd : KeyKind prog w K} {kvs : List (K × Value)} {r d ep : Addr} {ns : List Int}
end
section
def maxValsD : D → Option D
  | .dic kvs => match intsD (kvs.map fun p => p.2) with
    | some (n :: ns) => some (.int (mostI n ns))
    | _ => none
  | _ => none
variable {X : Cx} {e : Expr} {me : ME} {p pos apos cpos : Pos}
end
end Z

set_option Elab.async false
set_option linter.all false
set_option maxRecDepth 100000
set_option maxHeartbeats 4000000
namespace Z
open PySem PySem.Spec PyProof.Rows L2
/-! ### {**a, **b} -/
section
variable {prog : Program} {w : World} {A : Around} {E : Value → Shared → Prop} {s : Shared}
/-- a dict's parts -/
structure Parts (P : Program) (w : World) (h : Heap) (a : Addr) (o : Obj) (es : Array DictEntry) (ep : Nat) (xs : List (Key × Value)) : Prop where
  at_ : h.get? a = some o
  ex : o.ExactDict
  dat : o.data = .dict es ep
  ks : PySem.KeysOf (mixKind P w) es
  ps : Pairs (mixKind P w) es.toList xs
  nd : (xs.map (·.1)).Nodup
theorem Parts.dict {h : Heap} {a : Addr} {o : Obj} {es : Array DictEntry} {ep : Nat} {xs : List (Key × Value)} (p : Parts prog w h a o es ep xs) : h.DictOf (mixKind prog w) a xs := ⟨o, es, ep, p.at_, p.ex, p.dat, p.ks, p.ps, p.nd⟩
/-- one turn: the entry i of a put into d -/
def putTurn (d a : Addr) (ep i : Nat) (_ : PUnit) : Sem (ForInStep PUnit) := do
  match (← dictEntries a)[i]? with
  | some e =>
    holding [e.key, e.val] (dictPut d e.hash e.key e.val)
    if (← dictEpoch a) != ep then do
      (unsupported "dict.changed-during-merge" : Sem PUnit)
      pure (ForInStep.yield PUnit.unit)
    else pure (ForInStep.yield PUnit.unit)
  | _ => do
    (unsupported "dict.changed-during-merge" : Sem PUnit)
    pure (ForInStep.yield PUnit.unit)
end
section
variable {X : Cx} {K : PySem.W.Frag} {g g1 : G} {H H1 : Hp} {s1 : S} {p : Addr}
def mrgD : D → D → Option D
  | .dic xs, .dic ys => if xs.length + ys.length ≤ sizeLine then some (.dic (mergeD (xs ++ ys))) else none
  | _, _ => none
def mMrg (ma mb : ME) : ME := fun e s => bnd (ma e s) fun a s => bnd (mb e s) fun b s => lft (mrgD a b) s
end
end Z

set_option Elab.async false
set_option linter.all false
set_option maxRecDepth 100000
set_option maxHeartbeats 4000000
namespace Z
open PySem PySem.Spec PyProof.Rows L2
/-! ### a set of texts that can be walked -/
def txE (e : Int × Value) : Str := match e.2 with
  | .str x _ => x
  | _ => Str.ofString ""
def TxE (w : World) (e : Int × Value) : Prop := ∃ x t, e = (hashStr w x, Value.str x t)
/-- its entries, its table -/
structure TxTab (w : World) (es : Array (Int × Value)) (t : SetTable) (xs : List Str) : Prop where
  tx : ∀ e ∈ es.toList, TxE w e
  nd : (es.toList.map txE).Nodup
  mem : ∀ x, x ∈ es.toList.map txE ↔ x ∈ xs
  few : es.size < scanBound
  fit : t.fits es.size = true
  ris : Ris t.place.toList
  led : w.params.followText "set-order" = true ∨ t.led = true
def TxSet (w : World) (h : Heap) (a : Addr) (xs : List Str) : Prop := ∃ o es ep t, h.get? a = some o ∧ o.ExactSet ∧ o.data = .set es ep t ∧ TxTab w es t xs
section
variable {P : Program} {w : World} {A : Around} {E : Value → Shared → Prop} {s : Shared} {a : Addr} {xs : List Str}
theorem TxSet.move {h h' : Heap} (R : TxSet w h a xs) (k : ∀ o, h.get? a = some o → h'.get? a = some o) : TxSet w h' a xs :=
  let ⟨o, es, ep, t, ho, r⟩ := R
  ⟨o, es, ep, t, k o ho, r⟩
/-! ### set(xs) -/
/-- a new set, empty -/
def newSet (w : World) : Obj := { cls := .type "set", dict := none, data := .set #[] 0 (.fresh 0 0 (!w.params.followText "set-order")) }
end
end Z

set_option Elab.async false
set_option linter.all false
set_option maxRecDepth 100000
set_option maxHeartbeats 4000000
namespace Z
open PySem PySem.Spec PyProof.Rows L2
/-! ### sorted(set(texts)) -/
section
variable {P : Program} {w : World} {A : Around} {E : Value → Shared → Prop} {s : Shared}
end
def tSortTx (K : PySem.W.Frag) (ta : TE) : TE := fun σ H Q => ta σ H fun x H1 => ∃ (l : Addr) (xs : List Str), x = .ref l ∧ SqL K H1 l (xs.map V.str) ∧ xs.length < 64 ∧
  ∀ (ys : List Str) (p : Addr), ys.Nodup → (∀ x, x ∈ ys ↔ x ∈ xs) → sortedS ys = true → H1 p = none → Q (.ref p) (upd H1 p (.lst (ys.map V.str)))
/-! the law's own form -/
def addT (x : Str) (l : List Str) : List Str := if x ∈ l then l else x :: l
def dedT (l : List Str) : List Str := l.foldr addT []
def sosTD : List D → Option D
  | [.lst ds] => match strsD ds with
    | some xs => if xs.length < 64 then some (.lst (sortL ((dedT xs).map .str))) else none
    | none => none
  | _ => none
section
variable {X : Cx} {a : Expr} {ma : ME} {p p2 pos pos2 : Pos}
def mSosT (ma : ME) : ME := fun e s => bnd (ma e s) fun d s => lft (sosTD [d]) s
end
/-! ### sorted(set([one tuple of ints, many times])) -/
def sameT (k : List Int) : List D → Bool
  | [] => true
  | .tup es :: r => decide (intsD es = some k) && sameT k r
  | _ => false
def sosCD : List D → Option D
  | [.lst (.tup es :: r)] => match intsD es with
    | some (x :: k) => if (sameT (x :: k) r && ((x :: k).all fun i => decide (0 ≤ i ∧ i < 64)) && decide (r.length < 63)) = true then some (.lst [.tup ((x :: k).map .int)]) else none
    | _ => none
  | _ => none
section
variable {X : Cx} {a : Expr} {ma : ME} {p p2 pos pos2 : Pos}
def mSosC (ma : ME) : ME := fun e s => bnd (ma e s) fun d s => lft (sosCD [d]) s
end
/-! ### any of the three -/
def sosAD (ds : List D) : Option D := match sosD ds with
  | some d => some d
  | none => match sosTD ds with
    | some d => some d
    | none => sosCD ds
section
variable {X : Cx} {a : Expr} {ma : ME} {p p2 pos pos2 : Pos}
def mSosA (ma : ME) : ME := fun e s => bnd (ma e s) fun d s => lft (sosAD [d]) s
end
end Z

set_option Elab.async false
set_option linter.all false
set_option maxRecDepth 100000
set_option maxHeartbeats 4000000
namespace Z
open PySem PySem.Spec PyProof.Rows L2
/-! ### min of a list of tuples of ints: the objects compared stay -/
section
variable {P : Program} {w : World} {A : Around} {R : Result → Shared → Prop} {I S : Addr} {fp wr : List Addr} {n : Nat} {It Be : Nat → Value → Prop} {St : Nat → Heap → Prop} {OK : Heap → Prop}
/-- a turn's compare says who is ahead from now on -/
def Turn (P : Program) (w : World) (A : Around) (OK : Heap → Prop) (It Be : Nat → Value → Prop) : Prop :=
  ∀ (j : Nat) (v u : Value) (s : Shared), OK s.heap → It (j + 1) v → Be j u → ∃ b, (∀ (Q E : Value → Shared → Prop), Q (.bool b) s → wpAny (model P w) A (richCompare .Lt v u) Q E s) ∧ Be (j + 1) (if b = true then v else u)
end
section
variable {P : Program} {w : World} {A : Around} {E : Value → Shared → Prop} {s : Shared}
end
/-! the law's own form -/
def leastT : List Int → List (List Int) → List Int
  | a, [] => a
  | a, x :: xs => leastT (if HT.lexLt x a = true then x else a) xs
def tupIs : List D → Option (List (List Int))
  | [] => some []
  | .tup es :: r => match intsD es, tupIs r with
    | some k, some ks => some (k :: ks)
    | _, _ => none
  | _ => none
def minTD : List D → Option D
  | [.lst ds] => match tupIs ds with
    | some (k :: ks) => some (.tup ((leastT k ks).map .int))
    | _ => none
  | _ => none
end Z

set_option Elab.async false
set_option linter.all false
set_option maxRecDepth 100000
set_option maxHeartbeats 4000000
namespace Z
open PySem PySem.Spec PyProof.Rows L2
/-! ### y = [.. for k in d if ..]: d a name, y a list of one's own -/
section
variable {X : Cx} {tg elt : Expr} {pos p py spos : Pos} {ifs : List Expr} {scope : Scope} {own : List (Str × Nat)} {mc : MC} {mt : MT} {me : ME} {t : TG} {vs : List Nat} {x y : Str} {i : Nat}
end
end Z

set_option Elab.async false
set_option linter.all false
set_option maxRecDepth 100000
namespace Z
open PySem PySem.Spec PyProof.Rows L2
/-! ### plain lemmas about the mirrors, of no law -/
abbrev tpI (is : List Int) : List PyData := is.map PyData.int
abbrev tpS (xs : List Str) : List PyData := xs.map PyData.str
theorem flats_ints : ∀ is : List Int, flats (is.map D.int) = some (is.map V.int)
  | [] => rfl
  | i :: r => by simp [flats, toV0, flats_ints r]
theorem flats_strs : ∀ xs : List Str, flats (xs.map D.str) = some (xs.map V.str)
  | [] => rfl
  | i :: r => by simp [flats, toV0, flats_strs r]
theorem inV_int (i : Int) : ∀ is : List Int, inV (.int i) (is.map V.int) = decide (i ∈ is)
  | [] => rfl
  | j :: r => by
    have ih := inV_int i r
    have e : inV (.int i) ((j :: r).map V.int) = (j == i || inV (.int i) (r.map V.int)) := rfl
    rw [e, ih]
    by_cases h : j = i
    · subst h; simp
    · have h' : ¬ i = j := fun e => h e.symm
      simp [h, h']
theorem inV_str (x : Str) : ∀ xs : List Str, inV (.str x) (xs.map V.str) = decide (x ∈ xs)
  | [] => rfl
  | j :: r => by
    have ih := inV_str x r
    have e : inV (.str x) ((j :: r).map V.str) = (j == x || inV (.str x) (r.map V.str)) := rfl
    rw [e, ih]
    by_cases h : j = x
    · subst h; simp
    · have h' : ¬ x = j := fun e => h e.symm
      simp [h, h']
theorem inA_int (i : Int) (is : List Int) : inA (.int i) (.lst (is.map .int)) = some (decide (i ∈ is)) := by
  simp [inA, inB, toV0, flats_ints, inV_int]
theorem inA_str (x : Str) (xs : List Str) : inA (.str x) (.lst (xs.map .str)) = some (decide (x ∈ xs)) := by
  simp [inA, inB, toV0, flats_strs, inV_str]
/-- a comprehension whose parts change nothing of the state -/
theorem lc_pure {mc : MC} {mt : MT} {me : ME} {e : EnvD} {s : S} (env : D → EnvD) (p : D → Bool) (f : D → D) : ∀ (ds : List D), (∀ d ∈ ds, mc d e = some (env d) ∧ mt (env d) s = some (p d, s) ∧ (p d = true → me (env d) s = some (f d, s))) →
    lcL mc mt me e ds s = some ((ds.filter p).map f, s)
  | [], _ => rfl
  | d :: ds, h => by
    obtain ⟨h1, h2, h3⟩ := h d (by simp)
    have ih := lc_pure env p f ds fun d' hd => h d' (by simp [hd])
    unfold lcL
    rw [h1]
    dsimp only
    rw [h2]
    cases hp : p d with
    | false => simp [ih, hp]
    | true =>
      dsimp only
      rw [h3 hp]
      dsimp only
      rw [ih]
      simp [hp]
/-- a comprehension without a test whose element moves the state -/
theorem lc_inv {mc : MC} {me : ME} {e : EnvD} (I : Nat → S → Prop) (P : Nat → D → Prop) : ∀ (ds : List D) (i : Nat) (s : S), I i s →
    (∀ j s d, ds[j]? = some d → I (i + j) s → ∃ e1 r s', mc d e = some e1 ∧ me e1 s = some (r, s') ∧ P (i + j) r ∧ I (i + j + 1) s') →
    ∃ ys s', lcL mc yesT me e ds s = some (ys, s') ∧ I (i + ds.length) s' ∧ ys.length = ds.length ∧ ∀ j y, ys[j]? = some y → P (i + j) y
  | [], i, s, h, _ => ⟨[], s, rfl, h, rfl, fun j y h => by simp at h⟩
  | d :: ds, i, s, h, st => by
    obtain ⟨e1, r, s1, h1, h2, h3, h4⟩ := st 0 s d rfl h
    obtain ⟨ys, s', h5, h6, h7, h8⟩ := lc_inv I P ds (i + 1) s1 h4 fun j s d hd hI => by
      have := st (j + 1) s d (by simpa using hd) (by rw [show i + (j + 1) = i + 1 + j by omega]; exact hI)
      rw [show i + (j + 1) + 1 = i + 1 + j + 1 by omega, show i + (j + 1) = i + 1 + j by omega] at this
      exact this
    refine ⟨r :: ys, s', ?_, by rw [show i + (d :: ds).length = i + 1 + ds.length by simp; omega]; exact h6, by simp [h7], fun j y hy => ?_⟩
    · simp only [lcL, h1, yesT, h2, h5]
    · cases j with
      | zero => simp at hy; subst hy; exact h3
      | succ j => rw [show i + (j + 1) = i + 1 + j by omega]; exact h8 j y (by simpa using hy)
theorem rng_at {n j : Nat} {d : D} (h : (rngD 0 n)[j]? = some d) : j < n ∧ d = .int j := by
  have hj := (List.getElem?_eq_some_iff.mp h).1
  have hj : j < n := by simpa [rngD] using hj
  refine ⟨hj, ?_⟩
  simp [rngD, hj] at h
  exact h.symm
section
variable {m1 m2 : MS} {mi : MI} {mg : MG} {mb : MS} {e e1 : EnvD} {s s1 s' : S} {r : Option (Fl × EnvD × S)} {ds : List D} {d : D} {n m : Nat} {b : MS}
end
end Z

set_option Elab.async false
set_option linter.all false
set_option maxRecDepth 100000
namespace Z
open PySem PySem.Spec PyProof.Rows L2
/-! ### runs of mirrors, backwards -/
def On1 {α : Type} (o : Option α) (Q : α → Prop) : Prop := ∃ a, o = some a ∧ Q a
def On {α : Type} (o : Option (α × S)) (Q : α → S → Prop) : Prop := ∃ a s, o = some (a, s) ∧ Q a s
def OnS (o : Option (Fl × EnvD × S)) (N : EnvD → S → Prop) (Rt : D → S → Prop) (B C : EnvD → S → Prop) (T : D → S → Prop) : Prop :=
  ∃ f e s, o = some (f, e, s) ∧ match f with
    | .nx => N e s
    | .ret d => Rt d s
    | .bk => B e s
    | .ct => C e s
    | .rto d => T d s
section
variable {α β : Type} {Q : α → S → Prop} {e e1 e2 : EnvD} {s s1 s2 : S} {d d1 d2 : D} {i n m : Nat} {ds es : List D}
theorem on1_some {a : α} {Q : α → Prop} {o : Option α} (h : o = some a) (q : Q a) : On1 o Q := ⟨a, h, q⟩
theorem on_some {a : α} {o : Option (α × S)} (h : o = some (a, s)) (q : Q a s) : On o Q := ⟨a, s, h, q⟩
theorem On1.mono {Q Q' : α → Prop} {o : Option α} (h : On1 o Q) (k : ∀ a, Q a → Q' a) : On1 o Q' := let ⟨a, h1, h2⟩ := h; ⟨a, h1, k a h2⟩
theorem On.mono {Q' : α → S → Prop} {o : Option (α × S)} (h : On o Q) (k : ∀ a s, Q a s → Q' a s) : On o Q' := let ⟨a, s, h1, h2⟩ := h; ⟨a, s, h1, k a s h2⟩
theorem OnS.mono {o : Option (Fl × EnvD × S)} {N N' B B' C C' : EnvD → S → Prop} {Rt Rt' T T' : D → S → Prop} (h : OnS o N Rt B C T) (kn : ∀ e s, N e s → N' e s) (kr : ∀ d s, Rt d s → Rt' d s) (kb : ∀ e s, B e s → B' e s) (kc : ∀ e s, C e s → C' e s) (kt : ∀ d s, T d s → T' d s) : OnS o N' Rt' B' C' T' := by
  obtain ⟨f, e, s, h1, h2⟩ := h
  refine ⟨f, e, s, h1, ?_⟩
  cases f with
  | nx => exact kn _ _ h2
  | ret d => exact kr _ _ h2
  | bk => exact kb _ _ h2
  | ct => exact kc _ _ h2
  | rto d => exact kt _ _ h2
theorem on_cut {α : Type} {o : Option (α × S)} {Q : α → S → Prop} (h : ∀ P : α → S → Prop, P = Q → On o P) : On o Q := h Q rfl
theorem cut_end {α : Type} {P Q : α → S → Prop} {a : α} {s : S} (h : P = Q) (q : Q a s) : P a s := h ▸ q
theorem eq_of_on {a : α} {o : Option (α × S)} (h : On o fun x s1 => x = a ∧ s1 = s) : o = some (a, s) := by
  obtain ⟨x, s1, h1, rfl, rfl⟩ := h; exact h1
theorem eq_of_on1 {a : α} {o : Option α} (h : On1 o fun x => x = a) : o = some a := by
  obtain ⟨x, h1, rfl⟩ := h; exact h1
theorem on_bnd {o : Option (β × S)} {f : β → S → Option (α × S)} (h : On o fun b s => On (f b s) Q) : On (bnd o f) Q := by
  obtain ⟨b, s1, h1, h2⟩ := h
  unfold bnd
  rw [h1]
  exact h2
theorem on_lft {o : Option α} (h : On1 o fun a => Q a s) : On (lft o s) Q := by
  obtain ⟨a, h1, h2⟩ := h
  exact ⟨a, s, by unfold lft; rw [h1], h2⟩
/-! expressions -/
section
variable {Q : D → S → Prop} {f : D → D → Option D} {ma mb mm : ME} {mA : MA} {mt ta tb : MT}
theorem wp_var (h : e[i]? = some (.val d)) (q : Q d s) : On (mVar i e s) Q := ⟨d, s, by unfold mVar; rw [h], q⟩
theorem wp_c (q : Q d s) : On (mC d e s) Q := ⟨d, s, rfl, q⟩
theorem wp_op (h : On (ma e s) fun a s1 => On (mb e s1) fun b s2 => On1 (f a b) fun d => Q d s2) : On (mOp f ma mb e s) Q := on_bnd (h.mono fun _ _ h => on_bnd (h.mono fun _ _ h => on_lft h))
theorem wp_opM {f : D → D → S → Option (D × S)} (h : On (ma e s) fun a s1 => On (mb e s1) fun b s2 => On (f a b s2) Q) : On (mOpM f ma mb e s) Q := on_bnd (h.mono fun _ _ h => on_bnd (h.mono fun _ _ h => h))
theorem wp_un {f : D → Option D} (h : On (ma e s) fun a s1 => On1 (f a) fun d => Q d s1) : On (mUn f ma e s) Q := on_bnd (h.mono fun _ _ h => on_lft h)
theorem wp_call {f : List D → Option D} (h : On (mA e s) fun a s1 => On1 (f a) fun d => Q d s1) : On (mCall f mA e s) Q := on_bnd (h.mono fun _ _ h => on_lft h)
theorem wp_callD {md : MD} (h : On (mA e s) fun a s1 => On (md a s1) Q) : On (mCallD md mA e s) Q := on_bnd h
theorem wp_lft {o : Option D} (h : On1 o fun a => Q a s) : On (lft o s) Q := on_lft h
theorem wp_chain {f' : D → D → Option D} {mc : ME} (h : On (ma e s) fun a s1 => On (mb e s1) fun b s2 => On1 (f a b) fun k => (k = .bl true ∧ On (mc e s2) fun c s3 => On1 (f' b c) fun d => Q d s3) ∨ (k = .bl false ∧ Q (.bl false) s2)) : On (mChain f f' ma mb mc e s) Q := by
  obtain ⟨a, s1, h1, b, s2, h2, k, h3, h4⟩ := h
  unfold mChain bnd lft
  rw [h1]; dsimp only
  rw [h2]; dsimp only
  rw [h3]; dsimp only
  rcases h4 with ⟨rfl, h4⟩ | ⟨rfl, h4⟩
  · obtain ⟨c, s3, h5, d, h6, h7⟩ := h4
    refine ⟨d, s3, ?_, h7⟩
    dsimp only
    rw [h5]; dsimp only
    rw [h6]
  · exact ⟨_, _, rfl, h4⟩
theorem wp_if {mt : MT} (h : On (mt e s) fun k s1 => (k = true → On (ma e s1) Q) ∧ (k = false → On (mb e s1) Q)) : On (mIf mt ma mb e s) Q := by
  refine on_bnd (h.mono fun k s1 h => ?_)
  cases k with
  | true => exact h.1 rfl
  | false => exact h.2 rfl
theorem wp_and (h : On (ma e s) fun a s1 => On1 (truD a) fun k => (k = true → On (mb e s1) Q) ∧ (k = false → Q a s1)) : On (mAnd ma mb e s) Q := by
  refine on_bnd (h.mono fun a s1 h => ?_)
  obtain ⟨k, h1, h2⟩ := h
  rw [h1]
  cases k with
  | true => exact h2.1 rfl
  | false => exact ⟨_, _, rfl, h2.2 rfl⟩
theorem wp_or (h : On (ma e s) fun a s1 => On1 (truD a) fun k => (k = true → Q a s1) ∧ (k = false → On (mb e s1) Q)) : On (mOr ma mb e s) Q := by
  refine on_bnd (h.mono fun a s1 h => ?_)
  obtain ⟨k, h1, h2⟩ := h
  rw [h1]
  cases k with
  | true => exact ⟨_, _, rfl, h2.1 rfl⟩
  | false => exact h2.2 rfl
theorem wp_tup (h : On (mA e s) fun ds s1 => ds.length ≤ sizeLine ∧ Q (.tup ds) s1) : On (mTup mA e s) Q := on_bnd (h.mono fun ds s1 h => ⟨_, _, if_pos h.1, h.2⟩)
theorem wp_lst (h : On (mA e s) fun ds s1 => ds.length ≤ sizeLine ∧ Q (.lst ds) s1) : On (mLst mA e s) Q := on_bnd (h.mono fun ds s1 h => ⟨_, _, if_pos h.1, h.2⟩)
theorem wp_bor (h : On (ma (frzE i e) s) fun d s1 => noL d = true ∧ s1.all noC = true ∧ Q d s1) : On (mBor i ma e s) Q := by
  refine on_bnd (h.mono fun d s1 h => ⟨d, s1, ?_, h.2.2⟩)
  rw [h.1, h.2.1]; rfl
theorem wp_fbor (h : On (ma (frzE i e) s) fun d s1 => noC d = true ∧ s1.all noC = true ∧ Q d s1) : On (fBor i ma e s) Q := by
  refine on_bnd (h.mono fun d s1 h => ⟨d, s1, ?_, h.2.2⟩)
  rw [h.1, h.2.1]; rfl
theorem wp_fld {c f : Str} (h : On (ma e s) fun x s1 => ∃ fs, x = .obj c fs ∧ On1 (lookF fs f) fun d => Q d s1) : On (mFld c f ma e s) Q := by
  refine on_bnd (h.mono fun x s1 h => ?_)
  obtain ⟨fs, rfl, d, h1, h2⟩ := h
  exact ⟨d, s1, by simp [h1, lft], h2⟩
theorem wp_cel (h : On (ma e s) fun d s1 => Q (.cel s1.length) (s1 ++ [d])) : On (mCel ma e s) Q := on_bnd (h.mono fun d s1 h => ⟨_, _, rfl, h⟩)
end
/-! arguments -/
section
variable {Q : List D → S → Prop} {mm : ME} {mA : MA}
theorem wp_anil (q : Q [] s) : On (aNil e s) Q := ⟨_, _, rfl, q⟩
theorem wp_none (q : Q [] s) : On (mNone e s) Q := ⟨_, _, rfl, q⟩
theorem wp_acons (h : On (mm e s) fun d s1 => On (mA e s1) fun ds s2 => Q (d :: ds) s2) : On (aCons mm mA e s) Q := on_bnd (h.mono fun _ _ h => on_bnd (h.mono fun _ _ h => ⟨_, _, rfl, h⟩))
theorem wp_astar (h : On (mm e s) fun d s1 => On1 (itemsD d) fun xs => On (mA e s1) fun ds s2 => Q (xs ++ ds) s2) : On (aStar mm mA e s) Q := on_bnd (h.mono fun _ _ h => on_bnd (on_lft (h.mono fun _ h => on_bnd (h.mono fun _ _ h => ⟨_, _, rfl, h⟩))))
/-! iterables -/
theorem wp_seq' (h : On (mm e s) fun d s1 => (∃ xs, d = .lst xs ∧ Q xs s1) ∨ (∃ xs, d = .tup xs ∧ Q xs s1) ∨ (∃ x, d = .str x ∧ Q (chD x) s1)) : On (seqI mm e s) Q := by
  refine on_bnd (h.mono fun d s1 h => ?_)
  rcases h with ⟨xs, rfl, h⟩ | ⟨xs, rfl, h⟩ | ⟨xs, rfl, h⟩ <;> exact ⟨_, _, rfl, h⟩
theorem wp_rng (h : On (mA e s) fun ds s1 => ∃ q : Int, ds = [.int q] ∧ 0 ≤ q ∧ q < 4611686018427387904 ∧ Q (rngD 0 q.toNat) s1) : On (rngI mA e s) Q := by
  refine on_bnd (h.mono fun d s1 h => ?_)
  obtain ⟨q, rfl, h0, h1, h⟩ := h
  have c : -(2 ^ 62) ≤ q ∧ q < 2 ^ 62 := by omega
  refine ⟨_, _, ?_, h⟩
  simp only [c, and_self, if_true]
theorem wp_enum (h : On (mA e s) fun ds s1 => ∃ xs, (ds = [.lst xs] ∨ ds = [.tup xs]) ∧ Q (enumD xs) s1) : On (enum2I mA e s) Q := by
  refine on_bnd (h.mono fun d s1 h => ?_)
  obtain ⟨xs, rfl | rfl, h⟩ := h <;> exact ⟨_, _, rfl, h⟩
theorem wp_zip (h : On (mA e s) fun ds s1 => ∃ xs ys, (ds = [.lst xs, .lst ys] ∨ ds = [.tup xs, .tup ys]) ∧ Q (zipD xs ys) s1) : On (zipI mA e s) Q := by
  refine on_bnd (h.mono fun d s1 h => ?_)
  obtain ⟨xs, ys, rfl | rfl, h⟩ := h <;> exact ⟨_, _, rfl, h⟩
end
/-! tests -/
section
variable {Q : Bool → S → Prop} {mm : ME} {ta tb : MT}
theorem wp_t (h : On (mm e s) fun d s1 => On1 (truD d) fun k => Q k s1) : On (mT mm e s) Q := on_bnd (h.mono fun _ _ h => on_lft h)
theorem wp_tand (h : On (ta e s) fun k s1 => (k = true → On (tb e s1) Q) ∧ (k = false → Q false s1)) : On (tAndZ ta tb e s) Q := by
  refine on_bnd (h.mono fun k s1 h => ?_)
  cases k with
  | true => exact h.1 rfl
  | false => exact ⟨_, _, rfl, h.2 rfl⟩
theorem wp_tor (h : On (ta e s) fun k s1 => (k = true → Q true s1) ∧ (k = false → On (tb e s1) Q)) : On (tOrZ ta tb e s) Q := by
  refine on_bnd (h.mono fun k s1 h => ?_)
  cases k with
  | true => exact ⟨_, _, rfl, h.1 rfl⟩
  | false => exact h.2 rfl
theorem wp_tnot (h : On (ta e s) fun k s1 => Q (!k) s1) : On (tNotZ ta e s) Q := on_bnd (h.mono fun _ _ h => ⟨_, _, rfl, h⟩)
theorem wp_tbor (h : On (ta (frzE i e) s) fun k s1 => s1.all noC = true ∧ Q k s1) : On (tBor i ta e s) Q := by
  refine on_bnd (h.mono fun d s1 h => ⟨d, s1, ?_, h.2⟩)
  rw [h.1]
theorem wp_yes (q : Q true s) : On (yesT e s) Q := ⟨_, _, rfl, q⟩
end
/-! optional bounds -/
section
variable {Q : Option Int → S → Prop} {Q' : D → S → Prop} {mm : ME} {ml mh : MO} {f : D → Option Int → Option Int → Option D}
theorem wp_onone (q : Q none s) : On (oNone e s) Q := ⟨_, _, rfl, q⟩
theorem wp_osome (h : On (mm e s) fun d s1 => ∃ i, d = .int i ∧ -4611686018427387904 ≤ i ∧ i < 4611686018427387904 ∧ Q (some i) s1) : On (oSome mm e s) Q := by
  refine on_bnd (h.mono fun d s1 h => ?_)
  obtain ⟨i, rfl, h1, h2, h⟩ := h
  refine ⟨_, _, ?_, h⟩
  simp only [show -(2 ^ 62) ≤ i ∧ i < 2 ^ 62 by omega, and_self, if_true]
theorem wp_sl (h : On (mm e s) fun d s1 => On (ml e s1) fun lo s2 => On (mh e s2) fun hi s3 => On1 (f d lo hi) fun r => Q' r s3) : On (mSl f mm ml mh e s) Q' := on_bnd (h.mono fun _ _ h => on_bnd (h.mono fun _ _ h => on_bnd (h.mono fun _ _ h => on_lft h)))
end
/-! targets -/
section
variable {Q : EnvD → S → Prop} {mg : MG} {ms : MGs}
theorem wp_gnm (q : Q (e.set i (.val d)) s) : On (gNm i d e s) Q := ⟨_, _, rfl, q⟩
theorem wp_gseqT (h : On (ms ds e s) Q) : On (gSeq ms (.tup ds) e s) Q := h
theorem wp_gseqL (h : On (ms ds e s) Q) : On (gSeq ms (.lst ds) e s) Q := h
theorem wp_gsnil (q : Q e s) : On (gsNil [] e s) Q := ⟨_, _, rfl, q⟩
theorem wp_gscons (h : On (mg d e s) fun e1 s1 => On (ms ds e1 s1) Q) : On (gsCons mg ms (d :: ds) e s) Q := by
  obtain ⟨e1, s1, h1, h2⟩ := h
  unfold gsCons
  show On (match mg d e s with
    | some (e', s') => ms ds e' s'
    | none => none) Q
  rw [h1]
  exact h2
end
section
variable {Q : List Sl → S → Prop} {mm : ME} {mx : MX}
theorem wp_xnil (q : Q [] s) : On (xNil e s) Q := ⟨_, _, rfl, q⟩
theorem wp_xval (h : On (mm e s) fun d s1 => On (mx e s1) fun ds s2 => Q (.val d :: ds) s2) : On (xVal mm mx e s) Q := on_bnd (h.mono fun _ _ h => on_bnd (h.mono fun _ _ h => ⟨_, _, rfl, h⟩))
theorem wp_xown (h : On (mm e s) fun d s1 => On (mx e s1) fun ds s2 => Q (.own d :: ds) s2) : On (xOwn mm mx e s) Q := on_bnd (h.mono fun _ _ h => on_bnd (h.mono fun _ _ h => ⟨_, _, rfl, h⟩))
end
/-! statements -/
section
variable {N B C : EnvD → S → Prop} {Rt T : D → S → Prop} {a b : MS} {mm : ME} {mt : MT} {mi : MI} {mg : MG}
theorem ons_bndS {β : Type} {o : Option (β × S)} {f : β → S → Option (Fl × EnvD × S)} (h : On o fun b s => OnS (f b s) N Rt B C T) : OnS (bndS o f) N Rt B C T := by
  obtain ⟨b, s1, h1, h2⟩ := h
  unfold bndS
  rw [h1]
  exact h2
theorem wp_nil (q : N e s) : OnS (sNil e s) N Rt B C T := ⟨_, _, _, rfl, q⟩
theorem wp_seq (h : OnS (a e s) (fun e1 s1 => OnS (b e1 s1) N Rt B C T) Rt B C T) : OnS (sSeq a b e s) N Rt B C T := by
  obtain ⟨f, e1, s1, h1, h2⟩ := h
  unfold sSeq
  rw [h1]
  cases f with
  | nx => exact h2
  | _ => exact ⟨_, _, _, rfl, h2⟩
theorem wp_expr (h : On (mm e s) fun _ s1 => N e s1) : OnS (sExpr mm e s) N Rt B C T := ons_bndS (h.mono fun _ _ h => ⟨_, _, _, rfl, h⟩)
theorem wp_ret (h : On (mm e s) Rt) : OnS (sRet mm e s) N Rt B C T := ons_bndS (h.mono fun _ _ h => ⟨_, _, _, rfl, h⟩)
theorem wp_rto (h : On (mm e s) T) : OnS (sRto mm e s) N Rt B C T := ons_bndS (h.mono fun _ _ h => ⟨_, _, _, rfl, h⟩)
theorem wp_retn (h : Rt .non s) : OnS (sRetN e s) N Rt B C T := ⟨_, _, _, rfl, h⟩
theorem wp_sif (h : On (mt e s) fun k s1 => (k = true → OnS (a e s1) N Rt B C T) ∧ (k = false → OnS (b e s1) N Rt B C T)) : OnS (sIf mt a b e s) N Rt B C T := by
  refine ons_bndS (h.mono fun k s1 h => ?_)
  cases k with
  | true => exact h.1 rfl
  | false => exact h.2 rfl
theorem wp_set (h : On (mm e s) fun d s1 => N (e.set i (.val d)) s1) : OnS (sSet i mm e s) N Rt B C T := ons_bndS (h.mono fun _ _ h => ⟨_, _, _, rfl, h⟩)
theorem wp_own (h : On (mm e s) fun d s1 => N (e.set i (.own d)) s1) : OnS (sOwn i mm e s) N Rt B C T := ons_bndS (h.mono fun _ _ h => ⟨_, _, _, rfl, h⟩)
theorem wp_frz (h : OnS (a (frzE i e) s) N Rt B C T) : OnS (sFrz i a e s) N Rt B C T := h
theorem wp_app (hi : e[i]? = some (.own (.lst ds))) (h : On (mm e s) fun d s1 => ds.length < sizeLine ∧ N (e.set i (.own (.lst (ds ++ [d])))) s1) : OnS (sApp i mm e s) N Rt B C T := by
  refine ons_bndS (h.mono fun d s1 h => ⟨.nx, _, s1, ?_, h.2⟩)
  rw [hi]
  show (if ds.length < sizeLine then some (Fl.nx, List.set e i (Sl.own (D.lst (ds ++ [d]))), s1) else none) = _
  rw [if_pos h.1]
theorem wp_for (h : On (mi e s) fun ds s1 => OnS (forL mg a ds e s1) N Rt B C T) : OnS (sFor mi mg a e s) N Rt B C T := ons_bndS h
theorem wp_brk (q : B e s) : OnS (sBrk e s) N Rt B C T := ⟨_, _, _, rfl, q⟩
theorem wp_cont (q : C e s) : OnS (sCont e s) N Rt B C T := ⟨_, _, _, rfl, q⟩
theorem wp_asg (h : On (mm e s) fun d s1 => On (mg d e s1) N) : OnS (sAsg mg mm e s) N Rt B C T := by
  refine ons_bndS (h.mono fun d s1 h => ?_)
  obtain ⟨e1, s2, h1, h2⟩ := h
  rw [h1]
  exact ⟨_, _, _, rfl, h2⟩
theorem wp_par {is : List Nat} {mx : MX} (h : On (mx e s) fun sl s1 => sl.length = is.length ∧ N (setX is sl e) s1) : OnS (sPar is mx e s) N Rt B C T := by
  refine ons_bndS (h.mono fun d s1 h => ?_)
  rw [if_pos h.1]
  exact ⟨_, _, _, rfl, h.2⟩
end
section
variable {Q : D → S → Prop} {b : MS} {bN : MN}
theorem wp_mkD (hl : ds.length = n) (h : OnS (b (startE n m ds) s) (fun _ s1 => Q .non s1) Q (fun _ _ => False) (fun _ _ => False) (fun _ _ => False)) : On (mkD n m b ds s) Q := by
  obtain ⟨f, e1, s1, h1, h2⟩ := h
  unfold mkD
  rw [if_pos hl, h1]
  cases f with
  | nx => exact ⟨_, _, rfl, h2⟩
  | ret d => exact ⟨_, _, rfl, h2⟩
  | _ => exact h2.elim
theorem wp_mkF (hl : ds.length = n) (h : OnS (b (startE n m ds) s) (fun _ _ => False) (fun _ _ => False) (fun _ _ => False) (fun _ _ => False) Q) : On (mkF n m b ds s) Q := by
  obtain ⟨f, e1, s1, h1, h2⟩ := h
  unfold mkF
  rw [if_pos hl, h1]
  cases f with
  | rto d => exact ⟨_, _, rfl, h2⟩
  | _ => exact h2.elim
theorem wp_make {c : Str} {mi : MI0} (h : On (mi ds s) fun fs s1 => Q (.obj c fs) s1) : On (mdMake c mi ds s) Q := by
  obtain ⟨fs, s1, h1, h2⟩ := h
  unfold mdMake
  rw [h1]
  exact ⟨_, _, rfl, h2⟩
theorem wp_pick {ix : List Nat} {md : MD} (h : On (md (pick ix ds) s) Q) : On (mdPick ix md ds s) Q := h
theorem wp_cls {c : Str} {md : MD} {mA : MA} (he : e[i]? = some (.val (.ty c))) (h : On (mA e s) fun ds s1 => On (md ds s1) Q) : On (mCls c i md mA e s) Q := by
  unfold mCls
  rw [he]
  dsimp only
  rw [if_pos rfl]
  exact on_bnd h
theorem wp_cm {c : Str} {md : MD} {mo : ME} {mA : MA} (h : On (mo e s) fun x s1 => x = .ty c ∧ On (mA e s1) fun ds s2 => On (md (.ty c :: ds) s2) Q) : On (mCm c md mo mA e s) Q := by
  refine on_bnd (h.mono fun x s1 h => ?_)
  obtain ⟨rfl, h⟩ := h
  dsimp only
  rw [if_pos rfl]
  exact on_bnd h
theorem wp_prop {c : Str} {md : MD} {mo : ME} (h : On (mo e s) fun x s1 => ∃ fs, x = .obj c fs ∧ On (md [x] s1) Q) : On (mProp c md mo e s) Q := by
  refine on_bnd (h.mono fun x s1 h => ?_)
  obtain ⟨fs, rfl, h⟩ := h
  simpa using h
theorem wp_ownD {c : Str} {md : MD} {ok : D → Bool} {fs : List (Str × D)} (h : On (md [.obj c fs] s) fun r s1 => ok r = true ∧ Q r s1) : On (ownD c md ok [.obj c fs] s) Q := by
  obtain ⟨r, s1, h1, h2, h3⟩ := h
  unfold ownD
  have : ofC c (.obj c fs) = true := by simp [ofC]
  simp only [this, h1, h2, if_true]
  exact ⟨_, _, rfl, h3⟩
theorem wp_ownSub {c : Str} {md : MD} {fs : List (Str × D)} (h : On (md [.obj c fs, d] s) Q) : On (ownSub c md (.obj c fs) d s) Q := by
  unfold ownSub
  have : ofC c (.obj c fs) = true := by simp [ofC]
  simpa only [this] using h
theorem wp_ownIn {c : Str} {md : MD} {fs : List (Str × D)} (h : On (md [.obj c fs, d] s) fun r s1 => ∃ k, r = .bl k ∧ Q (.bl k) s1) : On (ownIn c md d (.obj c fs) s) Q := by
  obtain ⟨r, s1, h1, k, rfl, h2⟩ := h
  unfold ownIn
  have : ofC c (.obj c fs) = true := by simp [ofC]
  simp only [this, h1]
  exact ⟨_, _, rfl, h2⟩
theorem wp_ownNotIn {c : Str} {md : MD} {fs : List (Str × D)} (h : On (md [.obj c fs, d] s) fun r s1 => ∃ k, r = .bl k ∧ Q (.bl (!k)) s1) : On (ownNotIn c md d (.obj c fs) s) Q := by
  obtain ⟨r, s1, h1, k, rfl, h2⟩ := h
  unfold ownNotIn
  have : ofC c (.obj c fs) = true := by simp [ofC]
  simp only [this, h1]
  exact ⟨_, _, rfl, h2⟩
end
end
end Z
namespace Z
open PySem PySem.Spec PyProof.Rows L2
section
variable {Q : D → Prop} {Q1 : D → S → Prop} {A B : Prop} {s : S} {i j k : Int} {e : EnvD} {ds es : List D} {n : Nat} {d : D}
theorem wp_lc {vs : List Nat} {mi : MI} {mc : MC} {mt : MT} {me : ME} (h : On (mi e s) fun ds s1 => On (lcL mc mt me (wipeE e vs) ds s1) fun ys s2 => ys.length ≤ sizeLine ∧ Q1 (.lst ys) s2) : On (mLc vs mi mc mt me e s) Q1 :=
  on_bnd (h.mono fun _ _ h => on_bnd (h.mono fun _ _ h => ⟨_, _, if_pos h.1, h.2⟩))
theorem wp_lc2 {vs vs1 : List Nat} {mi mi1 : MI} {mc mc1 : MC} {mt mt1 : MT} {me : ME} (h : On (mi e s) fun ds s1 => On (lcL2 mc mt mi1 vs1 mc1 mt1 me (wipeE e vs) ds s1) fun ys s2 => ys.length ≤ sizeLine ∧ Q1 (.lst ys) s2) : On (mLc2 vs mi mc mt mi1 vs1 mc1 mt1 me e s) Q1 :=
  on_bnd (h.mono fun _ _ h => on_bnd (h.mono fun _ _ h => ⟨_, _, if_pos h.1, h.2⟩))
theorem wp_dc {vs : List Nat} {mi : MI} {mc : MC} {mt : MT} {mk mv : ME} (h : On (mi e s) fun ds s1 => On (dcL mc mt mk mv (wipeE e vs) ds [] s1) fun ys s2 => Q1 (.dic ys) s2) : On (mDc vs mi mc mt mk mv e s) Q1 :=
  on_bnd (h.mono fun _ _ h => on_bnd (h.mono fun _ _ h => ⟨_, _, rfl, h⟩))
theorem wp_dc2 {vs vs1 : List Nat} {mi mi1 : MI} {mc mc1 : MC} {mt mt1 : MT} {mk mv : ME} (h : On (mi e s) fun ds s1 => On (dcL2 mc mt mi1 vs1 mc1 mt1 mk mv (wipeE e vs) ds [] s1) fun ys s2 => Q1 (.dic ys) s2) : On (mDc2 vs mi mc mt mi1 vs1 mc1 mt1 mk mv e s) Q1 :=
  on_bnd (h.mono fun _ _ h => on_bnd (h.mono fun _ _ h => ⟨_, _, rfl, h⟩))
theorem wp_mul (h : CMulZ i j) (q : Q (.int (i * j))) : On1 (mulD (.int i) (.int j)) Q := ⟨_, by unfold mulD; exact if_pos h, q⟩
theorem wp_mod (h : 0 < j) (q : Q (.int (i % j))) : On1 (modD (.int i) (.int j)) Q := ⟨_, by unfold modD; exact if_pos h, q⟩
theorem wp_fdiv (h : 0 < j) (h2 : j.natAbs.log2 < 9000) (q : Q (.int (i / j))) : On1 (fdivD (.int i) (.int j)) Q := ⟨_, by unfold fdivD; exact if_pos ⟨h, h2⟩, q⟩
theorem wp_eqI (q : Q (.bl (decide (i = j)))) : On1 (eqD (.int i) (.int j)) Q := ⟨_, by simp [eqD, eqB, toV0, scal], q⟩
theorem wp_neI (q : Q (.bl (!decide (i = j)))) : On1 (neD (.int i) (.int j)) Q := ⟨_, by simp [neD, eqB, toV0, scal], q⟩
theorem wp_eqS {x y : Str} (q : Q (.bl (decide (x = y)))) : On1 (eqD (.str x) (.str y)) Q := ⟨_, by simp [eqD, eqB, toV0, scal], q⟩
theorem wp_neS {x y : Str} (q : Q (.bl (!decide (x = y)))) : On1 (neD (.str x) (.str y)) Q := ⟨_, by simp [neD, eqB, toV0, scal], q⟩
theorem wp_addL (h : ds.length + es.length ≤ 1000) (q : Q (.lst (ds ++ es))) : On1 (addAll (.lst ds) (.lst es)) Q := by
  have q1 : ds.length + es.length ≤ sizeLine := by rw [sizeLine_eq]; omega
  exact ⟨_, by simp [addAll, addD, catD, q1], q⟩
theorem wp_catL (h : ds.length + es.length ≤ 1000) (q : Q (.lst (ds ++ es))) : On1 (catD (.lst ds) (.lst es)) Q := by
  have q1 : ds.length + es.length ≤ sizeLine := by rw [sizeLine_eq]; omega
  exact ⟨_, by simp [catD, q1], q⟩
theorem wp_addS {x y : Str} (h : x.length + y.length ≤ 16777216) (q : Q (.str (x ++ y))) : On1 (addD (.str x) (.str y)) Q := by
  have q1 : x.length + y.length ≤ sizeLine := by rw [sizeLine_eq]; omega
  exact ⟨_, by simp [addD, q1], q⟩
theorem wp_brT (a : A) : (true = true → A) ∧ (true = false → B) := ⟨fun _ => a, fun h => nomatch h⟩
theorem wp_brF (b : B) : (false = true → A) ∧ (false = false → B) := ⟨(fun h => nomatch h), fun _ => b⟩
theorem wp_brNF (b : B) : ((!true) = true → A) ∧ ((!true) = false → B) := ⟨(fun h => nomatch h), fun _ => b⟩
theorem wp_brNT (a : A) : ((!false) = true → A) ∧ ((!false) = false → B) := ⟨fun _ => a, fun h => nomatch h⟩
theorem br {P : Prop} [Decidable P] (a : P → A) (b : ¬P → B) : (decide P = true → A) ∧ (decide P = false → B) := ⟨fun h => a (of_decide_eq_true h), fun h => b (of_decide_eq_false h)⟩
theorem wp_sz (h : n ≤ 1000) (a : A) : n ≤ sizeLine ∧ A := ⟨by rw [sizeLine_eq]; omega, a⟩
theorem wp_len {m : Nat} (h : n = m) (a : A) : n = m ∧ A := ⟨h, a⟩
theorem wp_rngq {A : Int → Prop} (h0 : 0 ≤ i) (h1 : i < 4611686018427387904) (a : A i) : ∃ q : Int, [D.int i] = [.int q] ∧ 0 ≤ q ∧ q < 4611686018427387904 ∧ A q := ⟨i, rfl, h0, h1, a⟩
theorem wp_exL {A : List D → Prop} {B : List D → Prop} {C : Str → Prop} (a : A ds) : (∃ xs, D.lst ds = .lst xs ∧ A xs) ∨ (∃ xs, D.lst ds = .tup xs ∧ B xs) ∨ (∃ x, D.lst ds = .str x ∧ C x) := .inl ⟨_, rfl, a⟩
theorem wp_exT {A : List D → Prop} {B : List D → Prop} {C : Str → Prop} (b : B ds) : (∃ xs, D.tup ds = .lst xs ∧ A xs) ∨ (∃ xs, D.tup ds = .tup xs ∧ B xs) ∨ (∃ x, D.tup ds = .str x ∧ C x) := .inr (.inl ⟨_, rfl, b⟩)
theorem wp_exStr {A : List D → Prop} {B : List D → Prop} {C : Str → Prop} {x : Str} (c : C x) : (∃ xs, D.str x = .lst xs ∧ A xs) ∨ (∃ xs, D.str x = .tup xs ∧ B xs) ∨ (∃ x', D.str x = .str x' ∧ C x') := .inr (.inr ⟨_, rfl, c⟩)
theorem wp_exO {c : Str} {fs : List (Str × D)} {A : List (Str × D) → Prop} (a : A fs) : ∃ fs', D.obj c fs = .obj c fs' ∧ A fs' := ⟨_, rfl, a⟩
theorem wp_exI {A : Int → Prop} (h0 : -4611686018427387904 ≤ i) (h1 : i < 4611686018427387904) (a : A i) : ∃ j, D.int i = .int j ∧ -4611686018427387904 ≤ j ∧ j < 4611686018427387904 ∧ A j := ⟨_, rfl, h0, h1, a⟩
theorem wp_exe {xs : List D} {A : List D → Prop} (a : A xs) : ∃ ys, ([D.lst xs] = [.lst ys] ∨ [D.lst xs] = [.tup ys]) ∧ A ys := ⟨_, .inl rfl, a⟩
theorem wp_exi {xs : List D} {A : List D → Prop} (a : A xs) : ∃ ys, ([D.tup xs] = [.lst ys] ∨ [D.tup xs] = [.tup ys]) ∧ A ys := ⟨_, .inr rfl, a⟩
theorem wp_exi1 {xs ys : List D} {A : List D → List D → Prop} (a : A xs ys) : ∃ xs' ys', ([D.tup xs, D.tup ys] = [.lst xs', .lst ys'] ∨ [D.tup xs, D.tup ys] = [.tup xs', .tup ys']) ∧ A xs' ys' := ⟨_, _, .inr rfl, a⟩
/-- a pure comprehension over typed items -/
theorem wp_lcF {α β : Type} {mc : MC} {mt : MT} {me : ME} (ea : α → D) (eb : β → D) (p : α → Bool) (f : α → β) (xs : List α) {Q : List D → S → Prop}
    (h : ∀ x ∈ xs, On1 (mc (ea x) e) fun e1 => On (mt e1 s) fun k s1 => k = p x ∧ s1 = s ∧ (p x = true → On (me e1 s) fun d s2 => d = eb (f x) ∧ s2 = s))
    (q : Q (((xs.filter p).map f).map eb) s) : On (lcL mc mt me e (xs.map ea) s) Q := by
  refine on_some ?_ q
  clear q
  induction xs with
  | nil => rfl
  | cons x xs ih =>
    obtain ⟨e1, h1, k, s1, h2, rfl, rfl, h3⟩ := h x (by simp)
    have ih := ih fun y hy => h y (by simp [hy])
    rw [List.map_cons]
    unfold lcL
    rw [h1]; dsimp only
    rw [h2]
    cases hp : p x with
    | false => simp only [ih]; rw [List.filter_cons_of_neg (by simp [hp])]
    | true =>
      obtain ⟨d, s2, h4, rfl, rfl⟩ := h3 hp
      dsimp only
      rw [h4]; dsimp only
      rw [ih]; dsimp only
      rw [List.filter_cons_of_pos hp]; rfl
theorem wp_lcM {α β : Type} {mc : MC} {me : ME} (ea : α → D) (eb : β → D) (f : α → β) (xs : List α) {Q : List D → S → Prop}
    (h : ∀ x ∈ xs, On1 (mc (ea x) e) fun e1 => On (me e1 s) fun d s2 => d = eb (f x) ∧ s2 = s)
    (q : Q ((xs.map f).map eb) s) : On (lcL mc yesT me e (xs.map ea) s) Q := by
  refine wp_lcF ea eb (fun _ => true) f xs (fun x hx => ?_) (by rw [show xs.filter (fun _ => true) = xs from List.filter_eq_self.mpr fun _ _ => rfl]; exact q)
  obtain ⟨e1, h1, h2⟩ := h x hx
  exact ⟨e1, h1, true, s, rfl, rfl, rfl, fun _ => h2⟩
/-- a comprehension whose elements move the state -/
theorem wp_lcI {mc : MC} {me : ME} (I : Nat → S → Prop) (P : Nat → D → Prop) {Q : List D → S → Prop} (h0 : I 0 s)
    (h : ∀ j s d, ds[j]? = some d → I j s → On1 (mc d e) fun e1 => On (me e1 s) fun r s' => P j r ∧ I (j + 1) s')
    (q : ∀ ys s', I ds.length s' → ys.length = ds.length → (∀ j y, ys[j]? = some y → P j y) → Q ys s') : On (lcL mc yesT me e ds s) Q := by
  obtain ⟨ys, s', h1, h2, h3, h4⟩ := lc_inv (mc := mc) (me := me) (e := e) I P ds 0 s h0 fun j s d hd hI => by
    rw [Nat.zero_add] at hI ⊢
    obtain ⟨e1, h1, r, s', h2, h3, h4⟩ := h j s d hd hI
    exact ⟨e1, r, s', h1, h2, h3, h4⟩
  rw [Nat.zero_add] at h2
  exact ⟨ys, s', h1, q ys s' h2 h3 fun j y hy => by simpa using h4 j y hy⟩
/-- a loop by its invariant; a turn may end the def -/
theorem wp_forI {mg : MG} {mb : MS} {N : EnvD → S → Prop} {Rt B C T} (I : Nat → EnvD → S → Prop) (h0 : I 0 e s)
    (h : ∀ j e s d, ds[j]? = some d → I j e s → On (mg d e s) fun e1 s1 => OnS (mb e1 s1) (I (j + 1)) Rt N (I (j + 1)) T)
    (q : ∀ e s, I ds.length e s → N e s) : OnS (forL mg mb ds e s) N Rt B C T := by
  have key : ∀ (ds' : List D) (i : Nat) (e : EnvD) (s : S), I i e s → (∀ j, ds'[j]? = ds[i + j]?) → i + ds'.length = ds.length → OnS (forL mg mb ds' e s) N Rt B C T := by
    intro ds'
    induction ds' with
    | nil => intro i e s hI _ hl; exact ⟨_, _, _, rfl, q e s (by simpa [← hl] using hI)⟩
    | cons d ds' ih =>
      intro i e s hI hd hl
      obtain ⟨e1, s1, h1, f, e2, s2, h2, h3⟩ := h i e s d (by have := hd 0; simpa using this.symm) hI
      unfold forL
      rw [h1]; dsimp only
      rw [h2]
      have nxt := ih (i + 1) e2 s2
      have hd' : ∀ j, ds'[j]? = ds[i + 1 + j]? := fun j => by
        have := hd (j + 1)
        rw [show i + 1 + j = i + (j + 1) by omega]
        simpa using this
      have hl' : i + 1 + ds'.length = ds.length := by rw [← hl]; simp; omega
      cases f with
      | nx => exact nxt h3 hd' hl'
      | ct => exact nxt h3 hd' hl'
      | bk => exact ⟨_, _, _, rfl, h3⟩
      | ret d => exact ⟨_, _, _, rfl, h3⟩
      | rto d => exact ⟨_, _, _, rfl, h3⟩
  exact key ds 0 e s h0 (fun j => by simp) (by simp)
end
end Z
namespace Z
open PySem PySem.Spec PyProof.Rows L2
section
variable {Q : List (Str × D) → S → Prop} {e : EnvD} {s : S} {fs : List (Str × D)} {ds : List D} {n m : Nat}
theorem on_bndN {β : Type} {o : Option (β × S)} {f : β → S → Option (List (Str × D) × S)} (h : On o fun b s => On (f b s) Q) : On (bndN o f) Q := by
  obtain ⟨b, s1, h1, h2⟩ := h
  unfold bndN
  rw [h1]
  exact h2
theorem wp_nnil (q : Q fs s) : On (nNil e fs s) Q := ⟨_, _, rfl, q⟩
theorem wp_nseq {m1 m2 : MN} (h : On (m1 e fs s) fun fs s => On (m2 e fs s) Q) : On (nSeq m1 m2 e fs s) Q := on_bndN h
theorem wp_nexpr {mm : ME} (h : On (mm e s) fun _ s => Q fs s) : On (nExpr mm e fs s) Q := on_bndN (h.mono fun _ _ h => ⟨_, _, rfl, h⟩)
theorem wp_nnot {mt : MT} (h : On (mt e s) fun k s => k = false ∧ Q fs s) : On (nNot mt e fs s) Q := on_bndN (h.mono fun k s h => by
  obtain ⟨rfl, h⟩ := h
  exact ⟨_, _, rfl, h⟩)
theorem wp_nfld {f : Str} {mm : ME} (hl : fs.length < 1000) (h : On (mm e s) fun d s => Q (putFD f d fs) s) : On (nFld f mm e fs s) Q := on_bndN (h.mono fun d s h => ⟨_, _, if_pos hl, h⟩)
end
section
variable {Q : D → S → Prop} {Q1 : D → Prop} {e : EnvD} {s : S}
def ChLe (s3 s2 : S) (a b c : D) (Q : D → S → Prop) : Prop := s3 = s2 ∧ ∃ i j k, a = .int i ∧ b = .int j ∧ c = .int k ∧ Q (.bl (decide (i ≤ j) && decide (j ≤ k))) s2
theorem wp_chainLe {ma mb mc : ME} (h : On (ma e s) fun a s1 => On (mb e s1) fun b s2 => On (mc e s2) fun c s3 => ChLe s3 s2 a b c Q) : On (mChain leD leD ma mb mc e s) Q := by
  refine wp_chain (h.mono fun a s1 h => h.mono fun b s2 h => ?_)
  obtain ⟨c, s3, h1, rfl, i, j, k, rfl, rfl, rfl, q⟩ := h
  refine ⟨.bl (decide (i ≤ j)), rfl, ?_⟩
  cases h2 : decide (i ≤ j) with
  | true => rw [h2] at q; exact .inl ⟨rfl, .int k, s3, h1, _, rfl, q⟩
  | false => rw [h2] at q; exact .inr ⟨rfl, q⟩
theorem wp_chC {i j k : Int} (q : Q (.bl (decide (i ≤ j) && decide (j ≤ k))) s) : ChLe s s (.int i) (.int j) (.int k) Q := ⟨rfl, _, _, _, rfl, rfl, rfl, q⟩
end
end Z
namespace Z
open PySem PySem.Spec PyProof.Rows L2
end Z
namespace Z
theorem is_On {α : Type} {o : Option (α × S)} {Q : α → S → Prop} (h : On o Q) : On o Q := h
theorem is_On1 {α : Type} {o : Option α} {Q : α → Prop} (h : On1 o Q) : On1 o Q := h
theorem is_OnS {o : Option (Fl × EnvD × S)} {N B C : EnvD → S → Prop} {Rt T : D → S → Prop} (h : OnS o N Rt B C T) : OnS o N Rt B C T := h
theorem is_OnB {o : Option (Bool × S)} {Q : Bool → S → Prop} (h : On o Q) : On o Q := h
theorem is_OnD {o : Option (D × S)} {Q : D → S → Prop} (h : On o Q) : On o Q := h
theorem is_OnL {o : Option (List D × S)} {Q : List D → S → Prop} (h : On o Q) : On o Q := h
end Z
namespace Z
section
variable {α : Type} {Q : α → S → Prop} {N B C : EnvD → S → Prop} {Rt T : D → S → Prop} {e e1 : EnvD} {s : S} {i k : Nat} {x : Sl} {ds : List D} {is : List Nat} {xs : List Sl}
theorem nrmS1 {m : MS} (h : List.set e i x = e1) (q : OnS (m e1 s) N Rt B C T) : OnS (m (List.set e i x) s) N Rt B C T := by rw [h]; exact q
theorem nrmS2 {m : MS} (h : startE i k ds = e1) (q : OnS (m e1 s) N Rt B C T) : OnS (m (startE i k ds) s) N Rt B C T := by rw [h]; exact q
theorem nrmS3 {m : MS} (h : setX is xs e = e1) (q : OnS (m e1 s) N Rt B C T) : OnS (m (setX is xs e) s) N Rt B C T := by rw [h]; exact q
theorem nrmS4 {m : MS} (h : frzE i e = e1) (q : OnS (m e1 s) N Rt B C T) : OnS (m (frzE i e) s) N Rt B C T := by rw [h]; exact q
theorem nrm1 {m : EnvD → S → Option (α × S)} (h : List.set e i x = e1) (q : On (m e1 s) Q) : On (m (List.set e i x) s) Q := by rw [h]; exact q
theorem nrm4 {m : EnvD → S → Option (α × S)} (h : frzE i e = e1) (q : On (m e1 s) Q) : On (m (frzE i e) s) Q := by rw [h]; exact q
theorem nrm5 {m : EnvD → S → Option (α × S)} (h : wipeE e is = e1) (q : On (m e1 s) Q) : On (m (wipeE e is) s) Q := by rw [h]; exact q
theorem nrm6 {m : EnvD → S → Option (α × S)} (h : setD is ds e = e1) (q : On (m e1 s) Q) : On (m (setD is ds e) s) Q := by rw [h]; exact q
theorem nrm7 {m : List (Str × D) → S → Option (α × S)} {n : EnvD → List (Str × D) → S → Option (α × S)} {fs : List (Str × D)} (h : startI i k ds = e1) (q : On (n e1 fs s) Q) : On (n (startI i k ds) fs s) Q := by rw [h]; exact q
end
end Z
namespace Z
theorem zmap_cons (a : D) (as : List D) : List.map Sl.val (a :: as) = Sl.val a :: List.map Sl.val as := List.map_cons
theorem zmap_nil : List.map Sl.val [] = [] := List.map_nil
theorem zapp_cons (a : Sl) (as bs : List Sl) : a :: as ++ bs = a :: (as ++ bs) := List.cons_append
theorem zapp_nil (bs : List Sl) : [] ++ bs = bs := List.nil_append bs
theorem zapp_nil' (bs : List Sl) : bs ++ [] = bs := List.append_nil bs
theorem zget0 (a : Sl) (as : List Sl) : (a :: as)[0]? = some a := List.getElem?_cons_zero
theorem zgets (a : Sl) (as : List Sl) (i : Nat) : (a :: as)[i + 1]? = as[i]? := List.getElem?_cons_succ
theorem zset0 (a x : Sl) (as : List Sl) : (a :: as).set 0 x = x :: as := List.set_cons_zero
theorem zsets (a x : Sl) (as : List Sl) (i : Nat) : (a :: as).set (i + 1) x = a :: as.set i x := List.set_cons_succ
theorem zrep0 (a : Sl) : List.replicate 0 a = [] := List.replicate_zero
theorem zreps (a : Sl) (n : Nat) : List.replicate (n + 1) a = a :: List.replicate n a := List.replicate_succ
end Z

set_option Elab.async false
set_option linter.all false
set_option maxRecDepth 100000
namespace Z
open PySem PySem.Spec PyProof.Rows L2
section
variable {Q : D → Prop} {s : S} {e : EnvD} {ds : List D} {n : Nat} {d : D} {i : Int}
theorem isi_bb (cs : List Str) (tys : List String) {t T : String} {b : Bool} (ht : tyD d = some t) (hk : kitB t T = some b) (hd : ∀ c fs, d ≠ .obj c fs) : isiD cs tys [d, .opq (.ty T)] = some (.bl b) := by
  cases d <;> simp only [tyD] at ht <;> (try cases ht) <;> first | (simp [isiD, tyD, hk]; done) | exact absurd rfl (hd _ _)
theorem wp_isiI {cs : List Str} {tys : List String} (q : Q (.bl true)) : On1 (isiD cs tys [.int i, .opq (.ty "int")]) Q := ⟨_, isi_bb cs tys (t := "int") rfl (by decide +kernel) (fun _ _ h => nomatch h), q⟩
theorem wp_isiIb {cs : List Str} {tys : List String} (q : Q (.bl false)) : On1 (isiD cs tys [.int i, .opq (.ty "bool")]) Q := ⟨_, isi_bb cs tys (t := "int") rfl (by decide +kernel) (fun _ _ h => nomatch h), q⟩
theorem wp_isiIs {cs : List Str} {tys : List String} (q : Q (.bl false)) : On1 (isiD cs tys [.int i, .opq (.ty "str")]) Q := ⟨_, isi_bb cs tys (t := "int") rfl (by decide +kernel) (fun _ _ h => nomatch h), q⟩
theorem wp_isiS {cs : List Str} {tys : List String} {x : Str} (q : Q (.bl true)) : On1 (isiD cs tys [.str x, .opq (.ty "str")]) Q := ⟨_, isi_bb cs tys (t := "str") rfl (by decide +kernel) (fun _ _ h => nomatch h), q⟩
theorem wp_isiSi {cs : List Str} {tys : List String} {x : Str} (q : Q (.bl false)) : On1 (isiD cs tys [.str x, .opq (.ty "int")]) Q := ⟨_, isi_bb cs tys (t := "str") rfl (by decide +kernel) (fun _ _ h => nomatch h), q⟩
theorem wp_isiT {cs : List Str} {tys : List String} (q : Q (.bl true)) : On1 (isiD cs tys [.tup ds, .opq (.ty "tuple")]) Q := ⟨_, isi_bb cs tys (t := "tuple") rfl (by decide +kernel) (fun _ _ h => nomatch h), q⟩
theorem wp_isiTs {cs : List Str} {tys : List String} (q : Q (.bl false)) : On1 (isiD cs tys [.tup ds, .opq (.ty "str")]) Q := ⟨_, isi_bb cs tys (t := "tuple") rfl (by decide +kernel) (fun _ _ h => nomatch h), q⟩
/-! membership -/
theorem inA_chr (c : Nat) (z : Str) : inAD (.str ⟨#[c]⟩) (.str z) = some (.bl (decide (c ∈ z.cps.toList))) := by simp [inAD, inA, inB, memS]
theorem inA_strT (x : Str) (xs : List Str) : inA (.str x) (.tup (xs.map .str)) = some (decide (x ∈ xs)) := by simp [inA, inB, toV0, flats_strs, inV_str]
theorem wp_inC {c : Nat} {z : Str} (q : Q (.bl (decide (c ∈ z.cps.toList)))) : On1 (inAD (.str ⟨#[c]⟩) (.str z)) Q := ⟨_, inA_chr c z, q⟩
theorem wp_inSL {x : Str} {xs : List Str} (q : Q (.bl (decide (x ∈ xs)))) : On1 (inAD (.str x) (.lst (xs.map .str))) Q := ⟨_, by unfold inAD; rw [inA_str]; rfl, q⟩
theorem wp_inST {x : Str} {xs : List Str} (q : Q (.bl (decide (x ∈ xs)))) : On1 (inAD (.str x) (.tup (xs.map .str))) Q := ⟨_, by unfold inAD; rw [inA_strT]; rfl, q⟩
theorem wp_ninST {x : Str} {xs : List Str} (q : Q (.bl (!decide (x ∈ xs)))) : On1 (notInAD (.str x) (.tup (xs.map .str))) Q := ⟨_, by unfold notInAD; rw [inA_strT]; rfl, q⟩
theorem wp_ninSL {x : Str} {xs : List Str} (q : Q (.bl (!decide (x ∈ xs)))) : On1 (notInAD (.str x) (.lst (xs.map .str))) Q := ⟨_, by unfold notInAD; rw [inA_str]; rfl, q⟩
theorem wp_inIL {x : Int} {xs : List Int} (q : Q (.bl (decide (x ∈ xs)))) : On1 (inAD (.int x) (.lst (xs.map .int))) Q := ⟨_, by unfold inAD; rw [inA_int]; rfl, q⟩
theorem wp_ninIL {x : Int} {xs : List Int} (q : Q (.bl (!decide (x ∈ xs)))) : On1 (notInAD (.int x) (.lst (xs.map .int))) Q := ⟨_, by unfold notInAD; rw [inA_int]; rfl, q⟩
/-! all, any -/
theorem bools_map : ∀ bs : List Bool, boolsD (bs.map .bl) = some bs
  | [] => rfl
  | b :: bs => by simp [boolsD, bools_map bs]
theorem wp_all {bs : List Bool} (q : Q (.bl (bs.all id))) : On1 (allD [.lst (bs.map .bl)]) Q := ⟨_, by simp [allD, bools_map], q⟩
theorem wp_any {bs : List Bool} (q : Q (.bl (bs.any id))) : On1 (anyD [.lst (bs.map .bl)]) Q := ⟨_, by simp [anyD, bools_map], q⟩
/-! items -/
theorem atI_nat {α : Type} {xs : List α} {k : Nat} {d : α} (h : xs[k]? = some d) : atI xs (k : Int) = some d := by
  have hk := (List.getElem?_eq_some_iff.mp h).1
  rw [List.getElem?_eq_getElem hk] at h
  unfold atI ixN
  simp [hk, Option.some.inj h]
theorem wp_idxL {xs : List D} {d : D} {k : Nat} (h : xs[k]? = some d) (q : Q d) : On1 (idxD (.lst xs) (.int (k : Int))) Q := by
  exact ⟨d, atI_nat h, q⟩
theorem wp_idxT {xs : List D} {d : D} {k : Nat} (h : xs[k]? = some d) (q : Q d) : On1 (idxD (.tup xs) (.int (k : Int))) Q := by
  exact ⟨d, atI_nat h, q⟩
theorem wp_slT {xs : List D} {lo hi : Option Int} (q : Q (.tup (cutL xs lo hi))) : On1 (slD (.tup xs) lo hi) Q := ⟨_, rfl, q⟩
theorem cutL_take {α : Type} (xs : List α) (k : Nat) : cutL xs none (some (k : Int)) = xs.take k := by
  unfold cutL
  rw [HT.sIx_nat, HT.sIx_none]
  simp [List.take_eq_take_iff]
end
/-! two clauses -/
section
variable {e : EnvD} {s : S}
/-! dicts of new keys -/
end
end Z
namespace Z
open PySem PySem.Spec PyProof.Rows L2
theorem wp_lenS {Q : D → Prop} {x : Str} (h : x.length ≤ 16777216) (q : Q (.int x.length)) : On1 (lenD [.str x]) Q := ⟨_, by
  have q1 : x.length ≤ sizeLine := by rw [sizeLine_eq]; omega
  simp [lenD, q1], q⟩
theorem wp_lenL {Q : D → Prop} {ds : List D} (q : Q (.int ds.length)) : On1 (lenD [.lst ds]) Q := ⟨_, by simp [lenD], q⟩
theorem wp_lenT {Q : D → Prop} {ds : List D} (q : Q (.int ds.length)) : On1 (lenD [.tup ds]) Q := ⟨_, by simp [lenD], q⟩
end Z
namespace Z
open PySem PySem.Spec PyProof.Rows L2
theorem wp_ixT {Q : D → Prop} {xs : List D} {d : D} {i : Int} (h : xs[i.toNat]? = some d) (h0 : 0 ≤ i) (q : Q d) : On1 (idxD (.tup xs) (.int i)) Q := by
  obtain ⟨k, rfl⟩ : ∃ k : Nat, i = k := ⟨i.toNat, by omega⟩
  exact wp_idxT h q
theorem wp_ixL {Q : D → Prop} {xs : List D} {d : D} {i : Int} (h : xs[i.toNat]? = some d) (h0 : 0 ≤ i) (q : Q d) : On1 (idxD (.lst xs) (.int i)) Q := by
  obtain ⟨k, rfl⟩ : ∃ k : Nat, i = k := ⟨i.toNat, by omega⟩
  exact wp_idxL h q
end Z
namespace Z
open PySem PySem.Spec PyProof.Rows L2
theorem wp_mjoin {Q : D → S → Prop} {e : EnvD} {s : S} {mo me : ME} (h : On (mo e s) fun a s1 => On (me e s1) fun b s2 => On1 (joinD a b) fun d => Q d s2) : On (mJoin mo me e s) Q := wp_op h
theorem wp_msplit {Q : D → S → Prop} {e : EnvD} {s : S} {mo me : ME} (h : On (mo e s) fun a s1 => On (me e s1) fun b s2 => ∃ z w, a = .str z ∧ b = .str w ∧ (w.length == 0) = false ∧ z.length ≤ 16000000 ∧ Q (.lst ((Txt.split z w).map D.str)) s2) : On (mSplit mo me e s) Q :=
  on_bnd (h.mono fun a s1 h => on_bnd (h.mono fun b s2 h => by
    obtain ⟨z, w, rfl, rfl, h1, h2, q⟩ := h
    refine ⟨_, _, ?_, q⟩
    have h3 : z.length + 2 ≤ sizeLine := by rw [sizeLine_eq]; omega
    simp only [h1, h3, and_self, if_true]))
end Z
namespace Z
open PySem PySem.Spec PyProof.Rows L2
section
variable {e : EnvD} {s : S} {d : D} {ds : List D} {N B C : EnvD → S → Prop} {Rt T : D → S → Prop}
theorem wp_lcNil {mc : MC} {mt : MT} {me : ME} {Q : List D → S → Prop} (q : Q [] s) : On (lcL mc mt me e [] s) Q := ⟨_, _, rfl, q⟩
theorem wp_lcCons {mc : MC} {me : ME} {Q : List D → S → Prop} (h : On1 (mc d e) fun e1 => On (me e1 s) fun r s1 => On (lcL mc yesT me e ds s1) fun rs s2 => Q (r :: rs) s2) : On (lcL mc yesT me e (d :: ds) s) Q := by
  obtain ⟨e1, h1, r, s1, h2, rs, s2, h3, q⟩ := h
  refine ⟨r :: rs, s2, ?_, q⟩
  unfold lcL
  rw [h1]; dsimp only [yesT]
  rw [h2]; dsimp only
  rw [h3]
theorem wp_forNil {mg : MG} {mb : MS} (q : N e s) : OnS (forL mg mb [] e s) N Rt B C T := ⟨_, _, _, rfl, q⟩
theorem wp_forCons {mg : MG} {mb : MS} (h : On (mg d e s) fun e1 s1 => OnS (mb e1 s1) (fun e2 s2 => OnS (forL mg mb ds e2 s2) N Rt B C T) Rt N (fun e2 s2 => OnS (forL mg mb ds e2 s2) N Rt B C T) T) : OnS (forL mg mb (d :: ds) e s) N Rt B C T := by
  obtain ⟨e1, s1, h1, f, e2, s2, h2, h3⟩ := h
  unfold forL
  rw [h1]; dsimp only
  rw [h2]
  cases f with
  | nx => exact h3
  | ct => exact h3
  | bk => exact ⟨_, _, _, rfl, h3⟩
  | ret d => exact ⟨_, _, _, rfl, h3⟩
  | rto d => exact ⟨_, _, _, rfl, h3⟩
end
end Z

set_option Elab.async false
set_option linter.all false
set_option maxRecDepth 100000
namespace Z
open PySem PySem.Spec PyProof.Rows L2
section
variable {Q : D → S → Prop} {e : EnvD} {s : S} {mo ma' mb' : ME} {mA : MA}
def MethK (c m : Str) (x : D) (P : List (Str × D) → Prop) : Prop := ∃ fs, x = .obj c fs ∧ lookF fs m = none ∧ P fs
theorem wp_meth {c m : Str} {md : MD} (h : On (mo e s) fun x s1 => MethK c m x fun fs => On (mA e s1) fun ds s2 => On (md (.obj c fs :: ds) s2) Q) : On (mMeth c m md mo mA e s) Q := by
  refine on_bnd (h.mono fun x s1 h => ?_)
  obtain ⟨fs, rfl, h1, h⟩ := h
  dsimp only
  rw [if_pos ⟨rfl, h1⟩]
  exact on_bnd h
theorem wp_methK {c m : Str} {ix : List Nat} {md : MD} (h : On (mo e s) fun x s1 => MethK c m x fun fs => On (mA e s1) fun ds s2 => On (md (.obj c fs :: pick ix ds) s2) Q) : On (mMethK c m ix md mo mA e s) Q := by
  refine on_bnd (h.mono fun x s1 h => ?_)
  obtain ⟨fs, rfl, h1, h⟩ := h
  dsimp only
  rw [if_pos ⟨rfl, h1⟩]
  exact on_bnd h
theorem wp_meth0 {c m : Str} {md : MD} (h : On (mo e s) fun x s1 => MethK c m x fun fs => On (md [.obj c fs] s1) Q) : On (mMeth0 c m md mo e s) Q := by
  refine on_bnd (h.mono fun x s1 h => ?_)
  obtain ⟨fs, rfl, h1, h⟩ := h
  dsimp only
  rw [if_pos ⟨rfl, h1⟩]
  exact h
theorem wp_mk {c m : Str} {fs : List (Str × D)} {P : List (Str × D) → Prop} (h : lookF fs m = none) (p : P fs) : MethK c m (.obj c fs) P := ⟨fs, rfl, h, p⟩
def GetK (d kd x : D) (P : D → Prop) : Prop := ∃ kvs k, d = .dic kvs ∧ keyD kd = some k ∧ P ((lookD kvs k).getD x)
theorem wp_mget (h : On (mo e s) fun d s1 => On (ma' e s1) fun kd s2 => On (mb' e s2) fun x s3 => GetK d kd x fun r => Q r s3) : On (mGet mo ma' mb' e s) Q :=
  on_bnd (h.mono fun d s1 h => on_bnd (h.mono fun kd s2 h => on_bnd (h.mono fun x s3 h => by
    obtain ⟨kvs, k, rfl, h1, q⟩ := h
    refine ⟨_, _, ?_, q⟩
    dsimp only
    rw [h1])))
theorem wp_gk {kvs : List (Key × D)} {kd x : D} {k : Key} {P : D → Prop} (h : keyD kd = some k) (p : P ((lookD kvs k).getD x)) : GetK (.dic kvs) kd x P := ⟨kvs, k, rfl, h, p⟩
theorem wp_dic0 (q : Q (.dic []) s) : On (mDic0 e s) Q := ⟨_, _, rfl, q⟩
theorem wp_oEq {c : Str} {md : MD} {fs gs : List (Str × D)} (h : On (md [.obj c fs, .obj c gs] s) fun r s1 => ∃ k, r = .bl k ∧ Q (.bl k) s1) : On (ownEq c md (.obj c fs) (.obj c gs) s) Q := wp_ownEq h
theorem wp_catT {Q : D → Prop} {ds es : List D} (h : ds.length + es.length ≤ 1000) (q : Q (.tup (ds ++ es))) : On1 (addD (.tup ds) (.tup es)) Q := by
  have q1 : ds.length + es.length ≤ sizeLine := by rw [sizeLine_eq]; omega
  exact ⟨_, by simp [addD, q1], q⟩
end
end Z

set_option Elab.async false
set_option linter.all false
set_option maxRecDepth 100000
namespace Z
open PySem PySem.Spec PyProof.Rows L2
/-! ### == of plain data: the same as = -/
mutual
def noB : PyData → Bool
  | .none => true
  | .int _ => true
  | .str _ => true
  | .tuple xs => noBs xs
  | .list xs => noBs xs
  | _ => false
def noBs : List PyData → Bool
  | [] => true
  | x :: xs => noB x && noBs xs
end
def Pl (d : D) (k : Nat) : Prop := ∃ p, toP d = some p ∧ p.canLay0 = true ∧ p.depth ≤ k ∧ noB p = true
def PlL (ds : List D) (k : Nat) : Prop := ∃ ps, toPL ds = some ps ∧ PyData.canLayAll0 ps = true ∧ PyData.depthAll ps ≤ k ∧ noBs ps = true
theorem Pl.le {d : D} {k k' : Nat} (h : Pl d k) (hk : k ≤ k') : Pl d k' := let ⟨p, h1, h2, h3, h4⟩ := h; ⟨p, h1, h2, by omega, h4⟩
theorem PlL.le {d : List D} {k k' : Nat} (h : PlL d k) (hk : k ≤ k') : PlL d k' := let ⟨p, h1, h2, h3, h4⟩ := h; ⟨p, h1, h2, by omega, h4⟩
end Z
namespace Z
open PySem PySem.Spec PyProof.Rows L2
theorem zcut6 (a b c d e f g : D) : cutL [a, b, c, d, e, f, g] none (some 6) = [a, b, c, d, e, f] := by
  have := cutL_take [a, b, c, d, e, f, g] 6
  simpa using this
theorem zcut3 (a b c d e f g : D) : cutL [a, b, c, d, e, f, g] none (some 3) = [a, b, c] := by
  have := cutL_take [a, b, c, d, e, f, g] 3
  simpa using this
theorem dec_self {α : Type} {a : α} {i : Decidable (a = a)} : @decide (a = a) i = true := decide_eq_true rfl
section
variable {Q : D → S → Prop} {e : EnvD} {s : S} {mo : ME}
theorem wp_mrev {f : D → Option D} (h : On (mo e s) fun d s1 => On1 (f d) fun r => Q r s1) : On (mRev f mo e s) Q := on_bnd (h.mono fun _ _ h => on_lft h)
theorem wp_cmK {c : Str} {ix : List Nat} {md : MD} {mA : MA} (h : On (mo e s) fun x s1 => x = .ty c ∧ On (mA e s1) fun ds s2 => On (md (.ty c :: pick ix ds) s2) Q) : On (mCmK c ix md mo mA e s) Q := by
  refine on_bnd (h.mono fun x s1 h => ?_)
  obtain ⟨rfl, h⟩ := h
  dsimp only
  rw [if_pos rfl]
  exact on_bnd h
/-- arguments picked one by one -/
def PkK (ix : List Nat) (ws : List D) (P : List D → Prop) : Prop := P (pick ix ws)
theorem wp_pk0 {ws : List D} {P : List D → Prop} (h : P []) : PkK [] ws P := h
theorem wp_pks {i : Nat} {ix : List Nat} {ws : List D} {d : D} {P : List D → Prop} (h : ws[i]? = some d) (q : PkK ix ws fun es => P (d :: es)) : PkK (i :: ix) ws P := by
  unfold PkK pick at *
  rw [List.filterMap_cons, h]
  exact q
theorem wp_cmK' {c : Str} {ix : List Nat} {md : MD} {mA : MA} (h : On (mo e s) fun x s1 => x = .ty c ∧ On (mA e s1) fun ds s2 => PkK ix ds fun es => On (md (.ty c :: es) s2) Q) : On (mCmK c ix md mo mA e s) Q := wp_cmK h
theorem wp_methK' {c m : Str} {ix : List Nat} {md : MD} {mA : MA} (h : On (mo e s) fun x s1 => MethK c m x fun fs => On (mA e s1) fun ds s2 => PkK ix ds fun es => On (md (.obj c fs :: es) s2) Q) : On (mMethK c m ix md mo mA e s) Q := wp_methK h
theorem wp_pick' {ix : List Nat} {md : MD} {ds : List D} (h : PkK ix ds fun es => On (md es s) Q) : On (mdPick ix md ds s) Q := h
theorem wp_revT {Q : D → Prop} {ds : List D} (q : Q (.tup ds.reverse)) : On1 (revT (.tup ds)) Q := ⟨_, rfl, q⟩
theorem wp_revL {Q : D → Prop} {ds : List D} (q : Q (.lst ds.reverse)) : On1 (revLD (.lst ds)) Q := ⟨_, rfl, q⟩
theorem wp_oNe {c : Str} {md : MD} {fs gs : List (Str × D)} (h : On (md [.obj c fs, .obj c gs] s) fun r s1 => ∃ k, r = .bl k ∧ Q (.bl (!k)) s1) : On (ownNe c md (.obj c fs) (.obj c gs) s) Q := wp_ownNe h
theorem wp_rng2 {Q : List D → S → Prop} {mA : MA} (h : On (mA e s) fun ds s1 => ∃ i j : Int, ds = [.int i, .int j] ∧ (-4611686018427387904 ≤ i ∧ i < 4611686018427387904 ∧ -4611686018427387904 ≤ j ∧ j < 4611686018427387904) ∧ Q (rngD i (j - i).toNat) s1) : On (rng2I mA e s) Q := by
  refine on_bnd (h.mono fun d s1 h => ?_)
  obtain ⟨i, j, rfl, ⟨a, b, c, d⟩, h⟩ := h
  have c : (-(2 ^ 62) ≤ i ∧ i < 2 ^ 62) ∧ -(2 ^ 62) ≤ j ∧ j < 2 ^ 62 := by omega
  refine ⟨_, _, ?_, h⟩
  simp only [c, and_self, if_true]
end
end Z

set_option linter.all false
set_option maxRecDepth 100000
namespace Z
namespace C
open PySem
def isiC : List PySem.Str := ["Ring"]
def isiT : List String := ["int", "bool", "str", "tuple"]
def u__law_dip : MD := mkD 2 4 (sSeq (sIf (mT (mOp gtD (mOpM idxCel (mVar 0) (mC (.int 0))) (mC (.int 0)))) (sSeq (sAsg (gSeq (gsCons (gCel (mVar 0) (mC (.int 0))) (gsCons (gNm 2) (gsNil)))) (mCall divmodD (aCons (mOpM idxCel (mVar 0) (mC (.int 0))) (aCons (mVar 1) (aNil))))) (sRet (mVar 2))) (sNil)) (sSeq (sAsg (gCel (mVar 0) (mC (.int 2))) (mOp addD (mOpM idxCel (mVar 0) (mC (.int 2))) (mC (.int 1)))) (sSeq (sSet 3 (mOp modD (mCall intD (aCons (mOp addD (mOp addD (mOp mulD (mOpM idxCel (mVar 0) (mC (.int 1))) (mOp addD (mC (.int 39877)) (mOp mulD (mC (.int 2)) (mOpM idxCel (mVar 0) (mC (.int 2)))))) (mOp mulD (mC (.int 6151)) (mOpM idxCel (mVar 0) (mC (.int 2))))) (mC (.int 3))) (aNil))) (mC (.int 2147483543)))) (sSeq (sAsg (gCel (mVar 0) (mC (.int 1))) (mOp modD (mCall intD (aCons (mOp addD (mOp mulD (mVar 3) (mC (.int 44491))) (mOp mulD (mOpM idxCel (mVar 0) (mC (.int 2))) (mOpM idxCel (mVar 0) (mC (.int 2))))) (aNil))) (mC (.int 2147483497)))) (sRet (mOp modD (mCall intD (aCons (mOp fdivD (mOpM idxCel (mVar 0) (mC (.int 1))) (mC (.int 512))) (aNil))) (mVar 1)))))))
def u__law_of : MD := mkD 2 2 (sRet (mOp idxD (mVar 1) (mCallD u__law_dip (aCons (mVar 0) (aCons (mCall lenD (aCons (mVar 1) (aNil))) (aNil))))))
def u__law_rule : MD := mkD 1 3 (sSeq (sSet 1 (mOp addD (mC (.int 1)) (mCallD u__law_dip (aCons (mVar 0) (aCons (mC (.int 5)) (aNil)))))) (sSeq (sSet 2 (mLst (aCons (mVar 1) (aCons (mCallD u__law_of (aCons (mVar 0) (aCons (mLst (aCons (mC (.str "hosts")) (aCons (mC (.str "racks")) (aNil)))) (aNil)))) (aNil))))) (sRet (mOp addAll (mVar 2) (mLst (aCons (mOp addD (mC (.int 1)) (mCallD u__law_dip (aCons (mVar 0) (aCons (mVar 1) (aNil))))) (aCons (mOp addD (mC (.int 1)) (mCallD u__law_dip (aCons (mVar 0) (aCons (mVar 1) (aNil))))) (aCons (mCallD u__law_of (aCons (mVar 0) (aCons (mLst (aCons (mC (.str "plain")) (aCons (mC (.str "with")) (aNil)))) (aNil)))) (aNil)))))))))
def u__law_title : MD := mkD 1 4 (sSeq (sSet 1 (mC (.str "abcdefghijklmnopqrstuvwxyz"))) (sSeq (sIf (mT (mOp eqD (mCallD u__law_dip (aCons (mVar 0) (aCons (mC (.int 6)) (aNil)))) (mC (.int 0)))) (sRet (mCallD u__law_of (aCons (mVar 0) (aCons (mLst (aCons (mC (.str "ring")) (aCons (mC (.str "host")) (aCons (mC (.str "plan")) (aCons (mC (.str "hosts")) (aCons (mC (.str "racks")) (aCons (mC (.str "with")) (aCons (mC (.str "plain")) (aCons (mC (.str "join")) (aCons (mC (.str "settle")) (aNil))))))))))) (aNil))))) (sNil)) (sSeq (sSet 2 (mOp idxD (mVar 1) (mCallD u__law_dip (aCons (mVar 0) (aCons (mC (.int 26)) (aNil)))))) (sSeq (sFor (rngI (aCons (mCallD u__law_of (aCons (mVar 0) (aCons (mLst (aCons (mC (.int 0)) (aCons (mC (.int 0)) (aCons (mC (.int 1)) (aCons (mC (.int 2)) (aCons (mC (.int 7)) (aCons (mC (.int 3)) (aNil)))))))) (aNil)))) (aNil))) (gNm 3) (sSet 2 (mOp addD (mVar 2) (mOp idxD (mOp addD (mVar 1) (mC (.str "0123456789"))) (mCallD u__law_dip (aCons (mVar 0) (aCons (mC (.int 36)) (aNil)))))))) (sRet (mVar 2))))))
def u__law_titles : MD := mkD 2 7 (sSeq (sPar [2, 3] (xVal (mLst (aCons (mC (.str "a")) (aCons (mC (.str "b")) (aCons (mC (.str "a1")) (aCons (mC (.str "a2")) (aCons (mC (.str "zz9")) (aCons (mC (.str "q")) (aCons (mC (.str "r1")) (aCons (mC (.str "x")) (aCons (mC (.str "y")) (aCons (mC (.str "z")) (aCons (mC (.str "h0")) (aCons (mC (.str "h1")) (aNil)))))))))))))) (xOwn (mLst (aNil)) (xNil)))) (sSeq (sFor (rngI (aCons (mVar 1) (aNil))) (gNm 4) (sSeq (sSet 5 (mCallD u__law_title (aCons (mVar 0) (aNil)))) (sSeq (sIf (tBor 3 (tAndZ (mT (mOp neD (mVar 3) (mLst (aNil)))) (mT (mOp eqD (mCallD u__law_dip (aCons (mVar 0) (aCons (mC (.int 4)) (aNil)))) (mC (.int 0)))))) (sSet 5 (mBor 3 (mOp addD (mSl slD (mOp idxD (mVar 3) (mC (.int 0))) (oNone) (oSome (mC (.int 7)))) (mOp idxD (mC (.str "0123456789ab")) (mVar 4))))) (sNil)) (sApp 3 (mBor 3 (mOp idxD (mLc [6] (seqI (mOp addAll (mLst (aCons (mVar 5) (aNil))) (mVar 2))) (cNm 6) (mT (mOp notInAD (mVar 6) (mVar 3))) (mVar 6)) (mC (.int 0)))))))) (sFrz 3 (sRet (mVar 3)))))
def u__law_yards : MD := mkD 2 4 (sSeq (sSet 2 (mCallD u__law_titles (aCons (mVar 0) (aCons (mOp addD (mC (.int 1)) (mCallD u__law_dip (aCons (mVar 0) (aCons (mC (.int 4)) (aNil))))) (aNil))))) (sRet (mLc [3] (rngI (aCons (mVar 1) (aNil))) (cNm 3) (yesT) (mCallD u__law_of (aCons (mVar 0) (aCons (mVar 2) (aNil)))))))
def u__law_free : MD := mkD 3 4 (sSeq (sFor (rngI (aCons (mOp addD (mCall lenD (aCons (mVar 1) (aNil))) (mC (.int 1))) (aNil))) (gNm 3) (sIf (mT (mOp notInAD (mOp modD (mCall intD (aCons (mOp addD (mVar 2) (mVar 3)) (aNil))) (mVar 0)) (mVar 1))) (sRet (mOp modD (mCall intD (aCons (mOp addD (mVar 2) (mVar 3)) (aNil))) (mVar 0))) (sNil))) (sRet (mVar 2)))
def u__law_vast : MD := mkD 2 4 (sSeq (sSet 2 (mC (.int 0))) (sSeq (sFor (rngI (aCons (mC (.int 4)) (aNil))) (gNm 3) (sSet 2 (mOp addD (mOp mulD (mVar 2) (mC (.int 1000003))) (mCallD u__law_dip (aCons (mVar 0) (aCons (mC (.int 1000003)) (aNil))))))) (sRet (mOp modD (mCall intD (aCons (mVar 2) (aNil))) (mVar 1)))))
def u__law_place : MD := mkD 3 4 (sSeq (sSet 3 (mCallD u__law_dip (aCons (mVar 0) (aCons (mC (.int 8)) (aNil))))) (sSeq (sIf (mT (mOp eqD (mVar 3) (mC (.int 0)))) (sRet (mOp idxD (mLst (aCons (mC (.int 0)) (aCons (mOp subD (mVar 1) (mC (.int 1))) (aNil)))) (mCallD u__law_dip (aCons (mVar 0) (aCons (mC (.int 2)) (aNil)))))) (sNil)) (sSeq (sIf (tAndZ (mT (mOp ltD (mVar 3) (mC (.int 4)))) (mT (mOp neD (mVar 2) (mLst (aNil))))) (sRet (mOp modD (mCall intD (aCons (mOp subD (mOp addD (mCallD u__law_of (aCons (mVar 0) (aCons (mVar 2) (aNil)))) (mCallD u__law_dip (aCons (mVar 0) (aCons (mC (.int 5)) (aNil))))) (mC (.int 2))) (aNil))) (mVar 1))) (sNil)) (sRet (mIf (mT (mOp ltD (mVar 1) (mC (.int 1000)))) (mCallD u__law_dip (aCons (mVar 0) (aCons (mVar 1) (aNil)))) (mCallD u__law_vast (aCons (mVar 0) (aCons (mVar 1) (aNil)))))))))
def u__law_band : MD := mkD 4 14 (sSeq (sPar [4, 5, 6] (xVal (mCall min2D (aCons (mOp addD (mC (.int 1)) (mCallD u__law_dip (aCons (mVar 0) (aCons (mVar 2) (aNil))))) (aCons (mVar 1) (aNil)))) (xOwn (mLst (aNil)) (xOwn (mLst (aNil)) (xNil))))) (sSeq (sPar [7, 8] (xVal (mCallD u__law_titles (aCons (mVar 0) (aCons (mVar 4) (aNil)))) (xVal (mCallD u__law_yards (aCons (mVar 0) (aCons (mVar 4) (aNil)))) (xNil)))) (sSeq (sFor (rngI (aCons (mVar 4) (aNil))) (gNm 9) (sSeq (sPar [10, 11] (xOwn (mLst (aNil)) (xVal (mBor 5 (mOp subD (mOp subD (mVar 1) (mCall lenD (aCons (mVar 5) (aNil)))) (mOp subD (mOp subD (mVar 4) (mC (.int 1))) (mVar 9)))) (xNil)))) (sSeq (sFor (rngI (aCons (mCall min2D (aCons (mOp addD (mC (.int 1)) (mCallD u__law_dip (aCons (mVar 0) (aCons (mVar 3) (aNil))))) (aCons (mVar 11) (aNil)))) (aNil))) (gNm 12) (sSeq (sSet 13 (mBor 5 (mCallD u__law_free (aCons (mVar 1) (aCons (mVar 5) (aCons (mCallD u__law_place (aCons (mVar 0) (aCons (mVar 1) (aCons (mVar 5) (aNil))))) (aNil))))))) (sSeq (sApp 10 (mVar 13)) (sApp 5 (mVar 13))))) (sFrz 10 (sApp 6 (mTup (aCons (mOp idxD (mVar 7) (mVar 9)) (aCons (mOp idxD (mVar 8) (mVar 9)) (aCons (mCall tupleD (aCons (mCallD (fun ds s => lft (sortedD ds) s) (aCons (mVar 10) (aNil))) (aNil))) (aNil)))))))))) (sFrz 6 (sRet (mCall tupleD (aCons (mVar 6) (aNil))))))))
def u__law_build : MD := mkD 4 4 (sRet (mOp addAll (mOp addAll (mLst (aCons (mVar 1) (aNil))) (mCallD u__law_rule (aCons (mVar 0) (aNil)))) (mLst (aCons (mCallD u__law_band (aCons (mVar 0) (aCons (mVar 1) (aCons (mVar 2) (aCons (mVar 3) (aNil)))))) (aNil)))))
def u__law_width : MD := mkD 1 2 (sSeq (sSet 1 (mCallD u__law_dip (aCons (mVar 0) (aCons (mC (.int 6)) (aNil))))) (sSeq (sIf (mT (mOp ltD (mVar 1) (mC (.int 2)))) (sRet (mOp addD (mC (.int 1)) (mCallD u__law_dip (aCons (mVar 0) (aCons (mC (.int 30)) (aNil)))))) (sNil)) (sSeq (sIf (mT (mOp ltD (mVar 1) (mC (.int 4)))) (sRet (mOp idxD (mLst (aCons (mOp powD (mC (.int 10)) (mC (.int 18))) (aCons (mOp subD (mOp powD (mC (.int 10)) (mC (.int 18))) (mC (.int 1))) (aNil)))) (mOp subD (mVar 1) (mC (.int 2))))) (sNil)) (sRet (mIf (mT (mOp eqD (mVar 1) (mC (.int 4)))) (mOp addD (mC (.int 1)) (mCallD u__law_dip (aCons (mVar 0) (aCons (mOp powD (mC (.int 10)) (mC (.int 5))) (aNil))))) (mOp addD (mC (.int 1)) (mCallD u__law_vast (aCons (mVar 0) (aCons (mOp powD (mC (.int 10)) (mC (.int 18))) (aNil))))))))))
def u_is_integer : MD := mkD 3 3 (sRet (mAnd (mCall (isiD isiC isiT) (aCons (mVar 0) (aCons (mC (.opq (.ty "int"))) (aNil)))) (mAnd (mUn notD (mCall (isiD isiC isiT) (aCons (mVar 0) (aCons (mC (.opq (.ty "bool"))) (aNil))))) (mChain leD leD (mVar 1) (mVar 0) (mVar 2)))))
def u_check_number : MD := mkD 2 2 (sIf (tNotZ (mT (mCallD u_is_integer (aCons (mVar 0) (aCons (mC (.int 1)) (aCons (mVar 1) (aNil))))))) (sDie) (sNil))
def u_is_name : MD := mkD 1 2 (sSeq (sIf (tOrZ (tNotZ (mT (mCall (isiD isiC isiT) (aCons (mVar 0) (aCons (mC (.opq (.ty "str"))) (aNil)))))) (tNotZ (mT (mChain leD leD (mC (.int 1)) (mCall lenD (aCons (mVar 0) (aNil))) (mC (.int 8)))))) (sRet (mC (.bl false))) (sNil)) (sRet (mAnd (mOp inAD (mOp idxD (mVar 0) (mC (.int 0))) (mC (.str "abcdefghijklmnopqrstuvwxyz"))) (mCall allD (aCons (mLc [1] (seqI (mVar 0)) (cNm 1) (yesT) (mOp inAD (mVar 1) (mOp addD (mC (.str "abcdefghijklmnopqrstuvwxyz")) (mC (.str "0123456789"))))) (aNil))))))
def u_are_points : MD := mkD 3 6 (sSeq (sIf (tOrZ (tNotZ (mT (mCall (isiD isiC isiT) (aCons (mVar 0) (aCons (mC (.opq (.ty "tuple"))) (aNil)))))) (tNotZ (mT (mChain leD leD (mC (.int 1)) (mCall lenD (aCons (mVar 0) (aNil))) (mVar 2))))) (sRet (mC (.bl false))) (sNil)) (sSeq (sIf (tNotZ (mT (mCall allD (aCons (mLc [3] (seqI (mVar 0)) (cNm 3) (yesT) (mCallD u_is_integer (aCons (mVar 3) (aCons (mC (.int 0)) (aCons (mOp subD (mVar 1) (mC (.int 1))) (aNil)))))) (aNil))))) (sRet (mC (.bl false))) (sNil)) (sRet (mCall allD (aCons (mLc [4, 5] (zipI (aCons (mVar 0) (aCons (mSl slD (mVar 0) (oSome (mC (.int 1))) (oNone)) (aNil)))) (cTup [4, 5]) (yesT) (mOp ltD (mVar 4) (mVar 5))) (aNil))))))
def u_is_host : MD := mkD 3 9 (sSeq (sIf (tOrZ (tNotZ (mT (mCall (isiD isiC isiT) (aCons (mVar 0) (aCons (mC (.opq (.ty "tuple"))) (aNil)))))) (tOrZ (mT (mOp neD (mCall lenD (aCons (mVar 0) (aNil))) (mC (.int 3)))) (tOrZ (tNotZ (mT (mCallD u_is_name (aCons (mOp idxD (mVar 0) (mC (.int 0))) (aNil))))) (tNotZ (mT (mCallD u_is_name (aCons (mOp idxD (mVar 0) (mC (.int 1))) (aNil)))))))) (sRet (mC (.bl false))) (sNil)) (sSeq (sAsg (gSeq (gsCons (gNm 3) (gsCons (gNm 4) (gsCons (gNm 5) (gsNil))))) (mVar 0)) (sSeq (sIf (tOrZ (mT (mOp inAD (mVar 3) (mLc [6] (seqI (mVar 2)) (cNm 6) (yesT) (mOp idxD (mVar 6) (mC (.int 0)))))) (tNotZ (mT (mCallD u_are_points (aCons (mVar 5) (aCons (mVar 1) (aCons (mC (.int 16)) (aNil)))))))) (sRet (mC (.bl false))) (sNil)) (sSeq (sSet 7 (mDc2 [6, 8] (seqI (mVar 2)) (cNm 6) (yesT) (seqI (mOp idxD (mVar 6) (mC (.int 2)))) [8] (cNm 8) (yesT) (mVar 8) (mC (.bl true)))) (sRet (mUn notD (mCall anyD (aCons (mLc [8] (seqI (mVar 5)) (cNm 8) (yesT) (mOp inDic (mVar 8) (mVar 7))) (aNil)))))))))
def u_check_hosts : MD := mkD 2 4 (sSeq (sIf (tOrZ (tNotZ (mT (mCall (isiD isiC isiT) (aCons (mVar 0) (aCons (mC (.opq (.ty "tuple"))) (aNil)))))) (mT (mOp eqD (mCall lenD (aCons (mVar 0) (aNil))) (mC (.int 0))))) (sDie) (sNil)) (sFor (enum2I (aCons (mVar 0) (aNil))) (gSeq (gsCons (gNm 2) (gsCons (gNm 3) (gsNil)))) (sIf (tOrZ (mT (mOp eqD (mVar 2) (mC (.int 12)))) (tNotZ (mT (mCallD u_is_host (aCons (mVar 3) (aCons (mVar 1) (aCons (mSl slD (mVar 0) (oNone) (oSome (mVar 2))) (aNil)))))))) (sDie) (sNil))))
def u_Ring___init__ : MI0 := mkI 7 12 (nSeq (nExpr (mCallD u_check_number (aCons (mVar 1) (aCons (mC (.int 1000000000000000000)) (aNil))))) (nSeq (nExpr (mCallD u_check_number (aCons (mVar 2) (aCons (mC (.int 5)) (aNil))))) (nSeq (nNot (tOrZ (tNotZ (mT (mCall (isiD isiC isiT) (aCons (mVar 3) (aCons (mC (.opq (.ty "str"))) (aNil)))))) (mT (mOp notInAD (mVar 3) (mC (.tup ((["hosts", "racks"] : List PySem.Str).map D.str))))))) (nSeq (nExpr (mCallD u_check_number (aCons (mVar 4) (aCons (mVar 2) (aNil))))) (nSeq (nExpr (mCallD u_check_number (aCons (mVar 5) (aCons (mVar 2) (aNil))))) (nSeq (nNot (tOrZ (tNotZ (mT (mCall (isiD isiC isiT) (aCons (mVar 6) (aCons (mC (.opq (.ty "str"))) (aNil)))))) (mT (mOp notInAD (mVar 6) (mC (.tup ((["plain", "with"] : List PySem.Str).map D.str))))))) (nSeq (nExpr (mCallD u_check_hosts (aCons (mVar 7) (aCons (mVar 1) (aNil))))) (nSeq (nFld "numbers" (mTup (aCons (mVar 1) (aCons (mVar 2) (aCons (mVar 4) (aCons (mVar 5) (aNil))))))) (nSeq (nFld "words" (mTup (aCons (mVar 3) (aCons (mVar 6) (aNil))))) (nSeq (nFld "held_hosts" (mVar 7)) (nSeq (nFld "racks" (mDc [8, 9, 10] (seqI (mVar 7)) (cTup [8, 9, 10]) (yesT) (mVar 8) (mVar 9))) (nSeq (nFld "marks" (mCallD (fun ds s => lft (sortedD ds) s) (aCons (mLc2 [8, 9, 10, 11] (seqI (mVar 7)) (cTup [8, 9, 10]) (yesT) (seqI (mVar 10)) [11] (cNm 11) (yesT) (mTup (aCons (mVar 11) (aCons (mVar 8) (aNil))))) (aNil)))) (nNil)))))))))))))
def u_written : MD := mkD 1 2 (sSeq (sIf (tOrZ (tNotZ (mT (mChain leD leD (mC (.int 1)) (mCall lenD (aCons (mVar 0) (aNil))) (mC (.int 19))))) (tNotZ (mT (mCall allD (aCons (mLc [1] (seqI (mVar 0)) (cNm 1) (yesT) (mOp inAD (mVar 1) (mC (.str "0123456789")))) (aNil)))))) (sRet (mC .non)) (sNil)) (sRet (mIf (tAndZ (mT (mOp eqD (mOp idxD (mVar 0) (mC (.int 0))) (mC (.str "0")))) (mT (mOp gtD (mCall lenD (aCons (mVar 0) (aNil))) (mC (.int 1))))) (mC .non) (mCall intD (aCons (mVar 0) (aNil))))))
def u_host_of : MD := mkD 1 3 (sSeq (sSet 1 (mSplit (mVar 0) (mC (.str " ")))) (sSeq (sIf (tOrZ (mT (mOp neD (mOp idxD (mVar 1) (mC (.int 0))) (mC (.str "host")))) (mT (mOp ltD (mCall lenD (aCons (mVar 1) (aNil))) (mC (.int 4))))) (sRet (mC .non)) (sNil)) (sRet (mTup (aCons (mOp idxD (mVar 1) (mC (.int 1))) (aCons (mOp idxD (mVar 1) (mC (.int 2))) (aCons (mCall tupleD (aCons (mLc [2] (seqI (mSl slL (mVar 1) (oSome (mC (.int 3))) (oNone))) (cNm 2) (yesT) (mCallD u_written (aCons (mVar 2) (aNil)))) (aNil))) (aNil))))))))
def u_Ring_read : MD := mkD 2 15 (sSeq (sIf (tNotZ (mT (mCall (isiD isiC isiT) (aCons (mVar 1) (aCons (mC (.opq (.ty "str"))) (aNil)))))) (sDie) (sNil)) (sSeq (sAsg (gStar 1 2 (gsCons (gNm 2) (gsCons (gNm 3) (gsNil)))) (mSplit (mVar 1) (mC (.str "\n")))) (sSeq (sSet 4 (mSplit (mVar 2) (mC (.str " ")))) (sSeq (sSet 5 (mCall tupleD (aCons (mLc [6] (seqI (mVar 3)) (cNm 6) (yesT) (mCallD u_host_of (aCons (mVar 6) (aNil)))) (aNil)))) (sSeq (sIf (tOrZ (mT (mOp neD (mCall lenD (aCons (mVar 4) (aNil))) (mC (.int 7)))) (tOrZ (mT (mOp neD (mOp idxD (mVar 4) (mC (.int 0))) (mC (.str "ring")))) (mT (mOp inAD (mC .non) (mVar 5))))) (sDie) (sNil)) (sSeq (sAsg (gSeq (gsCons (gNm 7) (gsCons (gNm 8) (gsCons (gNm 9) (gsCons (gNm 10) (gsCons (gNm 11) (gsCons (gNm 12) (gsCons (gNm 13) (gsNil))))))))) (mVar 4)) (sSeq (sSet 14 (mCls "Ring" 0 (mdMake "Ring" u_Ring___init__) (aCons (mCallD u_written (aCons (mVar 8) (aNil))) (aCons (mCallD u_written (aCons (mVar 9) (aNil))) (aCons (mVar 10) (aCons (mCallD u_written (aCons (mVar 11) (aNil))) (aCons (mCallD u_written (aCons (mVar 12) (aNil))) (aCons (mVar 13) (aCons (mVar 5) (aNil)))))))))) (sRet (mVar 14)))))))))
def u__law_sheet : MD := mkD 1 13 (sSeq (sAsg (gSeq (gsCons (gNm 1) (gsCons (gNm 2) (gsCons (gNm 3) (gsCons (gNm 4) (gsCons (gNm 5) (gsCons (gNm 6) (gsCons (gNm 7) (gsNil))))))))) (mVar 0)) (sSeq (sOwn 8 (mLst (aCons (mJoin (mC (.str " ")) (mLst (aCons (mC (.str "ring")) (aCons (mCall strD (aCons (mVar 1) (aNil))) (aCons (mCall strD (aCons (mVar 2) (aNil))) (aCons (mVar 3) (aCons (mCall strD (aCons (mVar 4) (aNil))) (aCons (mCall strD (aCons (mVar 5) (aNil))) (aCons (mVar 6) (aNil)))))))))) (aNil)))) (sSeq (sFor (seqI (mVar 7)) (gSeq (gsCons (gNm 9) (gsCons (gNm 10) (gsCons (gNm 11) (gsNil))))) (sApp 8 (mJoin (mC (.str " ")) (mOp addAll (mLst (aCons (mC (.str "host")) (aCons (mVar 9) (aCons (mVar 10) (aNil))))) (mLc [12] (seqI (mVar 11)) (cNm 12) (yesT) (mCall strD (aCons (mVar 12) (aNil)))))))) (sFrz 8 (sRet (mJoin (mC (.str "\n")) (mVar 8)))))))
def u__law_made : MD := mkD 2 10 (sSeq (sSet 2 (mCallD u__law_dip (aCons (mVar 0) (aCons (mC (.int 3)) (aNil))))) (sSeq (sAsg (gSeq (gsCons (gNm 3) (gsCons (gNm 4) (gsCons (gNm 5) (gsCons (gNm 6) (gsCons (gNm 7) (gsCons (gNm 8) (gsCons (gNm 9) (gsNil))))))))) (mVar 1)) (sSeq (sIf (mT (mOp eqD (mVar 2) (mC (.int 0)))) (sRet (mCallD (mdMake "Ring" u_Ring___init__) (aCons (mVar 3) (aCons (mVar 4) (aCons (mVar 5) (aCons (mVar 6) (aCons (mVar 7) (aCons (mVar 8) (aCons (mVar 9) (aNil)))))))))) (sNil)) (sSeq (sIf (mT (mOp eqD (mVar 2) (mC (.int 1)))) (sRet (mCallD (mdPick [6, 5, 4, 3, 2, 1, 0] (mdMake "Ring" u_Ring___init__)) (aCons (mVar 9) (aCons (mVar 8) (aCons (mVar 7) (aCons (mVar 6) (aCons (mVar 5) (aCons (mVar 4) (aCons (mVar 3) (aNil)))))))))) (sNil)) (sRet (mCm "Ring" u_Ring_read (mC (.ty "Ring")) (aCons (mCallD u__law_sheet (aCons (mVar 1) (aNil))) (aNil))))))))
def u_Ring_points : MD := mkD 1 1 (sRet (mOp idxD (mFld "Ring" "numbers" (mVar 0)) (mC (.int 0))))
def u_Ring_factor : MD := mkD 1 1 (sRet (mOp idxD (mFld "Ring" "numbers" (mVar 0)) (mC (.int 1))))
def u_Ring_spread : MD := mkD 1 1 (sRet (mOp idxD (mFld "Ring" "words" (mVar 0)) (mC (.int 0))))
def u_Ring_write : MD := mkD 1 1 (sRet (mOp idxD (mFld "Ring" "numbers" (mVar 0)) (mC (.int 2))))
def u_Ring_read_number : MD := mkD 1 1 (sRet (mOp idxD (mFld "Ring" "numbers" (mVar 0)) (mC (.int 3))))
def u_Ring_pending : MD := mkD 1 1 (sRet (mOp idxD (mFld "Ring" "words" (mVar 0)) (mC (.int 1))))
def u_Ring_hosts : MD := mkD 1 1 (sRet (mFld "Ring" "held_hosts" (mVar 0)))
def u_Ring_names : MD := mkD 1 1 (sRet (mCall tupleD (aCons (mCallD (fun ds s => lft (sortedDicD ds) s) (aCons (mFld "Ring" "racks" (mVar 0)) (aNil))) (aNil))))
def u_Ring___len__ : MD := mkD 1 1 (sRet (mCall lenD (aCons (mFld "Ring" "held_hosts" (mVar 0)) (aNil))))
def u_Ring___str__ : MD := mkD 1 11 (sSeq (sAsg (gSeq (gsCons (gNm 1) (gsCons (gNm 2) (gsCons (gNm 3) (gsCons (gNm 4) (gsNil)))))) (mFld "Ring" "numbers" (mVar 0))) (sSeq (sSet 5 (mLst (aCons (mC (.str "ring")) (aCons (mCall strD (aCons (mVar 1) (aNil))) (aCons (mCall strD (aCons (mVar 2) (aNil))) (aCons (mProp "Ring" u_Ring_spread (mVar 0)) (aCons (mCall strD (aCons (mVar 3) (aNil))) (aCons (mCall strD (aCons (mVar 4) (aNil))) (aCons (mProp "Ring" u_Ring_pending (mVar 0)) (aNil)))))))))) (sSeq (sOwn 6 (mLc [8, 9, 10] (seqI (mFld "Ring" "held_hosts" (mVar 0))) (cTup [8, 9, 10]) (yesT) (mJoin (mC (.str " ")) (mLst (aCons (mC (.str "host")) (aCons (mVar 8) (aCons (mVar 9) (aStar (mLc [7] (seqI (mVar 10)) (cNm 7) (yesT) (mCall strD (aCons (mVar 7) (aNil)))) (aNil))))))))) (sFrz 6 (sRet (mJoin (mC (.str "\n")) (mLst (aCons (mJoin (mC (.str " ")) (mVar 5)) (aStar (mVar 6) (aNil))))))))))
def u_Ring___bool__ : MD := mkD 1 1 (sRet (mC (.bl true)))
def u_Ring___contains__ : MD := mkD 2 2 (sRet (mAnd (mCall (isiD isiC isiT) (aCons (mVar 1) (aCons (mC (.opq (.ty "str"))) (aNil)))) (mOp inDic (mVar 1) (mFld "Ring" "racks" (mVar 0)))))
def u_check_host : MD := mkD 2 2 (sIf (mT (mOpM (ownNotIn "Ring" u_Ring___contains__) (mVar 1) (mVar 0))) (sDie) (sNil))
def u_Ring___getitem__ : MD := mkD 2 3 (sSeq (sExpr (mCallD u_check_host (aCons (mVar 0) (aCons (mVar 1) (aNil))))) (sRet (mOp idxD (mLc [2] (seqI (mFld "Ring" "held_hosts" (mVar 0))) (cNm 2) (mT (mOp eqD (mOp idxD (mVar 2) (mC (.int 0))) (mVar 1))) (mSl slD (mVar 2) (oSome (mC (.int 1))) (oNone))) (mC (.int 0)))))
def u__law_answer : MD := mkD 2 6 (sSeq (sSet 2 (mLst (aCons (mProp "Ring" u_Ring_points (mVar 0)) (aCons (mProp "Ring" u_Ring_factor (mVar 0)) (aCons (mProp "Ring" u_Ring_spread (mVar 0)) (aCons (mProp "Ring" u_Ring_write (mVar 0)) (aCons (mProp "Ring" u_Ring_read_number (mVar 0)) (aCons (mProp "Ring" u_Ring_pending (mVar 0)) (aCons (mProp "Ring" u_Ring_hosts (mVar 0)) (aCons (mProp "Ring" u_Ring_names (mVar 0)) (aNil))))))))))) (sSeq (sSet 2 (mOp addAll (mVar 2) (mLst (aCons (mCallD (ownD "Ring" u_Ring___len__ okLen) (aCons (mVar 0) (aNil))) (aCons (mCallD (ownD "Ring" u_Ring___str__ okStr) (aCons (mVar 0) (aNil))) (aCons (mCallD (ownD "Ring" u_Ring___bool__ okBool) (aCons (mVar 0) (aNil))) (aNil))))))) (sRet (mCallD reprM (aCons (mOp addAll (mVar 2) (mLst (aCons (mLc [3, 4, 5] (seqI (mVar 1)) (cTup [3, 4, 5]) (yesT) (mOpM (ownSub "Ring" u_Ring___getitem__) (mVar 0) (mVar 3))) (aNil)))) (aNil))))))
def u__law_expected : MD := mkD 1 7 (sSeq (sSet 1 (mOp idxD (mVar 0) (mC (.int 6)))) (sSeq (sSet 2 (mCallD (fun ds s => lft (sortedD ds) s) (aCons (mLc [3, 4, 5] (seqI (mVar 1)) (cTup [3, 4, 5]) (yesT) (mVar 3)) (aNil)))) (sSeq (sSet 6 (mOp addAll (mSl slL (mVar 0) (oNone) (oSome (mC (.int 6)))) (mLst (aCons (mVar 1) (aCons (mCall tupleD (aCons (mVar 2) (aNil))) (aCons (mCall lenD (aCons (mVar 1) (aNil))) (aCons (mCallD u__law_sheet (aCons (mVar 0) (aNil))) (aCons (mC (.bl true)) (aNil))))))))) (sRet (mCallD reprM (aCons (mOp addAll (mVar 6) (mLst (aCons (mLc [3, 4, 5] (seqI (mVar 1)) (cTup [3, 4, 5]) (yesT) (mTup (aCons (mVar 4) (aCons (mVar 5) (aNil))))) (aNil)))) (aNil)))))))
def u__law_known_right : MD := mkD 2 7 (sSeq (sOwn 2 (mLc [3, 4, 5] (seqI (mVar 1)) (cTup [3, 4, 5]) (yesT) (mVar 3))) (sSeq (sFrz 2 (sFor (seqI (mOp addAll (mOp addAll (mOp addAll (mVar 2) (mLc [3] (seqI (mVar 2)) (cNm 3) (yesT) (mSl slD (mVar 3) (oNone) (oSome (mUn negD (mC (.int 1))))))) (mLc [3] (seqI (mVar 2)) (cNm 3) (yesT) (mOp addD (mVar 3) (mC (.str "0"))))) (mLc [3, 4, 5] (seqI (mVar 1)) (cTup [3, 4, 5]) (yesT) (mVar 4)))) (gNm 6) (sIf (mT (mOp neD (mCallD reprM (aCons (mOpM (ownIn "Ring" u_Ring___contains__) (mVar 6) (mVar 0)) (aNil))) (mCallD reprM (aCons (mOp inAD (mVar 6) (mVar 2)) (aNil))))) (sRet (mC (.bl false))) (sNil)))) (sRet (mC (.bl true)))))
def u__law_filled : MD := mkF 2 5 (sSeq (sSet 2 (mIf (mT (mOp ltD (mVar 1) (mCall lenD (aCons (mVar 0) (aNil))))) (mOp idxD (mVar 0) (mVar 1)) (mC (.int 0)))) (sSeq (sSet 3 (mOp addD (mC (.int 90007)) (mOp mulD (mC (.int 4409)) (mVar 1)))) (sSeq (sFor (seqI (mSl slL (mVar 0) (oNone) (oSome (mC (.int 6))))) (gNm 4) (sSet 3 (mOp modD (mCall intD (aCons (mOp addD (mOp addD (mOp mulD (mVar 3) (mC (.int 33347))) (mOp mulD (mVar 4) (mC (.int 11)))) (mC (.int 29))) (aNil))) (mC (.int 2147483543))))) (sRto (mLst (aCons (mIf (tOrZ (mT (mOp ltD (mVar 2) (mC (.int 0)))) (mT (mOp geD (mVar 2) (mOp powD (mC (.int 10)) (mC (.int 18)))))) (mCall absD (aCons (mVar 2) (aNil))) (mC (.int 0))) (aCons (mOp modD (mCall intD (aCons (mOp addD (mOp addD (mOp mulD (mVar 3) (mC (.int 71))) (mOp mulD (mVar 2) (mVar 2))) (mOp mulD (mC (.int 13)) (mVar 1))) (aNil))) (mC (.int 2147483543))) (aCons (mC (.int 0)) (aNil)))))))))
end C
end Z

set_option Elab.async false
set_option linter.all false
set_option maxRecDepth 100000
namespace Z
namespace C
open PySem PySem.Spec PyProof.Rows L2
/-! ### the keg -/
/-- the cells: lists of ints; dicts of tuple keys; code tables -/
def Ks (s : S) : Prop := ∀ d ∈ s, (∃ is : List Int, d = .lst (is.map .int)) ∨ (∃ kk : List (List Key), d = .tup (kk.map kTupD)) ∨ ∃ q, d = .ty q
structure KG (s : S) (n B : Nat) : Prop where
  all : Ks s
  at_ : ∃ a b c : Int, s[n]? = some (.lst [.int a, .int b, .int c]) ∧ 0 ≤ b ∧ b < 2147483648 ∧ 0 ≤ c ∧ c ≤ B
/-- what a call with the keg tells: r with P r; at most k steps of the keg -/
def Dr (md : MD) (ds : List D) (s : S) (n B k : Nat) (P : D → Prop) : Prop := ∃ r s', md ds s = some (r, s') ∧ KG s' n (B + k) ∧ s'.length = s.length ∧ P r
theorem log_le {x : Int} {k : Nat} (h : x.natAbs < 2 ^ (k + 1)) : x.natAbs.log2 ≤ k := by
  by_cases h0 : x.natAbs = 0
  · rw [h0]; simp
  · have := (Nat.log2_lt h0).mpr h
    omega
theorem cmul_ok {i j : Int} (h1 : i.natAbs < 2 ^ 100) (h2 : j.natAbs < 2 ^ 100) : CMulZ i j := by
  unfold CMulZ
  have a := log_le (k := 99) h1
  have b := log_le (k := 99) h2
  omega
theorem kg_set {s : S} {n B : Nat} {a b c : Int} (h : Ks s) (hn : n < s.length) (hb : 0 ≤ b) (hb2 : b < 2147483648) (hc : 0 ≤ c) (hc2 : c ≤ B) : KG (s.set n (.lst [.int a, .int b, .int c])) n B :=
  ⟨fun d hd => by
    rcases List.mem_or_eq_of_mem_set hd with h1 | h1
    · exact h d h1
    · exact .inl ⟨[a, b, c], h1⟩, a, b, c, by rw [List.getElem?_set_self hn], hb, hb2, hc, hc2⟩
theorem dip_ok {s : S} {n B : Nat} {m : Int} (h : KG s n B) (hB : B < 2 ^ 40) (h0 : 0 < m) (h1 : m < 1152921504606846976) : Dr u__law_dip [.cel n, .int m] s n B 1 fun r => ∃ i : Int, r = .int i ∧ 0 ≤ i ∧ i < m := by
  obtain ⟨ha, a, b, c, hs, b0, b1, c0, c1⟩ := h
  have hn : n < s.length := (List.getElem?_eq_some_iff.mp hs).1
  unfold Dr u__law_dip
  by_cases hpos : 0 < a
  · refine ⟨.int (a % m), s.set n (.lst [.int (a / m), .int b, .int c]), ?_, kg_set ha hn b0 b1 c0 (by omega), by simp, _, rfl, Int.emod_nonneg _ (by omega), Int.emod_lt_of_pos _ h0⟩
    simp [mkD, startE, outM, sSeq, seqK, sIf, bndS, bnd, lft, mT, mOp, mOpM, mVar, mC, idxCel, hs, gtD, truD, hpos, sAsg, mCall, aCons, aNil, divmodD, h0, h1, gSeq, gsCons, gsNil, gCel, gNm, sRet, ixN, atI, seqIndex?]
  · have e1 : CMulZ 2 (c + 1) := cmul_ok (by omega) (by omega)
    have e2 : CMulZ b (39877 + 2 * (c + 1)) := cmul_ok (by omega) (by omega)
    have e3 : CMulZ 6151 (c + 1) := cmul_ok (by omega) (by omega)
    generalize hx : (b * (39877 + 2 * (c + 1)) + 6151 * (c + 1) + 3) % 2147483543 = x
    have x0 : 0 ≤ x := by rw [← hx]; exact Int.emod_nonneg _ (by decide)
    have x1 : x < 2147483543 := by rw [← hx]; exact Int.emod_lt_of_pos _ (by decide)
    have e4 : CMulZ x 44491 := cmul_ok (by omega) (by omega)
    have e5 : CMulZ (c + 1) (c + 1) := cmul_ok (by omega) (by omega)
    generalize hy : (x * 44491 + (c + 1) * (c + 1)) % 2147483497 = y
    have y0 : 0 ≤ y := by rw [← hy]; exact Int.emod_nonneg _ (by decide)
    have y1 : y < 2147483497 := by rw [← hy]; exact Int.emod_lt_of_pos _ (by decide)
    have e6 : Nat.log2 512 < 9000 := by decide
    refine ⟨.int (y / 512 % m), (s.set n (.lst [.int a, .int b, .int (c + 1)])).set n (.lst [.int a, .int y, .int (c + 1)]), ?_, ?_, by simp, _, rfl, Int.emod_nonneg _ (by omega), Int.emod_lt_of_pos _ h0⟩
    · have hg : ∀ X : D, (s.set n X)[n]? = some X := fun X => List.getElem?_set_self hn
      simp [mkD, startE, outM, sSeq, seqK, sNil, sIf, bndS, bnd, lft, mT, mOp, mOpM, mVar, mC, idxCel, hs, gtD, truD, hpos, sAsg, mCall, aCons, aNil, h0, h1, gCel, sRet, sSet, ixN, atI, seqIndex?, addD, mulD, modD, fdivD, intD, hg, e1, e2, e3, e4, e5, e6, hx, hy]
    · exact kg_set (n := n) (s := s.set n (.lst [.int a, .int b, .int (c + 1)])) (kg_set (B := B + 1) ha hn b0 b1 (by omega) (by omega)).all (by simpa using hn) y0 (by omega) (by omega) (by omega)
theorem at_mem {ds : List D} {i : Int} (h0 : 0 ≤ i) (h1 : i < ds.length) : ∃ d, atI ds i = some d ∧ d ∈ ds := by
  have hj : i.toNat < ds.length := by omega
  refine ⟨ds[i.toNat], ?_, List.getElem_mem hj⟩
  have e1 : (i.toNat : Int) = i := by omega
  simp [atI, ixN, h0, h1, hj]
theorem of_ok {s : S} {n B : Nat} {ds : List D} (h : KG s n B) (hB : B < 2 ^ 40) (h0 : 0 < ds.length) (h1 : ds.length < 1073741824) : Dr u__law_of [.cel n, .lst ds] s n B 1 fun r => r ∈ ds := by
  obtain ⟨r, s', e, hk, hl, i, rfl, i0, i1⟩ := dip_ok (m := ds.length) h hB (by omega) (by omega)
  obtain ⟨d, e2, hd⟩ := at_mem i0 i1
  exact ⟨d, s', by simp [u__law_of, mkD, startE, outM, sRet, bndS, bnd, lft, mOp, mVar, mCallD, mCall, aCons, aNil, lenD, e, idxD, e2], hk, hl, hd⟩
theorem KG.le {s : S} {n B B' : Nat} (h : KG s n B) (hb : B ≤ B') : KG s n B' := ⟨h.all, let ⟨a, b, c, q, b0, b1, c0, c1⟩ := h.at_; ⟨a, b, c, q, b0, b1, c0, by omega⟩⟩
/-! ### names -/
abbrev sL : Str := "abcdefghijklmnopqrstuvwxyz"
abbrev sD : Str := "0123456789"
def cL : List Nat := [97, 98, 99, 100, 101, 102, 103, 104, 105, 106, 107, 108, 109, 110, 111, 112, 113, 114, 115, 116, 117, 118, 119, 120, 121, 122]
def cD : List Nat := [48, 49, 50, 51, 52, 53, 54, 55, 56, 57]
theorem len_cps (x : Str) : x.length = x.cps.toList.length := by simp [Str.length]
/-- the codes of a name -/
def NmC (l : List Nat) : Prop := ∃ c cs, l = c :: cs ∧ c ∈ cL ∧ (∀ d ∈ cs, d ∈ cL ++ cD) ∧ cs.length ≤ 7
def Nm (x : Str) : Prop := NmC x.cps.toList
instance (l : List Nat) : Decidable (NmC l) := match l with
  | [] => isFalse fun ⟨_, _, e, _⟩ => by cases e
  | c :: cs => if h : c ∈ cL ∧ (∀ d ∈ cs, d ∈ cL ++ cD) ∧ cs.length ≤ 7 then isTrue ⟨c, cs, rfl, h⟩ else isFalse fun ⟨c', cs', e, q⟩ => h (by cases e; exact q)
instance (x : Str) : Decidable (Nm x) := inferInstanceAs (Decidable (NmC _))
theorem Dr.le {md : MD} {ds : List D} {s : S} {n B k k' : Nat} {P P' : D → Prop} (h : Dr md ds s n B k P) (hk : k ≤ k') (hp : ∀ r, P r → P' r) : Dr md ds s n B k' P' := let ⟨r, s', e, a, b, c⟩ := h; ⟨r, s', e, a.le (by omega), b, hp r c⟩
/-- no name that is drawn is "newer" -/
def NN (x : Str) : Prop := x.cps.toList.length ≠ 5 ∨ x.cps.toList.getLast? ≠ some 114
instance (x : Str) : Decidable (NN x) := inferInstanceAs (Decidable (_ ∨ _))
end C
end Z

set_option Elab.async false
set_option linter.all false
set_option maxRecDepth 100000
namespace Z
namespace C
open PySem PySem.Spec PyProof.Rows L2
theorem nm_len {x : Str} (h : Nm x) : 1 ≤ x.length ∧ x.length ≤ 8 := by
  obtain ⟨c, cs, e, h1, h2, h3⟩ := h
  rw [len_cps, e]
  simp
  omega
def spL : List Str := ["a", "b", "a1", "a2", "zz9", "q", "r1", "x", "y", "z", "h0", "h1"]
theorem spL_nd : spL.Nodup := by decide +kernel
/-- one of the spare names is free -/
theorem spare_free {fs : List Str} (h : fs.length < 12) (t : Str) : ∃ y, ((t :: spL).filter fun x => !decide (x ∈ fs)).head? = some y ∧ (y = t ∨ y ∈ spL) ∧ y ∉ fs := by
  have ex : ∃ y ∈ spL, y ∉ fs := by
    refine Classical.byContradiction fun hn => ?_
    have sub : ∀ y ∈ spL, y ∈ fs := fun y hy => Classical.byContradiction fun z => hn ⟨y, hy, z⟩
    have := spL_nd.length_le_of_subset sub
    have l : spL.length = 12 := rfl
    omega
  obtain ⟨z, hz, hz2⟩ := ex
  have hm : z ∈ (t :: spL).filter fun x => !decide (x ∈ fs) := by
    rw [List.mem_filter]
    exact ⟨List.mem_cons_of_mem _ hz, by simp [hz2]⟩
  cases hl : (t :: spL).filter fun x => !decide (x ∈ fs) with
  | nil => rw [hl] at hm; cases hm
  | cons y r =>
    have hy : y ∈ (t :: spL).filter fun x => !decide (x ∈ fs) := by rw [hl]; simp
    rw [List.mem_filter] at hy
    refine ⟨y, rfl, ?_, by simpa using hy.2⟩
    rcases List.mem_cons.mp hy.1 with e | e
    · exact .inl e
    · exact .inr e
theorem filter_strs (p : Str → Bool) (q : D → Bool) (h : ∀ x, q (.str x) = p x) : ∀ xs : List Str, (xs.map D.str).filter q = (xs.filter p).map D.str
  | [] => rfl
  | x :: r => by
    rw [List.map_cons, List.filter_cons, List.filter_cons, h x, filter_strs p q h r]
    split <;> simp
theorem free_ok {s : S} {v0 v1 v4 : Sl} {fs : List Str} {t : Str} (hs : s.all noC = true) (h : fs.length < 12) : ∃ y, mBor 3 (mOp idxD (mLc [6] (seqI (mOp addAll (mLst (aCons (mVar 5) (aNil))) (mVar 2))) (cNm 6) (mT (mOp notInAD (mVar 6) (mVar 3))) (mVar 6)) (mC (.int 0))) [v0, v1, .val (.lst (spL.map .str)), .own (.lst (fs.map .str)), v4, .val (.str t), .unb] s = some (.str y, s) ∧ (y = t ∨ y ∈ spL) ∧ y ∉ fs := by
  obtain ⟨y, h1, h2, h3⟩ := spare_free h t
  refine ⟨y, ?_, h2, h3⟩
  have hl := lc_pure (mc := cNm 6) (mt := mT (mOp notInAD (mVar 6) (mVar 3))) (me := mVar 6) (e := [v0, v1, .val (.lst (spL.map .str)), .val (.lst (fs.map .str)), v4, .val (.str t), .unb]) (s := s)
    (fun d => [v0, v1, .val (.lst (spL.map .str)), .val (.lst (fs.map .str)), v4, .val (.str t), .val d]) (fun d => match d with | .str x => !decide (x ∈ fs) | _ => false) id ((t :: spL).map .str) (fun d hd => by
      obtain ⟨x, _, rfl⟩ := List.mem_map.mp hd
      refine ⟨rfl, ?_, fun _ => rfl⟩
      simp [mT, mOp, mVar, bnd, lft, notInAD, inA_str, truD])
  have hf := filter_strs (fun x => !decide (x ∈ fs)) (fun d => match d with | .str x => !decide (x ∈ fs) | _ => false) (fun x => rfl) (t :: spL)
  have hf : List.filter (fun d => match d with | .str x => !decide (x ∈ fs) | _ => false) ((t :: spL).map D.str) = ((t :: spL).filter fun x => !decide (x ∈ fs)).map D.str := hf
  rw [hf] at hl
  obtain ⟨r, hr⟩ : ∃ r, (t :: spL).filter (fun x => !decide (x ∈ fs)) = y :: r := by
    cases e : (t :: spL).filter (fun x => !decide (x ∈ fs)) with
    | nil => rw [e] at h1; cases h1
    | cons a r => rw [e] at h1; cases h1; exact ⟨r, rfl⟩
  rw [hr] at hl
  have hlen : r.length + 1 ≤ 13 := by
    have := List.length_filter_le (fun x => !decide (x ∈ fs)) (t :: spL)
    rw [hr] at this
    have l : spL.length = 12 := rfl
    simp only [List.length_cons, l] at this
    omega
  have q1 : r.length + 1 ≤ sizeLine := by rw [sizeLine_eq]; omega
  have q2 : (1 : Nat) ≤ sizeLine := by rw [sizeLine_eq]; omega
  have q3 : (13 : Nat) ≤ sizeLine := by rw [sizeLine_eq]; omega
  have hl' : lcL (cNm 6) (mT (mOp notInAD (mVar 6) (mVar 3))) (mVar 6) [v0, v1, .val (.lst (spL.map .str)), .val (.lst (fs.map .str)), v4, .val (.str t), .unb] (D.str t :: spL.map D.str) s = some (D.str y :: r.map D.str, s) := by simpa using hl
  have cat : addAll (.lst [.str t]) (.lst (spL.map D.str)) = some (.lst (D.str t :: spL.map D.str)) := by
    simp [addAll, addD, catD, q3, show spL.length = 12 from rfl]
  simp [mBor, bnd, frzE, mOp, mLc, seqI, mLst, aCons, aNil, mVar, cat, wipeE, hl', q1, q2, lft, mC, idxD, atI, ixN, noL, hs]
abbrev sE : Str := "0123456789ab"
def cE : List Nat := [48, 49, 50, 51, 52, 53, 54, 55, 56, 57, 97, 98]
/-- so many names, no two alike -/
structure Nms0 (fs : List Str) (k : Nat) : Prop where
  len : fs.length = k
  nd : fs.Nodup
  nm : ∀ x ∈ fs, Nm x
  nn : ∀ x ∈ fs, NN x
end C
end Z

set_option Elab.async false
set_option linter.all false
set_option maxRecDepth 100000
namespace Z
namespace C
open PySem PySem.Spec PyProof.Rows L2
/-! ### racks, rules, widths -/
theorem p18 : powD (.int 10) (.int 18) = some (.int 1000000000000000000) := by simp [powD]
end C
end Z

set_option Elab.async false
set_option linter.all false
set_option maxRecDepth 100000
namespace Z
namespace C
open PySem PySem.Spec PyProof.Rows L2
/-! ### free points -/
end C
end Z

set_option Elab.async false
set_option linter.all false
set_option maxRecDepth 100000
namespace Z
open PySem PySem.Spec PyProof.Rows L2
end Z

set_option Elab.async false
set_option linter.all false
set_option maxRecDepth 100000
namespace Z
namespace C
open PySem PySem.Spec PyProof.Rows L2
/-! ### a crew of hosts -/
structure Host where
  nm : Str
  rk : Str
  ms : List Int
def Host.D (h : Host) : D := .tup [.str h.nm, .str h.rk, .tup (h.ms.map .int)]
def crewD (hs : List Host) : D := .tup (hs.map Host.D)
/-- marks of hosts on z points, no two alike, ascending, at most k each -/
structure HsOk (z : Int) (k : Nat) (hs : List Host) : Prop where
  nd : (hs.map (·.nm)).Nodup
  nm : ∀ h ∈ hs, Nm h.nm ∧ Nm h.rk
  ne : ∀ h ∈ hs, h.ms ≠ [] ∧ h.ms.length ≤ k
  up : ∀ h ∈ hs, h.ms.Pairwise (· < ·)
  inz : ∀ h ∈ hs, ∀ m ∈ h.ms, 0 ≤ m ∧ m < z
  apart : (hs.flatMap (·.ms)).Nodup
end C
end Z

set_option Elab.async false
set_option linter.all false
set_option maxRecDepth 100000
namespace Z
namespace C
open PySem PySem.Spec PyProof.Rows L2
/-- what a turn of the crew's loop keeps -/
structure CrewI (z : Int) (E K i : Nat) (tags bays : List Str) (hs : List Host) (tk : List Int) : Prop where
  ok : HsOk z E hs
  names : hs.map (·.nm) = tags.take i
  perm : tk.Perm (hs.flatMap (·.ms))
  room : (tk.length : Int) + (K - i) ≤ z
  small : tk.length ≤ 16 * i
abbrev bandTurn : MS := sSeq (sPar [10, 11] (xOwn (mLst (aNil)) (xVal (mBor 5 (mOp subD (mOp subD (mVar 1) (mCall lenD (aCons (mVar 5) (aNil)))) (mOp subD (mOp subD (mVar 4) (mC (.int 1))) (mVar 9)))) (xNil)))) (sSeq (sFor (rngI (aCons (mCall min2D (aCons (mOp addD (mC (.int 1)) (mCallD u__law_dip (aCons (mVar 0) (aCons (mVar 3) (aNil))))) (aCons (mVar 11) (aNil)))) (aNil))) (gNm 12) (sSeq (sSet 13 (mBor 5 (mCallD u__law_free (aCons (mVar 1) (aCons (mVar 5) (aCons (mCallD u__law_place (aCons (mVar 0) (aCons (mVar 1) (aCons (mVar 5) (aNil))))) (aNil))))))) (sSeq (sApp 10 (mVar 13)) (sApp 5 (mVar 13))))) (sFrz 10 (sApp 6 (mTup (aCons (mOp idxD (mVar 7) (mVar 9)) (aCons (mOp idxD (mVar 8) (mVar 9)) (aCons (mCall tupleD (aCons (mCallD (fun ds s => lft (sortedD ds) s) (aCons (mVar 10) (aNil))) (aNil))) (aNil))))))))
end C
end Z

set_option Elab.async false
set_option linter.all false
set_option maxRecDepth 100000
namespace Z
namespace C
open PySem PySem.Spec PyProof.Rows L2
end C
end Z

set_option Elab.async false
set_option linter.all false
set_option maxRecDepth 100000
set_option maxHeartbeats 4000000
set_option hygiene false
local macro_rules | `(tactic| eq_refl) => `(tactic| ((with_reducible apply Z.wp_app); exact rfl))
local macro_rules | `(tactic| eq_refl) => `(tactic| with_reducible refine Z.wp_cont ?_)
local macro_rules | `(tactic| eq_refl) => `(tactic| with_reducible refine Z.wp_brk ?_)
local macro_rules | `(tactic| eq_refl) => `(tactic| with_reducible refine Z.wp_retn ?_)
local macro_rules | `(tactic| eq_refl) => `(tactic| (with_reducible refine Z.wp_rto ?_; with_reducible refine Z.on_cut ?_; intro zP zhP))
local macro_rules | `(tactic| eq_refl) => `(tactic| (with_reducible refine Z.wp_par ?_; with_reducible refine Z.on_cut ?_; intro zP zhP))
local macro_rules | `(tactic| eq_refl) => `(tactic| (with_reducible refine Z.wp_for ?_; with_reducible refine Z.on_cut ?_; intro zP zhP))
local macro_rules | `(tactic| eq_refl) => `(tactic| with_reducible refine Z.wp_frz ?_)
local macro_rules | `(tactic| eq_refl) => `(tactic| (with_reducible refine Z.wp_asg ?_; with_reducible refine Z.on_cut ?_; intro zP zhP))
local macro_rules | `(tactic| eq_refl) => `(tactic| (with_reducible refine Z.wp_own ?_; with_reducible refine Z.on_cut ?_; intro zP zhP))
local macro_rules | `(tactic| eq_refl) => `(tactic| (with_reducible refine Z.wp_expr ?_; with_reducible refine Z.on_cut ?_; intro zP zhP))
local macro_rules | `(tactic| eq_refl) => `(tactic| with_reducible refine Z.wp_nil ?_)
local macro_rules | `(tactic| eq_refl) => `(tactic| (with_reducible refine Z.wp_sif ?_; with_reducible refine Z.on_cut ?_; intro zP zhP))
local macro_rules | `(tactic| eq_refl) => `(tactic| (with_reducible refine Z.wp_ret ?_; with_reducible refine Z.on_cut ?_; intro zP zhP))
local macro_rules | `(tactic| eq_refl) => `(tactic| (with_reducible refine Z.wp_set ?_; with_reducible refine Z.on_cut ?_; intro zP zhP))
local macro_rules | `(tactic| eq_refl) => `(tactic| with_reducible refine Z.wp_seq ?_)
local macro_rules | `(tactic| infer_instance) => `(tactic| with_reducible refine Z.wp_chainLe ?_)
local macro_rules | `(tactic| infer_instance) => `(tactic| with_reducible refine Z.wp_ownNotIn ?_)
local macro_rules | `(tactic| infer_instance) => `(tactic| with_reducible refine Z.wp_ownIn ?_)
local macro_rules | `(tactic| infer_instance) => `(tactic| with_reducible refine Z.wp_ownSub ?_)
local macro_rules | `(tactic| infer_instance) => `(tactic| with_reducible refine Z.wp_ownD ?_)
local macro_rules | `(tactic| infer_instance) => `(tactic| with_reducible refine Z.wp_cm ?_)
local macro_rules | `(tactic| infer_instance) => `(tactic| ((with_reducible apply Z.wp_cls); exact rfl))
local macro_rules | `(tactic| infer_instance) => `(tactic| with_reducible refine Z.wp_pick ?_)
local macro_rules | `(tactic| infer_instance) => `(tactic| with_reducible refine Z.wp_make ?_)
local macro_rules | `(tactic| infer_instance) => `(tactic| with_reducible refine Z.wp_dc2 ?_)
local macro_rules | `(tactic| infer_instance) => `(tactic| with_reducible refine Z.wp_dc ?_)
local macro_rules | `(tactic| infer_instance) => `(tactic| with_reducible refine Z.wp_lc2 ?_)
local macro_rules | `(tactic| infer_instance) => `(tactic| with_reducible refine Z.wp_msplit ?_)
local macro_rules | `(tactic| infer_instance) => `(tactic| with_reducible refine Z.wp_mrev ?_)
local macro_rules | `(tactic| infer_instance) => `(tactic| with_reducible refine Z.wp_oNe ?_)
local macro_rules | `(tactic| infer_instance) => `(tactic| with_reducible refine Z.wp_oEq ?_)
local macro_rules | `(tactic| infer_instance) => `(tactic| with_reducible refine Z.wp_dic0 ?_)
local macro_rules | `(tactic| infer_instance) => `(tactic| with_reducible refine Z.wp_mget ?_)
local macro_rules | `(tactic| infer_instance) => `(tactic| with_reducible refine Z.wp_meth0 ?_)
local macro_rules | `(tactic| infer_instance) => `(tactic| with_reducible refine Z.wp_methK ?_)
local macro_rules | `(tactic| infer_instance) => `(tactic| with_reducible refine Z.wp_meth ?_)
local macro_rules | `(tactic| infer_instance) => `(tactic| with_reducible refine Z.wp_mjoin ?_)
local macro_rules | `(tactic| infer_instance) => `(tactic| with_reducible refine Z.wp_lc ?_)
local macro_rules | `(tactic| infer_instance) => `(tactic| with_reducible refine Z.wp_lft ?_)
local macro_rules | `(tactic| infer_instance) => `(tactic| with_reducible refine Z.wp_cel ?_)
local macro_rules | `(tactic| infer_instance) => `(tactic| with_reducible refine Z.wp_prop ?_)
local macro_rules | `(tactic| infer_instance) => `(tactic| with_reducible refine Z.wp_fld ?_)
local macro_rules | `(tactic| infer_instance) => `(tactic| with_reducible refine Z.wp_sl ?_)
local macro_rules | `(tactic| infer_instance) => `(tactic| with_reducible refine Z.wp_or ?_)
local macro_rules | `(tactic| infer_instance) => `(tactic| with_reducible refine Z.wp_and ?_)
local macro_rules | `(tactic| infer_instance) => `(tactic| with_reducible refine Z.wp_if ?_)
local macro_rules | `(tactic| infer_instance) => `(tactic| with_reducible refine Z.wp_lst ?_)
local macro_rules | `(tactic| infer_instance) => `(tactic| with_reducible refine Z.wp_tup ?_)
local macro_rules | `(tactic| infer_instance) => `(tactic| with_reducible refine Z.wp_fbor ?_)
local macro_rules | `(tactic| infer_instance) => `(tactic| with_reducible refine Z.wp_bor ?_)
local macro_rules | `(tactic| infer_instance) => `(tactic| with_reducible refine Z.wp_un ?_)
local macro_rules | `(tactic| infer_instance) => `(tactic| with_reducible refine Z.wp_opM ?_)
local macro_rules | `(tactic| infer_instance) => `(tactic| with_reducible refine Z.wp_op ?_)
local macro_rules | `(tactic| infer_instance) => `(tactic| with_reducible refine Z.wp_call ?_)
local macro_rules | `(tactic| infer_instance) => `(tactic| with_reducible refine Z.wp_callD ?_)
local macro_rules | `(tactic| infer_instance) => `(tactic| with_reducible refine Z.wp_c ?_)
local macro_rules | `(tactic| infer_instance) => `(tactic| ((with_reducible apply Z.wp_var); exact rfl))
local macro_rules | `(tactic| symm) => `(tactic| ((with_reducible apply Z.on1_some); exact rfl))
local macro_rules | `(tactic| symm) => `(tactic| ((with_reducible refine Z.wp_addS ?_ ?_); first | assumption | omega))
local macro_rules | `(tactic| symm) => `(tactic| ((with_reducible refine Z.wp_catT ?_ ?_); first | assumption | (simp; done) | omega | (simp only [List.length_map, List.length_cons, List.length_nil, List.length_append]; omega) | (simp; omega)))
local macro_rules | `(tactic| symm) => `(tactic| ((with_reducible refine Z.wp_catL ?_ ?_); first | assumption | (simp; done) | omega | (simp only [List.length_map, List.length_cons, List.length_nil, List.length_append]; omega) | (simp; omega)))
local macro_rules | `(tactic| symm) => `(tactic| ((with_reducible refine Z.wp_addL ?_ ?_); first | assumption | (simp; done) | omega | (simp only [List.length_map, List.length_cons, List.length_nil, List.length_append]; omega) | (simp; omega)))
local macro_rules | `(tactic| symm) => `(tactic| with_reducible refine Z.wp_neS ?_)
local macro_rules | `(tactic| symm) => `(tactic| with_reducible refine Z.wp_eqS ?_)
local macro_rules | `(tactic| symm) => `(tactic| with_reducible refine Z.wp_neI ?_)
local macro_rules | `(tactic| symm) => `(tactic| with_reducible refine Z.wp_eqI ?_)
local macro_rules | `(tactic| symm) => `(tactic| ((with_reducible apply Z.wp_ixL); exact rfl; first | decide | omega))
local macro_rules | `(tactic| symm) => `(tactic| ((with_reducible apply Z.wp_ixT); exact rfl; first | decide | omega))
local macro_rules | `(tactic| symm) => `(tactic| with_reducible refine Z.wp_slT ?_)
local macro_rules | `(tactic| symm) => `(tactic| with_reducible refine Z.wp_any ?_)
local macro_rules | `(tactic| symm) => `(tactic| with_reducible refine Z.wp_revL ?_)
local macro_rules | `(tactic| symm) => `(tactic| with_reducible refine Z.wp_revT ?_)
local macro_rules | `(tactic| symm) => `(tactic| with_reducible refine Z.wp_all ?_)
local macro_rules | `(tactic| symm) => `(tactic| with_reducible refine Z.wp_ninIL ?_)
local macro_rules | `(tactic| symm) => `(tactic| with_reducible refine Z.wp_inIL ?_)
local macro_rules | `(tactic| symm) => `(tactic| with_reducible refine Z.wp_ninSL ?_)
local macro_rules | `(tactic| symm) => `(tactic| with_reducible refine Z.wp_ninST ?_)
local macro_rules | `(tactic| symm) => `(tactic| with_reducible refine Z.wp_inST ?_)
local macro_rules | `(tactic| symm) => `(tactic| with_reducible refine Z.wp_inSL ?_)
local macro_rules | `(tactic| symm) => `(tactic| ((with_reducible refine Z.wp_lenS ?_ ?_); first | assumption | omega))
local macro_rules | `(tactic| symm) => `(tactic| with_reducible refine Z.wp_lenT ?_)
local macro_rules | `(tactic| symm) => `(tactic| with_reducible refine Z.wp_lenL ?_)
local macro_rules | `(tactic| symm) => `(tactic| with_reducible refine Z.wp_inC ?_)
local macro_rules | `(tactic| symm) => `(tactic| with_reducible refine Z.wp_isiTs ?_)
local macro_rules | `(tactic| symm) => `(tactic| with_reducible refine Z.wp_isiT ?_)
local macro_rules | `(tactic| symm) => `(tactic| with_reducible refine Z.wp_isiSi ?_)
local macro_rules | `(tactic| symm) => `(tactic| with_reducible refine Z.wp_isiS ?_)
local macro_rules | `(tactic| symm) => `(tactic| with_reducible refine Z.wp_isiIs ?_)
local macro_rules | `(tactic| symm) => `(tactic| with_reducible refine Z.wp_isiIb ?_)
local macro_rules | `(tactic| symm) => `(tactic| with_reducible refine Z.wp_isiI ?_)
local macro_rules | `(tactic| symm) => `(tactic| ((with_reducible refine Z.wp_fdiv ?_ ?_ ?_); (first | assumption | decide | omega); (first | assumption | decide | omega)))
local macro_rules | `(tactic| symm) => `(tactic| ((with_reducible refine Z.wp_mod ?_ ?_); first | assumption | decide | omega))
local macro_rules | `(tactic| symm) => `(tactic| ((with_reducible refine Z.wp_mul ?_ ?_); first | assumption | decide | omega))
local macro_rules | `(tactic| bv_omega) => `(tactic| with_reducible refine Z.wp_chC ?_)
local macro_rules | `(tactic| bv_omega) => `(tactic| refine Z.wp_brF ?_)
local macro_rules | `(tactic| bv_omega) => `(tactic| refine Z.wp_brT ?_)
local macro_rules | `(tactic| bv_omega) => `(tactic| with_reducible refine Z.wp_exi1 ?_)
local macro_rules | `(tactic| bv_omega) => `(tactic| with_reducible refine Z.wp_exi ?_)
local macro_rules | `(tactic| bv_omega) => `(tactic| with_reducible refine Z.wp_exe ?_)
local macro_rules | `(tactic| bv_omega) => `(tactic| ((with_reducible refine Z.wp_exI ?_ ?_ ?_); omega; omega))
local macro_rules | `(tactic| bv_omega) => `(tactic| with_reducible refine Z.wp_exO ?_)
local macro_rules | `(tactic| bv_omega) => `(tactic| with_reducible refine Z.wp_exT ?_)
local macro_rules | `(tactic| bv_omega) => `(tactic| with_reducible refine Z.wp_exL ?_)
local macro_rules | `(tactic| bv_omega) => `(tactic| ((with_reducible refine Z.wp_rngq ?_ ?_ ?_); omega; omega))
local macro_rules | `(tactic| bv_omega) => `(tactic| ((with_reducible refine Z.wp_len ?_ ?_); exact rfl))
local macro_rules | `(tactic| bv_omega) => `(tactic| ((with_reducible refine Z.wp_sz ?_ ?_); first | exact Nat.le_of_ble_eq_true rfl | (simp only [List.length_map, List.length_cons, List.length_nil, List.length_append]; omega)))
local macro_rules | `(tactic| bv_omega) => `(tactic| with_reducible refine Z.wp_brNF ?_)
local macro_rules | `(tactic| bv_omega) => `(tactic| with_reducible refine Z.wp_brNT ?_)
local macro_rules | `(tactic| bv_omega) => `(tactic| with_reducible refine Z.wp_brF ?_)
local macro_rules | `(tactic| bv_omega) => `(tactic| with_reducible refine Z.wp_brT ?_)
local macro_rules | `(tactic| bv_omega) => `(tactic| ((with_reducible apply Z.wp_gk); exact rfl))
local macro_rules | `(tactic| bv_omega) => `(tactic| ((with_reducible refine Z.wp_mk ?_ ?_); exact rfl))
local macro_rules | `(tactic| bv_omega) => `(tactic| with_reducible refine Z.wp_exStr ?_)
local macro_rules | `(tactic| bv_omega) => `(tactic| ((with_reducible refine Z.is_On ?_); first
      | with_reducible refine Z.wp_onone ?_
      | with_reducible refine Z.wp_osome ?_
      | with_reducible refine Z.wp_gnm ?_
      | with_reducible refine Z.wp_gscons ?_
      | with_reducible refine Z.wp_gsnil ?_
      | with_reducible refine Z.wp_gseqT ?_
      | with_reducible refine Z.wp_gseqL ?_
      | with_reducible refine Z.wp_xnil ?_
      | with_reducible refine Z.wp_xval ?_
      | with_reducible refine Z.wp_xown ?_
      | with_reducible refine Z.wp_nnil ?_
      | with_reducible refine Z.wp_nseq ?_
      | with_reducible refine Z.wp_nexpr ?_
      | with_reducible refine Z.wp_nnot ?_
      | ((with_reducible refine Z.wp_nfld ?_ ?_); exact Nat.le_of_ble_eq_true rfl)))
local macro_rules | `(tactic| bv_omega) => `(tactic| ((with_reducible refine Z.is_On1 ?_); symm))
local macro_rules | `(tactic| bv_omega) => `(tactic| ((with_reducible refine Z.is_OnB ?_); first
      | with_reducible refine Z.wp_t ?_
      | with_reducible refine Z.wp_tand ?_
      | with_reducible refine Z.wp_tor ?_
      | with_reducible refine Z.wp_tnot ?_
      | with_reducible refine Z.wp_tbor ?_
      | with_reducible refine Z.wp_yes ?_))
local macro_rules | `(tactic| bv_omega) => `(tactic| ((with_reducible refine Z.is_OnL ?_); first
      | with_reducible refine Z.wp_acons ?_
      | with_reducible refine Z.wp_anil ?_
      | with_reducible refine Z.wp_none ?_
      | with_reducible refine Z.wp_astar ?_
      | with_reducible refine Z.wp_rng ?_
      | with_reducible refine Z.wp_seq' ?_
      | with_reducible refine Z.wp_enum ?_
      | with_reducible refine Z.wp_zip ?_))
local macro_rules | `(tactic| bv_omega) => `(tactic| ((with_reducible refine Z.is_OnD ?_); infer_instance))
local macro_rules | `(tactic| bv_omega) => `(tactic| ((with_reducible refine Z.is_OnS ?_); eq_refl))
local macro_rules | `(tactic| bv_omega) => `(tactic| ((with_reducible apply Z.nrm7); (simp only [Z.startE, Z.startI, Z.setX, Z.setD, Z.wipeE, Z.frzE, Z.zset0, Z.zsets, Z.zmap_cons, Z.zmap_nil, Z.zrep0, Z.zreps, Z.zapp_cons, Z.zapp_nil, Z.zapp_nil', Z.zget0, Z.zgets, Nat.sub_self, Nat.reduceSub]; exact rfl)))
local macro_rules | `(tactic| bv_omega) => `(tactic| ((with_reducible apply Z.nrm6); (simp only [Z.startE, Z.startI, Z.setX, Z.setD, Z.wipeE, Z.frzE, Z.zset0, Z.zsets, Z.zmap_cons, Z.zmap_nil, Z.zrep0, Z.zreps, Z.zapp_cons, Z.zapp_nil, Z.zapp_nil', Z.zget0, Z.zgets, Nat.sub_self, Nat.reduceSub]; exact rfl)))
local macro_rules | `(tactic| bv_omega) => `(tactic| ((with_reducible apply Z.nrm5); (simp only [Z.startE, Z.startI, Z.setX, Z.setD, Z.wipeE, Z.frzE, Z.zset0, Z.zsets, Z.zmap_cons, Z.zmap_nil, Z.zrep0, Z.zreps, Z.zapp_cons, Z.zapp_nil, Z.zapp_nil', Z.zget0, Z.zgets, Nat.sub_self, Nat.reduceSub]; exact rfl)))
local macro_rules | `(tactic| bv_omega) => `(tactic| ((with_reducible apply Z.nrm4); (simp only [Z.startE, Z.startI, Z.setX, Z.setD, Z.wipeE, Z.frzE, Z.zset0, Z.zsets, Z.zmap_cons, Z.zmap_nil, Z.zrep0, Z.zreps, Z.zapp_cons, Z.zapp_nil, Z.zapp_nil', Z.zget0, Z.zgets, Nat.sub_self, Nat.reduceSub]; exact rfl)))
local macro_rules | `(tactic| bv_omega) => `(tactic| ((with_reducible apply Z.nrm1); (simp only [Z.startE, Z.startI, Z.setX, Z.setD, Z.wipeE, Z.frzE, Z.zset0, Z.zsets, Z.zmap_cons, Z.zmap_nil, Z.zrep0, Z.zreps, Z.zapp_cons, Z.zapp_nil, Z.zapp_nil', Z.zget0, Z.zgets, Nat.sub_self, Nat.reduceSub]; exact rfl)))
local macro_rules | `(tactic| bv_omega) => `(tactic| ((with_reducible apply Z.nrmS4); (simp only [Z.startE, Z.startI, Z.setX, Z.setD, Z.wipeE, Z.frzE, Z.zset0, Z.zsets, Z.zmap_cons, Z.zmap_nil, Z.zrep0, Z.zreps, Z.zapp_cons, Z.zapp_nil, Z.zapp_nil', Z.zget0, Z.zgets, Nat.sub_self, Nat.reduceSub]; exact rfl)))
local macro_rules | `(tactic| bv_omega) => `(tactic| ((with_reducible apply Z.nrmS3); (simp only [Z.startE, Z.startI, Z.setX, Z.setD, Z.wipeE, Z.frzE, Z.zset0, Z.zsets, Z.zmap_cons, Z.zmap_nil, Z.zrep0, Z.zreps, Z.zapp_cons, Z.zapp_nil, Z.zapp_nil', Z.zget0, Z.zgets, Nat.sub_self, Nat.reduceSub]; exact rfl)))
local macro_rules | `(tactic| bv_omega) => `(tactic| ((with_reducible apply Z.nrmS2); (simp only [Z.startE, Z.startI, Z.setX, Z.setD, Z.wipeE, Z.frzE, Z.zset0, Z.zsets, Z.zmap_cons, Z.zmap_nil, Z.zrep0, Z.zreps, Z.zapp_cons, Z.zapp_nil, Z.zapp_nil', Z.zget0, Z.zgets, Nat.sub_self, Nat.reduceSub]; exact rfl)))
local macro_rules | `(tactic| bv_omega) => `(tactic| ((with_reducible apply Z.nrmS1); (simp only [Z.startE, Z.startI, Z.setX, Z.setD, Z.wipeE, Z.frzE, Z.zset0, Z.zsets, Z.zmap_cons, Z.zmap_nil, Z.zrep0, Z.zreps, Z.zapp_cons, Z.zapp_nil, Z.zapp_nil', Z.zget0, Z.zgets, Nat.sub_self, Nat.reduceSub]; exact rfl)))
local macro_rules | `(tactic| bv_omega) => `(tactic| (with_reducible refine Z.cut_end zhP ?_; clear zhP zP))
local macro_rules | `(tactic| fail) => `(tactic| with_reducible refine And.intro (by assumption) ?_)
local macro_rules | `(tactic| fail) => `(tactic| with_reducible refine ⟨_, rfl, ?_⟩)
local macro_rules | `(tactic| fail) => `(tactic| with_reducible refine ⟨rfl, ?_⟩)
local macro_rules | `(tactic| fail) => `(tactic| with_reducible exact ⟨rfl, rfl⟩)
local macro_rules | `(tactic| fail) => `(tactic| with_reducible rw [Z.zcut3])
local macro_rules | `(tactic| fail) => `(tactic| with_reducible rw [Z.zcut6])
local macro_rules | `(tactic| fail) => `(tactic| with_reducible rw [Z.dec_self])
local macro_rules | `(tactic| fail) => `(tactic| with_reducible refine Z.wp_lcNil ?_)
local macro_rules | `(tactic| fail) => `(tactic| with_reducible refine Z.wp_lcCons ?_)
local macro_rules | `(tactic| fail) => `(tactic| with_reducible refine Z.wp_forNil ?_)
local macro_rules | `(tactic| fail) => `(tactic| with_reducible refine Z.wp_forCons ?_)
local macro_rules | `(tactic| fail) => `(tactic| with_reducible refine Z.wp_chC ?_)
local macro_rules | `(tactic| fail) => `(tactic| refine Z.wp_brF ?_)
local macro_rules | `(tactic| fail) => `(tactic| refine Z.wp_brT ?_)
local macro_rules | `(tactic| fail) => `(tactic| with_reducible refine Z.wp_exi1 ?_)
local macro_rules | `(tactic| fail) => `(tactic| with_reducible refine Z.wp_exi ?_)
local macro_rules | `(tactic| fail) => `(tactic| with_reducible refine Z.wp_exe ?_)
local macro_rules | `(tactic| fail) => `(tactic| ((with_reducible refine Z.wp_exI ?_ ?_ ?_); omega; omega))
local macro_rules | `(tactic| fail) => `(tactic| with_reducible refine Z.wp_exO ?_)
local macro_rules | `(tactic| fail) => `(tactic| with_reducible refine Z.wp_exT ?_)
local macro_rules | `(tactic| fail) => `(tactic| with_reducible refine Z.wp_exL ?_)
local macro_rules | `(tactic| fail) => `(tactic| ((with_reducible refine Z.wp_rngq ?_ ?_ ?_); omega; omega))
local macro_rules | `(tactic| fail) => `(tactic| ((with_reducible refine Z.wp_len ?_ ?_); exact rfl))
local macro_rules | `(tactic| fail) => `(tactic| ((with_reducible refine Z.wp_sz ?_ ?_); first | exact Nat.le_of_ble_eq_true rfl | (simp only [List.length_map, List.length_cons, List.length_nil, List.length_append]; omega)))
local macro_rules | `(tactic| fail) => `(tactic| with_reducible refine Z.wp_brNF ?_)
local macro_rules | `(tactic| fail) => `(tactic| with_reducible refine Z.wp_brNT ?_)
local macro_rules | `(tactic| fail) => `(tactic| with_reducible refine Z.wp_brF ?_)
local macro_rules | `(tactic| fail) => `(tactic| with_reducible refine Z.wp_brT ?_)
local macro_rules | `(tactic| fail) => `(tactic| ((with_reducible apply Z.wp_gk); exact rfl))
local macro_rules | `(tactic| fail) => `(tactic| ((with_reducible refine Z.wp_mk ?_ ?_); exact rfl))
local macro_rules | `(tactic| fail) => `(tactic| with_reducible refine Z.wp_exStr ?_)
local macro_rules | `(tactic| fail) => `(tactic| ((with_reducible refine Z.is_On ?_); first
      | with_reducible refine Z.wp_onone ?_
      | with_reducible refine Z.wp_osome ?_
      | with_reducible refine Z.wp_gnm ?_
      | with_reducible refine Z.wp_gscons ?_
      | with_reducible refine Z.wp_gsnil ?_
      | with_reducible refine Z.wp_gseqT ?_
      | with_reducible refine Z.wp_gseqL ?_
      | with_reducible refine Z.wp_xnil ?_
      | with_reducible refine Z.wp_xval ?_
      | with_reducible refine Z.wp_xown ?_
      | with_reducible refine Z.wp_nnil ?_
      | with_reducible refine Z.wp_nseq ?_
      | with_reducible refine Z.wp_nexpr ?_
      | with_reducible refine Z.wp_nnot ?_
      | ((with_reducible refine Z.wp_nfld ?_ ?_); exact Nat.le_of_ble_eq_true rfl)))
local macro_rules | `(tactic| fail) => `(tactic| ((with_reducible refine Z.is_On1 ?_); symm))
local macro_rules | `(tactic| fail) => `(tactic| ((with_reducible refine Z.is_OnB ?_); first
      | with_reducible refine Z.wp_t ?_
      | with_reducible refine Z.wp_tand ?_
      | with_reducible refine Z.wp_tor ?_
      | with_reducible refine Z.wp_tnot ?_
      | with_reducible refine Z.wp_tbor ?_
      | with_reducible refine Z.wp_yes ?_))
local macro_rules | `(tactic| fail) => `(tactic| ((with_reducible refine Z.is_OnL ?_); first
      | with_reducible refine Z.wp_acons ?_
      | with_reducible refine Z.wp_anil ?_
      | with_reducible refine Z.wp_none ?_
      | with_reducible refine Z.wp_astar ?_
      | with_reducible refine Z.wp_rng ?_
      | with_reducible refine Z.wp_seq' ?_
      | with_reducible refine Z.wp_enum ?_
      | with_reducible refine Z.wp_zip ?_))
local macro_rules | `(tactic| fail) => `(tactic| ((with_reducible refine Z.is_OnD ?_); infer_instance))
local macro_rules | `(tactic| fail) => `(tactic| ((with_reducible refine Z.is_OnS ?_); eq_refl))
local macro_rules | `(tactic| fail) => `(tactic| ((with_reducible apply Z.nrm7); (simp only [Z.startE, Z.startI, Z.setX, Z.setD, Z.wipeE, Z.frzE, Z.zset0, Z.zsets, Z.zmap_cons, Z.zmap_nil, Z.zrep0, Z.zreps, Z.zapp_cons, Z.zapp_nil, Z.zapp_nil', Z.zget0, Z.zgets, Nat.sub_self, Nat.reduceSub]; exact rfl)))
local macro_rules | `(tactic| fail) => `(tactic| ((with_reducible apply Z.nrm6); (simp only [Z.startE, Z.startI, Z.setX, Z.setD, Z.wipeE, Z.frzE, Z.zset0, Z.zsets, Z.zmap_cons, Z.zmap_nil, Z.zrep0, Z.zreps, Z.zapp_cons, Z.zapp_nil, Z.zapp_nil', Z.zget0, Z.zgets, Nat.sub_self, Nat.reduceSub]; exact rfl)))
local macro_rules | `(tactic| fail) => `(tactic| ((with_reducible apply Z.nrm5); (simp only [Z.startE, Z.startI, Z.setX, Z.setD, Z.wipeE, Z.frzE, Z.zset0, Z.zsets, Z.zmap_cons, Z.zmap_nil, Z.zrep0, Z.zreps, Z.zapp_cons, Z.zapp_nil, Z.zapp_nil', Z.zget0, Z.zgets, Nat.sub_self, Nat.reduceSub]; exact rfl)))
local macro_rules | `(tactic| fail) => `(tactic| ((with_reducible apply Z.nrm4); (simp only [Z.startE, Z.startI, Z.setX, Z.setD, Z.wipeE, Z.frzE, Z.zset0, Z.zsets, Z.zmap_cons, Z.zmap_nil, Z.zrep0, Z.zreps, Z.zapp_cons, Z.zapp_nil, Z.zapp_nil', Z.zget0, Z.zgets, Nat.sub_self, Nat.reduceSub]; exact rfl)))
local macro_rules | `(tactic| fail) => `(tactic| ((with_reducible apply Z.nrm1); (simp only [Z.startE, Z.startI, Z.setX, Z.setD, Z.wipeE, Z.frzE, Z.zset0, Z.zsets, Z.zmap_cons, Z.zmap_nil, Z.zrep0, Z.zreps, Z.zapp_cons, Z.zapp_nil, Z.zapp_nil', Z.zget0, Z.zgets, Nat.sub_self, Nat.reduceSub]; exact rfl)))
local macro_rules | `(tactic| fail) => `(tactic| ((with_reducible apply Z.nrmS4); (simp only [Z.startE, Z.startI, Z.setX, Z.setD, Z.wipeE, Z.frzE, Z.zset0, Z.zsets, Z.zmap_cons, Z.zmap_nil, Z.zrep0, Z.zreps, Z.zapp_cons, Z.zapp_nil, Z.zapp_nil', Z.zget0, Z.zgets, Nat.sub_self, Nat.reduceSub]; exact rfl)))
local macro_rules | `(tactic| fail) => `(tactic| ((with_reducible apply Z.nrmS3); (simp only [Z.startE, Z.startI, Z.setX, Z.setD, Z.wipeE, Z.frzE, Z.zset0, Z.zsets, Z.zmap_cons, Z.zmap_nil, Z.zrep0, Z.zreps, Z.zapp_cons, Z.zapp_nil, Z.zapp_nil', Z.zget0, Z.zgets, Nat.sub_self, Nat.reduceSub]; exact rfl)))
local macro_rules | `(tactic| fail) => `(tactic| ((with_reducible apply Z.nrmS2); (simp only [Z.startE, Z.startI, Z.setX, Z.setD, Z.wipeE, Z.frzE, Z.zset0, Z.zsets, Z.zmap_cons, Z.zmap_nil, Z.zrep0, Z.zreps, Z.zapp_cons, Z.zapp_nil, Z.zapp_nil', Z.zget0, Z.zgets, Nat.sub_self, Nat.reduceSub]; exact rfl)))
local macro_rules | `(tactic| fail) => `(tactic| ((with_reducible apply Z.nrmS1); (simp only [Z.startE, Z.startI, Z.setX, Z.setD, Z.wipeE, Z.frzE, Z.zset0, Z.zsets, Z.zmap_cons, Z.zmap_nil, Z.zrep0, Z.zreps, Z.zapp_cons, Z.zapp_nil, Z.zapp_nil', Z.zget0, Z.zgets, Nat.sub_self, Nat.reduceSub]; exact rfl)))
local macro_rules | `(tactic| fail) => `(tactic| with_reducible refine Z.wp_pick' ?_)
local macro_rules | `(tactic| fail) => `(tactic| with_reducible refine Z.wp_methK' ?_)
local macro_rules | `(tactic| fail) => `(tactic| with_reducible refine Z.wp_cmK' ?_)
local macro_rules | `(tactic| fail) => `(tactic| with_reducible refine Z.wp_rng2 ?_)
local macro_rules | `(tactic| fail) => `(tactic| with_reducible refine Z.wp_pk0 ?_)
local macro_rules | `(tactic| fail) => `(tactic| ((with_reducible apply Z.wp_pks); exact rfl))
local macro_rules | `(tactic| fail) => `(tactic| with_reducible refine Z.on1_some (by assumption) ?_)
local macro_rules | `(tactic| fail) => `(tactic| with_reducible refine Z.on_some (by assumption) ?_)
local macro_rules | `(tactic| fail) => `(tactic| (with_reducible refine Z.cut_end zhP ?_; clear zhP zP))
set_option hygiene true

namespace Z
namespace C
open PySem PySem.Spec PyProof.Rows L2
theorem Dr.on {md : MD} {ds : List D} {s : S} {n B k : Nat} {P : D → Prop} {Q : D → S → Prop} (h : Dr md ds s n B k P) (q : ∀ r s', P r → KG s' n (B + k) → s'.length = s.length → Q r s') : On (md ds s) Q :=
  let ⟨r, s', e, a, b, c⟩ := h; ⟨r, s', e, q r s' c a b⟩
theorem Dr.of {md : MD} {ds : List D} {s : S} {n B k : Nat} {P : D → Prop} (h : On (md ds s) fun r s' => KG s' n (B + k) ∧ s'.length = s.length ∧ P r) : Dr md ds s n B k P :=
  let ⟨r, s', e, a, b, c⟩ := h; ⟨r, s', e, a, b, c⟩
/-! ### a frame -/
structure Frame where
  z : Int
  w : Int
  x : Str
  a : Int
  b : Int
  y : Str
  hs : List Host
def Frame.D (f : Frame) : D := .lst [.int f.z, .int f.w, .str f.x, .int f.a, .int f.b, .str f.y, crewD f.hs]
structure FrOk (M E : Nat) (f : Frame) : Prop where
  z0 : 1 ≤ f.z
  z1 : f.z ≤ 1000000000000000000
  w0 : 1 ≤ f.w
  w1 : f.w ≤ 5
  a0 : 1 ≤ f.a
  a1 : f.a ≤ f.w
  b0 : 1 ≤ f.b
  b1 : f.b ≤ f.w
  x : f.x ∈ (["hosts", "racks"] : List Str)
  y : f.y ∈ (["plain", "with"] : List Str)
  hs : HsOk f.z E f.hs
  h0 : 1 ≤ f.hs.length
  h1 : f.hs.length ≤ M
end C
end Z

namespace Z
namespace C
open PySem PySem.Spec PyProof.Rows L2
/-! ### a ring is made -/
theorem nm_cons {x : Str} (h : Nm x) : ∃ c cs, x.cps.toList = c :: cs ∧ c ∈ cL ∧ (∀ d ∈ c :: cs, d ∈ cL ++ cD) ∧ x.length ≤ 8 := by
  obtain ⟨c, cs, e, h1, h2, h3⟩ := h
  refine ⟨c, cs, e, h1, fun d hd => ?_, by rw [len_cps, e]; simp; omega⟩
  rcases List.mem_cons.mp hd with rfl | hd
  · exact List.mem_append_left _ h1
  · exact h2 d hd
def markD (p : Int × Str) : D := .tup [.int p.1, .str p.2]
def pairsOf (hs : List Host) : List (Int × Str) := hs.flatMap fun h => h.ms.map fun m => (m, h.nm)
def racksD (hs : List Host) : D := .dic (hs.map fun h => (.inr h.nm, .str h.rk))
def ringF (f : Frame) : List (Str × D) := [("numbers", .tup [.int f.z, .int f.w, .int f.a, .int f.b]), ("words", .tup [.str f.x, .str f.y]), ("held_hosts", crewD f.hs), ("racks", racksD f.hs), ("marks", .lst (sortL ((pairsOf f.hs).map markD)))]
def ringD (f : Frame) : D := .obj "Ring" (ringF f)
end C
end Z

namespace Z
namespace C
open PySem PySem.Spec PyProof.Rows L2
/-! ### numbers as texts -/
abbrev numS (i : Int) : Str := ((toString i : String) : Str)
theorem numS_cps {i : Int} (h : 0 ≤ i) : (numS i).cps.toList = TL.numL i.toNat := by
  have e : i = ((i.toNat : Nat) : Int) := by omega
  rw [e]
  exact TL.tl_num _
example (i : Int) : strD [.int i] = (if i.natAbs.log2 < 1920 then some (.str (numS i)) else none) := rfl
theorem numS_len {i : Int} (h : 0 ≤ i) (h1 : i ≤ 1000000000000000000) : 1 ≤ (numS i).length ∧ (numS i).length ≤ 19 := by
  rw [len_cps, numS_cps h]
  refine ⟨List.length_pos_iff.mpr (TL.numL_ne _), TL.numL_len (by omega) (by omega)⟩
theorem numS_digit {i : Int} (h : 0 ≤ i) : ∀ c ∈ (numS i).cps.toList, 48 ≤ c ∧ c ≤ 57 := by
  rw [numS_cps h]
  exact TL.numL_digits _
theorem numS_free {i : Int} (h : 0 ≤ i) {c : Nat} (hc : c < 48 ∨ 57 < c) : c ∉ (numS i).cps.toList := fun e => by
  have := numS_digit h c e
  omega
theorem log_small {i : Int} (h : i.natAbs ≤ 1000000000000000000) : i.natAbs.log2 < 1920 := by
  have := log_le (x := i) (k := 100) (by omega)
  omega
theorem str_num {Q : D → Prop} {i : Int} (h : i.natAbs ≤ 1000000000000000000) (q : Q (.str (numS i))) : On1 (strD [.int i]) Q := ⟨_, by unfold strD; exact if_pos (log_small h), q⟩
end C
end Z

namespace Z
namespace C
open PySem PySem.Spec PyProof.Rows L2
/-! ### texts of rings -/
def rowOf (h : Host) : Str := Txt.join " " ([("host" : Str), h.nm, h.rk] ++ h.ms.map numS)
def headOf (f : Frame) : Str := Txt.join " " ["ring", numS f.z, numS f.w, f.x, numS f.a, numS f.b, f.y]
def textOf (f : Frame) : Str := Txt.join "\n" (headOf f :: f.hs.map rowOf)
theorem toSs_map : ∀ ys : List Str, toSs (ys.map .str) = some ys
  | [] => rfl
  | y :: ys => by simp [toSs, toSs_map ys]
theorem wp_join {Q : D → Prop} {z : Str} {ys : List Str} (h : (ys.map (·.length)).sum + ys.length * z.length ≤ 16777216) (q : Q (.str (Txt.join z ys))) : On1 (joinD (.str z) (.lst (ys.map .str))) Q :=
  ⟨_, by simp only [joinD, toSs_map, Option.bind_some, h, if_true], q⟩
theorem wp_join' {Q : D → Prop} {z : Str} {ys : List Str} {ds : List D} (hd : ds = ys.map .str) (h : (ys.map (·.length)).sum + ys.length * z.length ≤ 16777216) (q : Q (.str (Txt.join z ys))) : On1 (joinD (.str z) (.lst ds)) Q := by
  subst hd; exact wp_join h q
theorem sum_le {k : Nat} : ∀ {ys : List Str}, (∀ y ∈ ys, y.length ≤ k) → (ys.map (·.length)).sum ≤ ys.length * k
  | [], _ => by simp
  | y :: ys, h => by
    have h1 := h y (by simp)
    have h2 := sum_le (ys := ys) fun z hz => h z (by simp [hz])
    simp only [List.map_cons, List.sum_cons, List.length_cons, Nat.succ_mul]
    omega
theorem join_len {k : Nat} {z : Str} {ys : List Str} (h : ∀ y ∈ ys, y.length ≤ k) : (Txt.join z ys).length ≤ ys.length * k + ys.length * z.length := by
  rw [TL.join_eq]
  exact Nat.le_trans (PySem.StrLaws.join_length_le z ys) (Nat.add_le_add_right (sum_le h) _)
theorem mem_joinL {S : List Nat} {c : Nat} : ∀ {ps : List (List Nat)}, c ∈ TL.joinL S ps → c ∈ S ∨ ∃ p ∈ ps, c ∈ p
  | [], h => by simp [TL.joinL] at h
  | [p], h => .inr ⟨p, by simp, h⟩
  | p :: q :: r, h => by
    have h : c ∈ p ++ (S ++ TL.joinL S (q :: r)) := h
    rcases List.mem_append.mp h with h | h
    · exact .inr ⟨p, by simp, h⟩
    · rcases List.mem_append.mp h with h | h
      · exact .inl h
      · rcases mem_joinL h with h | ⟨x, hx, hc⟩
        · exact .inl h
        · exact .inr ⟨x, by simp [List.mem_cons.mp hx], hc⟩
theorem mem_join {z : Str} {c : Nat} {ps : List Str} (h : c ∈ (Txt.join z ps).cps.toList) : c ∈ z.cps.toList ∨ ∃ p ∈ ps, c ∈ p.cps.toList := by
  rw [TL.join_eq] at h
  have h : c ∈ TL.tl (Str.join z ps) := h
  rw [TL.tl_join] at h
  rcases mem_joinL h with h | ⟨x, hx, hc⟩
  · exact .inl h
  · obtain ⟨p, hp, rfl⟩ := List.mem_map.mp hx
    exact .inr ⟨p, hp, hc⟩
theorem sp_cps : (" " : Str).cps.toList = [32] := by decide +kernel
theorem sp_len : (" " : Str).length = 1 := by decide +kernel
theorem nl_len : ("\n" : Str).length = 1 := by decide +kernel
theorem nm_free {x : Str} (h : Nm x) {c : Nat} (hc : c < 48) : c ∉ x.cps.toList := fun e => by
  obtain ⟨a, cs, q, h1, h2, h3⟩ := nm_cons h
  rw [q] at e
  have all : ∀ d ∈ cL ++ cD, 48 ≤ d := by decide
  have := all c (h2 c e)
  omega
/-- what a row's words are like -/
theorem row_words {h : Host} {z : Int} (h1 : Nm h.nm ∧ Nm h.rk) (h2 : ∀ m ∈ h.ms, 0 ≤ m ∧ m < z) (hz : z ≤ 1000000000000000000) : ∀ p ∈ ([("host" : Str), h.nm, h.rk] ++ h.ms.map numS), p.length ≤ 19 ∧ ∀ c, c < 48 → c ∉ p.cps.toList := by
  intro p hp
  rcases List.mem_append.mp hp with hp | hp
  · simp only [List.mem_cons, List.mem_nil_iff, or_false] at hp
    rcases hp with rfl | rfl | rfl
    · have e : (Str.ofString "host").cps.toList = [104, 111, 115, 116] := by decide +kernel
      refine ⟨by rw [len_cps, e]; simp, fun c hc => ?_⟩
      rw [e]; simp; omega
    · exact ⟨by have := (nm_len h1.1).2; omega, fun c hc => nm_free h1.1 hc⟩
    · exact ⟨by have := (nm_len h1.2).2; omega, fun c hc => nm_free h1.2 hc⟩
  · obtain ⟨m, hm, rfl⟩ := List.mem_map.mp hp
    have := h2 m hm
    exact ⟨(numS_len this.1 (by omega)).2, fun c hc => numS_free this.1 (.inl hc)⟩
theorem head_words {f : Frame} {M E : Nat} (F : FrOk M E f) : ∀ p ∈ (["ring", numS f.z, numS f.w, f.x, numS f.a, numS f.b, f.y] : List Str), p.length ≤ 19 ∧ ∀ c, c < 48 → c ∉ p.cps.toList := by
  have h1 := F.z0; have h2 := F.z1; have h3 := F.w0; have h4 := F.w1; have h5 := F.a0; have h6 := F.a1; have h7 := F.b0; have h8 := F.b1
  have num : ∀ i : Int, 0 ≤ i → i ≤ 1000000000000000000 → (numS i).length ≤ 19 ∧ ∀ c, c < 48 → c ∉ (numS i).cps.toList := fun i h0 h1 => ⟨(numS_len h0 h1).2, fun c hc => numS_free h0 (.inl hc)⟩
  have wd : ∀ x ∈ (["ring", "hosts", "racks", "plain", "with"] : List Str), Nm x := by decide +kernel
  have nm : ∀ x : Str, Nm x → x.length ≤ 19 ∧ ∀ c, c < 48 → c ∉ x.cps.toList := fun x h => ⟨by have := (nm_len h).2; omega, fun c hc => nm_free h hc⟩
  intro p hp
  simp only [List.mem_cons, List.mem_nil_iff, or_false] at hp
  rcases hp with rfl | rfl | rfl | rfl | rfl | rfl | rfl
  · exact nm _ (wd _ (by simp))
  · exact num _ (by omega) (by omega)
  · exact num _ (by omega) (by omega)
  · refine nm _ (wd _ ?_)
    have := F.x
    simp only [List.mem_cons, List.mem_nil_iff, or_false] at this ⊢
    rcases this with h | h <;> simp [h]
  · exact num _ (by omega) (by omega)
  · exact num _ (by omega) (by omega)
  · refine nm _ (wd _ ?_)
    have := F.y
    simp only [List.mem_cons, List.mem_nil_iff, or_false] at this ⊢
    rcases this with h | h <;> simp [h]
theorem row_len {h : Host} {z : Int} (h1 : Nm h.nm ∧ Nm h.rk) (h2 : ∀ m ∈ h.ms, 0 ≤ m ∧ m < z) (hz : z ≤ 1000000000000000000) (hl : h.ms.length ≤ 16) : (rowOf h).length ≤ 400 := by
  have := join_len (z := " ") (k := 19) (ys := [("host" : Str), h.nm, h.rk] ++ h.ms.map numS) fun y hy => (row_words h1 h2 hz y hy).1
  rw [sp_len] at this
  unfold rowOf
  simp at this
  simp
  omega
theorem head_len {f : Frame} {M E : Nat} (F : FrOk M E f) : (headOf f).length ≤ 200 := by
  have := join_len (z := " ") (k := 19) (ys := ["ring", numS f.z, numS f.w, f.x, numS f.a, numS f.b, f.y]) fun y hy => (head_words F y hy).1
  rw [sp_len] at this
  unfold headOf
  simp at this
  simp
  omega
theorem rows_free {f : Frame} (F : FrOk 12 16 f) : ∀ p ∈ (headOf f :: f.hs.map rowOf), p.length ≤ 400 ∧ 10 ∉ p.cps.toList := by
  intro p hp
  rcases List.mem_cons.mp hp with rfl | hp
  · refine ⟨by have := head_len F; omega, fun e => ?_⟩
    rcases mem_join e with h | ⟨q, hq, hc⟩
    · rw [sp_cps] at h; simp at h
    · exact (head_words F q hq).2 10 (by omega) hc
  · obtain ⟨h, hh, rfl⟩ := List.mem_map.mp hp
    have n1 := F.hs.nm h hh
    have n2 := F.hs.inz h hh
    refine ⟨row_len n1 n2 F.z1 (F.hs.ne h hh).2, fun e => ?_⟩
    rcases mem_join e with h' | ⟨q, hq, hc⟩
    · rw [sp_cps] at h'; simp at h'
    · exact (row_words n1 n2 F.z1 q hq).2 10 (by omega) hc
end C
end Z

namespace Z
namespace C
open PySem PySem.Spec PyProof.Rows L2
theorem abs_small {i : Int} (h : 0 ≤ i) (h1 : i ≤ 1000000000000000000) : i.natAbs ≤ 1000000000000000000 := by omega
theorem head_join {f : Frame} {M E : Nat} (F : FrOk M E f) : ((["ring", numS f.z, numS f.w, f.x, numS f.a, numS f.b, f.y] : List Str).map (·.length)).sum + (["ring", numS f.z, numS f.w, f.x, numS f.a, numS f.b, f.y] : List Str).length * (" " : Str).length ≤ 16777216 := by
  have := sum_le (k := 19) fun y hy => (head_words F y hy).1
  rw [sp_len]
  simp at this ⊢
  omega
theorem row_join {h : Host} {z : Int} (h1 : Nm h.nm ∧ Nm h.rk) (h2 : ∀ m ∈ h.ms, 0 ≤ m ∧ m < z) (hz : z ≤ 1000000000000000000) (hl : h.ms.length ≤ 16) :
    ((([("host" : Str), h.nm, h.rk] ++ h.ms.map numS).map (·.length)).sum + ([("host" : Str), h.nm, h.rk] ++ h.ms.map numS).length * (" " : Str).length) ≤ 16777216 := by
  have := sum_le (k := 19) fun y hy => (row_words h1 h2 hz y hy).1
  rw [sp_len]
  simp at this ⊢
  omega
theorem rows_join {f : Frame} (F : FrOk 12 16 f) : ((headOf f :: f.hs.map rowOf).map (·.length)).sum + (headOf f :: f.hs.map rowOf).length * ("\n" : Str).length ≤ 16777216 := by
  have := sum_le (k := 400) fun y hy => (rows_free F y hy).1
  have h1 := F.h1
  rw [nl_len]
  simp at this ⊢
  omega
theorem spread_ok (f : Frame) (s : S) : u_Ring_spread [ringD f] s = some (.str f.x, s) := rfl
theorem pend_ok (f : Frame) (s : S) : u_Ring_pending [ringD f] s = some (.str f.y, s) := rfl
/-- str(ring) -/
theorem str_ok {f : Frame} (s : S) (F : FrOk 12 16 f) : u_Ring___str__ [ringD f] s = some (.str (textOf f), s) := by
  have b1 := F.z0; have b2 := F.z1; have b3 := F.w0; have b4 := F.w1; have b5 := F.a0; have b6 := F.a1; have b7 := F.b0; have b8 := F.b1
  have hl := F.h1
  refine eq_of_on ?_
  unfold u_Ring___str__
  refine wp_mkD rfl ?_
  have sp := spread_ok f s
  have pe := pend_ok f s
  unfold ringD ringF crewD at *
  repeat bv_omega
  refine str_num (abs_small (by omega) (by omega)) ?_
  repeat bv_omega
  refine str_num (abs_small (by omega) (by omega)) ?_
  repeat bv_omega
  refine on_some sp ?_
  repeat bv_omega
  refine str_num (abs_small (by omega) (by omega)) ?_
  repeat bv_omega
  refine str_num (abs_small (by omega) (by omega)) ?_
  repeat bv_omega
  refine on_some pe ?_
  repeat bv_omega
  refine wp_lcM Host.D D.str rowOf f.hs (fun h hh => ?_) ?_
  · unfold Host.D
    repeat bv_omega
    refine wp_lcM D.int D.str numS h.ms (fun m hm => ?_) ?_
    · repeat bv_omega
      have := F.hs.inz h hh m hm
      refine str_num (abs_small (by omega) (by omega)) ?_
      exact ⟨rfl, rfl⟩
    · have := (F.hs.ne h hh).2
      refine wp_sz (by simp; omega) ?_
      repeat bv_omega
      refine wp_join' (ys := [("host" : Str), h.nm, h.rk] ++ h.ms.map numS) (by simp) (row_join (F.hs.nm h hh) (F.hs.inz h hh) F.z1 this) ?_
      exact ⟨rfl, rfl⟩
  · refine wp_sz (by simp; omega) ?_
    repeat bv_omega
    refine wp_join' (ys := ["ring", numS f.z, numS f.w, f.x, numS f.a, numS f.b, f.y]) rfl (head_join F) ?_
    repeat bv_omega
    refine wp_join' (ys := headOf f :: f.hs.map rowOf) (by simp [headOf]) (rows_join F) ?_
    exact cut_end zhP ⟨rfl, rfl⟩
end C
end Z

namespace Z
namespace C
open PySem PySem.Spec PyProof.Rows L2
end C
end Z

namespace Z
open PySem PySem.Spec PyProof.Rows L2
/-! ### what repr can write -/
def Rp (d : D) (n k : Nat) : Prop := ∃ p, toP d = some p ∧ p.showable = true ∧ p.depth ≤ k ∧ p.weight ≤ n ∧ p.leavesShort 22 = true ∧ p.hasDict = false
def RpL (ds : List D) (n k : Nat) : Prop := ∃ ps, toPL ds = some ps ∧ PyData.showableAll ps = true ∧ PyData.depthAll ps ≤ k ∧ PyData.weightAll ps ≤ n ∧ PyData.leavesShortAll 22 ps = true ∧ PyData.hasDictAll ps = false
theorem Rp.le {d : D} {n k n' k' : Nat} (h : Rp d n k) (hn : n ≤ n') (hk : k ≤ k') : Rp d n' k' := let ⟨p, h1, h2, h3, h4, h5⟩ := h; ⟨p, h1, h2, by omega, by omega, h5⟩
theorem RpL.le {d : List D} {n k n' k' : Nat} (h : RpL d n k) (hn : n ≤ n') (hk : k ≤ k') : RpL d n' k' := let ⟨p, h1, h2, h3, h4, h5⟩ := h; ⟨p, h1, h2, by omega, by omega, h5⟩
end Z

namespace Z
namespace C
open PySem PySem.Spec PyProof.Rows L2
/-! ### what a ring tells -/
def nmsOf (hs : List Host) : List Str := hs.map (·.nm)
def tagsD (hs : List Host) : List D := sortL ((nmsOf hs).map .str)
def itemD (h : Host) : D := .tup [.str h.rk, .tup (h.ms.map .int)]
def toldD (f : Frame) : D := .lst [.int f.z, .int f.w, .str f.x, .int f.a, .int f.b, .str f.y, crewD f.hs, .tup (tagsD f.hs), .int f.hs.length, .str (textOf f), .bl true, .lst (f.hs.map itemD)]
end C
end Z

namespace Z
namespace C
open PySem PySem.Spec PyProof.Rows L2
theorem FrOk.mono {M E M' E' : Nat} {f : Frame} (F : FrOk M E f) (hM : M ≤ M') (hE : E ≤ E') : FrOk M' E' f :=
  ⟨F.z0, F.z1, F.w0, F.w1, F.a0, F.a1, F.b0, F.b1, F.x, F.y, ⟨F.hs.nd, F.hs.nm, fun h hh => ⟨(F.hs.ne h hh).1, Nat.le_trans (F.hs.ne h hh).2 hE⟩, F.hs.up, F.hs.inz, F.hs.apart⟩, F.h0, Nat.le_trans F.h1 hM⟩
/-! ### the script -/
theorem bits_log {z : Int} (h : Builtin.Int.intBits z ≤ 1048576) : z.natAbs.log2 ≤ 1048576 := by
  unfold Builtin.Int.intBits at h
  split at h
  · rename_i h0
    have : z = 0 := by simpa using h0
    subst this
    decide
  · omega
theorem cmul_log {i j : Int} (h1 : i.natAbs.log2 ≤ 1048576) (h2 : j.natAbs.log2 ≤ 1048576) : CMulZ i j := by unfold CMulZ; omega
theorem log_100 {i : Int} (h : i.natAbs < 2 ^ 100) : i.natAbs.log2 ≤ 1048576 := by
  have := log_le (k := 99) h
  omega
theorem filled_ok {ns : List Int} (hb : ∀ z ∈ ns, Builtin.Int.intBits z ≤ 1048576) {t : Nat} (ht : t < 1000) (s : S) :
    ∃ a b : Int, u__law_filled [.lst (ns.map .int), .int t] s = some (.lst [.int a, .int b, .int 0], s) ∧ 0 ≤ b ∧ b < 2147483543 := by
  obtain ⟨o, ho⟩ : ∃ o : Int, o = if h : t < ns.length then ns[t] else 0 := ⟨_, rfl⟩
  have ob : o.natAbs.log2 ≤ 1048576 := by
    rw [ho]
    split
    · exact bits_log (hb _ (List.getElem_mem _))
    · simp
  have key : On (u__law_filled [.lst (ns.map .int), .int t] s) fun d s' => s' = s ∧ ∃ a b : Int, d = .lst [.int a, .int b, .int 0] ∧ 0 ≤ b ∧ b < 2147483543 := by
    unfold u__law_filled
    refine wp_mkF rfl ?_
    repeat bv_omega
    rw [List.length_map]
    have step : ∀ Q : D → S → Prop, Q (.int o) s → (decide ((t : Int) < (ns.length : Nat)) = true → On (mOp idxD (mVar 0) (mVar 1) [.val (.lst (ns.map .int)), .val (.int t), .unb, .unb, .unb] s) Q) ∧
        (decide ((t : Int) < (ns.length : Nat)) = false → On (mC (.int 0) [.val (.lst (ns.map .int)), .val (.int t), .unb, .unb, .unb] s) Q) := fun Q q => by
      refine br (fun h => ?_) (fun h => ?_)
      · have h' : t < ns.length := by omega
        rw [dif_pos h'] at ho
        repeat bv_omega
        refine wp_idxL (d := .int o) ?_ q
        rw [List.getElem?_map, List.getElem?_eq_getElem h', ho]
        rfl
      · have h' : ¬ t < ns.length := by omega
        rw [dif_neg h'] at ho
        subst ho
        exact wp_c q
    refine step _ ?_
    repeat bv_omega
    refine wp_mul (cmul_log (log_100 (by omega)) (log_100 (by omega))) ?_
    repeat bv_omega
    rw [show (some (6 : Int)) = some ((6 : Nat) : Int) from rfl, cutL_take, ← List.map_take]
    refine wp_forI (fun i e s1 => s1 = s ∧ ∃ m : Int, ∃ c, e = [.val (.lst (ns.map .int)), .val (.int t), .val (.int o), .val (.int m), c] ∧ 0 ≤ m ∧ m < 2147483543) ⟨rfl, _, _, rfl, by omega, by omega⟩ (fun j e s1 d hd hI => ?_) (fun e s1 hI => ?_)
    · obtain ⟨rfl, m, c, rfl, m0, m1⟩ := hI
      rw [List.getElem?_map] at hd
      obtain ⟨z, hz, rfl⟩ := Option.map_eq_some_iff.mp hd
      have hz := List.mem_of_mem_take (List.mem_of_getElem? hz)
      repeat bv_omega
      refine wp_mul (cmul_log (log_100 (by omega)) (log_100 (by omega))) ?_
      repeat bv_omega
      refine wp_mul (cmul_log (bits_log (hb z hz)) (log_100 (by omega))) ?_
      repeat bv_omega
      exact ⟨rfl, _, _, rfl, Int.emod_nonneg _ (by decide), Int.emod_lt_of_pos _ (by decide)⟩
    · obtain ⟨rfl, m, c, rfl, m0, m1⟩ := hI
      repeat bv_omega
      refine br (fun h => ?_) (fun h => ?_)
      · repeat bv_omega
        refine wp_mul (cmul_log (log_100 (by omega)) (log_100 (by omega))) ?_
        repeat bv_omega
        refine wp_mul (cmul_log ob ob) ?_
        repeat bv_omega
        refine wp_mul (cmul_log (log_100 (by omega)) (log_100 (by omega))) ?_
        repeat bv_omega
        exact ⟨rfl, _, _, rfl, Int.emod_nonneg _ (by decide), Int.emod_lt_of_pos _ (by decide)⟩
      · repeat bv_omega
        refine br (fun h => ?_) (fun h => ?_)
        · repeat bv_omega
          refine wp_mul (cmul_log (log_100 (by omega)) (log_100 (by omega))) ?_
          repeat bv_omega
          refine wp_mul (cmul_log ob ob) ?_
          repeat bv_omega
          refine wp_mul (cmul_log (log_100 (by omega)) (log_100 (by omega))) ?_
          repeat bv_omega
          exact ⟨rfl, _, _, rfl, Int.emod_nonneg _ (by decide), Int.emod_lt_of_pos _ (by decide)⟩
        · repeat bv_omega
          refine wp_mul (cmul_log (log_100 (by omega)) (log_100 (by omega))) ?_
          repeat bv_omega
          refine wp_mul (cmul_log ob ob) ?_
          repeat bv_omega
          refine wp_mul (cmul_log (log_100 (by omega)) (log_100 (by omega))) ?_
          repeat bv_omega
          exact ⟨rfl, _, _, rfl, Int.emod_nonneg _ (by decide), Int.emod_lt_of_pos _ (by decide)⟩
  obtain ⟨d, s', h1, rfl, a, b, rfl, h2, h3⟩ := key
  exact ⟨a, b, h1, h2, h3⟩
end C
end Z

namespace Z
namespace C
open PySem PySem.Spec PyProof.Rows L2
/-! ### laws of the first family: all cases right -/
abbrev lawA (ur : MD) : MD := mkD 1 2 (sRet (mCall allD (aCons (mLc [1] (rngI (aCons (mCall max2D (aCons (mC (.int 2)) (aCons (mCall min2D (aCons (mCall lenD (aCons (mVar 0) (aNil))) (aCons (mC (.int 5)) (aNil)))) (aNil)))) (aNil))) (cNm 1) (yesT) (mCallD ur (aCons (mCel (mCallD u__law_filled (aCons (mVar 0) (aCons (mVar 1) (aNil))))) (aNil)))) (aNil))))
end C
end Z

set_option linter.all false
set_option maxRecDepth 100000
namespace Z
namespace C
open PySem
def u_with_hosts : MD := mkD 2 6 (sSeq (sAsg (gSeq (gsCons (gNm 2) (gsCons (gNm 3) (gsCons (gNm 4) (gsCons (gNm 5) (gsNil)))))) (mFld "Ring" "numbers" (mVar 0))) (sRet (mCallD (mdMake "Ring" u_Ring___init__) (aCons (mVar 2) (aCons (mVar 3) (aCons (mProp "Ring" u_Ring_spread (mVar 0)) (aCons (mVar 4) (aCons (mVar 5) (aCons (mProp "Ring" u_Ring_pending (mVar 0)) (aCons (mVar 1) (aNil)))))))))))
def u_Ring_joined : MD := mkD 4 4 (sSeq (sIf (tOrZ (tNotZ (mT (mCallD u_is_name (aCons (mVar 1) (aNil))))) (mT (mOpM (ownIn "Ring" u_Ring___contains__) (mVar 1) (mVar 0)))) (sDie) (sNil)) (sSeq (sIf (tNotZ (mT (mCallD u_is_name (aCons (mVar 2) (aNil))))) (sDie) (sNil)) (sSeq (sIf (tNotZ (mT (mCallD u_is_host (aCons (mTup (aCons (mVar 1) (aCons (mVar 2) (aCons (mVar 3) (aNil))))) (aCons (mProp "Ring" u_Ring_points (mVar 0)) (aCons (mFld "Ring" "held_hosts" (mVar 0)) (aNil))))))) (sDie) (sNil)) (sSeq (sIf (mT (mOp eqD (mCall lenD (aCons (mFld "Ring" "held_hosts" (mVar 0)) (aNil))) (mC (.int 12)))) (sDie) (sNil)) (sRet (mCallD u_with_hosts (aCons (mVar 0) (aCons (mTup (aStar (mFld "Ring" "held_hosts" (mVar 0)) (aCons (mTup (aCons (mVar 1) (aCons (mVar 2) (aCons (mVar 3) (aNil))))) (aNil)))) (aNil)))))))))
def u_Ring_left : MD := mkD 2 3 (sSeq (sExpr (mCallD u_check_host (aCons (mVar 0) (aCons (mVar 1) (aNil))))) (sSeq (sIf (mT (mOp eqD (mCall lenD (aCons (mFld "Ring" "held_hosts" (mVar 0)) (aNil))) (mC (.int 1)))) (sDie) (sNil)) (sRet (mCallD u_with_hosts (aCons (mVar 0) (aCons (mCall tupleD (aCons (mLc [2] (seqI (mFld "Ring" "held_hosts" (mVar 0))) (cNm 2) (mT (mOp neD (mOp idxD (mVar 2) (mC (.int 0))) (mVar 1))) (mVar 2)) (aNil))) (aNil)))))))
def u_Ring___eq__ : MD := mkD 2 2 (sRet (mAnd (mCall (isiD isiC isiT) (aCons (mVar 1) (aCons (mC (.ty "Ring")) (aNil)))) (mOp eqD (mCallD (ownD "Ring" u_Ring___str__ okStr) (aCons (mVar 0) (aNil))) (mCallD (ownD "Ring" u_Ring___str__ okStr) (aCons (mVar 1) (aNil))))))
def u__law_joins_right : MD := mkD 3 6 (sSeq (sPar [3, 4] (xVal (mCallD u__law_sheet (aCons (mVar 1) (aNil))) (xVal (mCallD u__law_sheet (aCons (mOp addAll (mSl slL (mVar 1) (oNone) (oSome (mC (.int 6)))) (mLst (aCons (mOp addD (mOp idxD (mVar 1) (mC (.int 6))) (mTup (aCons (mVar 2) (aNil)))) (aNil)))) (aNil))) (xNil)))) (sSeq (sSet 5 (mMeth "Ring" "joined" u_Ring_joined (mVar 0) (aCons (mOp idxD (mVar 2) (mC (.int 0))) (aCons (mOp idxD (mVar 2) (mC (.int 1))) (aCons (mOp idxD (mVar 2) (mC (.int 2))) (aNil)))))) (sSeq (sIf (tOrZ (mT (mOp neD (mCallD (ownD "Ring" u_Ring___str__ okStr) (aCons (mVar 5) (aNil))) (mVar 4))) (mT (mOp neD (mCallD (ownD "Ring" u_Ring___str__ okStr) (aCons (mMethK "Ring" "joined" [2, 1, 0] u_Ring_joined (mVar 0) (aCons (mOp idxD (mVar 2) (mC (.int 2))) (aCons (mOp idxD (mVar 2) (mC (.int 1))) (aCons (mOp idxD (mVar 2) (mC (.int 0))) (aNil))))) (aNil))) (mVar 4)))) (sRet (mC (.bl false))) (sNil)) (sSeq (sIf (tOrZ (mT (mOp neD (mCallD (ownD "Ring" u_Ring___str__ okStr) (aCons (mMeth "Ring" "left" u_Ring_left (mVar 5) (aCons (mOp idxD (mVar 2) (mC (.int 0))) (aNil))) (aNil))) (mVar 3))) (tNotZ (mT (mOpM (ownEq "Ring" u_Ring___eq__) (mMethK "Ring" "left" [0] u_Ring_left (mVar 5) (aCons (mOp idxD (mVar 2) (mC (.int 0))) (aNil))) (mVar 0))))) (sRet (mC (.bl false))) (sNil)) (sRet (mAnd (mOp eqD (mCallD (ownD "Ring" u_Ring___str__ okStr) (aCons (mVar 0) (aNil))) (mVar 3)) (mAnd (mOp eqD (mCallD (ownD "Ring" u_Ring___str__ okStr) (aCons (mVar 5) (aNil))) (mVar 4)) (mOp eqD (mCallD reprM (aCons (mProp "Ring" u_Ring_hosts (mVar 5)) (aNil))) (mCallD reprM (aCons (mOp addD (mOp idxD (mVar 1) (mC (.int 6))) (mTup (aCons (mVar 2) (aNil)))) (aNil)))))))))))
def u__law_new : MD := mkD 2 14 (sSeq (sPar [2, 3, 4, 5] (xVal (mOp idxD (mVar 1) (mC (.int 0))) (xVal (mLc [6] (seqI (mOp idxD (mVar 1) (mC (.int 6)))) (cNm 6) (yesT) (mOp idxD (mVar 6) (mC (.int 0)))) (xVal (mLst (aNil)) (xOwn (mLst (aNil)) (xNil)))))) (sSeq (sFor (seqI (mOp idxD (mVar 1) (mC (.int 6)))) (gSeq (gsCons (gNm 7) (gsCons (gNm 8) (gsCons (gNm 9) (gsNil))))) (sSet 4 (mOp addAll (mVar 4) (mCall listD (aCons (mVar 9) (aNil)))))) (sSeq (sFor (rngI (aCons (mCall min2D (aCons (mOp addD (mC (.int 1)) (mCallD u__law_dip (aCons (mVar 0) (aCons (mCallD u__law_of (aCons (mVar 0) (aCons (mLst (aCons (mC (.int 1)) (aCons (mC (.int 3)) (aCons (mC (.int 16)) (aNil))))) (aNil)))) (aNil))))) (aCons (mOp subD (mVar 2) (mCall lenD (aCons (mVar 4) (aNil)))) (aNil)))) (aNil))) (gNm 10) (sSeq (sSet 11 (mCallD u__law_free (aCons (mVar 2) (aCons (mVar 4) (aCons (mCallD u__law_place (aCons (mVar 0) (aCons (mVar 2) (aCons (mVar 4) (aNil))))) (aNil)))))) (sSeq (sApp 5 (mVar 11)) (sSet 4 (mOp addAll (mVar 4) (mLst (aCons (mVar 11) (aNil)))))))) (sSeq (sSet 8 (mCallD u__law_of (aCons (mVar 0) (aCons (mOp addAll (mLc [6] (seqI (mOp idxD (mVar 1) (mC (.int 6)))) (cNm 6) (yesT) (mOp idxD (mVar 6) (mC (.int 1)))) (mLst (aCons (mCallD u__law_title (aCons (mVar 0) (aNil))) (aNil)))) (aNil))))) (sSeq (sOwn 12 (mLc [7] (seqI (mOp addAll (mLst (aCons (mCallD u__law_title (aCons (mVar 0) (aNil))) (aCons (mC (.str "new")) (aCons (mC (.str "new1")) (aCons (mC (.str "n")) (aNil)))))) (mLc [13] (rngI (aCons (mC (.int 12)) (aNil))) (cNm 13) (yesT) (mOp addD (mC (.str "n")) (mCall strD (aCons (mVar 13) (aNil))))))) (cNm 7) (mT (mOp notInAD (mVar 7) (mVar 3))) (mVar 7))) (sFrz 5 (sFrz 12 (sRet (mTup (aCons (mOp idxD (mVar 12) (mC (.int 0))) (aCons (mVar 8) (aCons (mCall tupleD (aCons (mCallD (fun ds s => lft (sortedD ds) s) (aCons (mVar 5) (aNil))) (aNil))) (aNil)))))))))))))
def u_Ring_ruled : MD := mkD 4 4 (sRet (mCallD (mdMake "Ring" u_Ring___init__) (aCons (mProp "Ring" u_Ring_points (mVar 0)) (aCons (mProp "Ring" u_Ring_factor (mVar 0)) (aCons (mProp "Ring" u_Ring_spread (mVar 0)) (aCons (mVar 1) (aCons (mVar 2) (aCons (mVar 3) (aCons (mFld "Ring" "held_hosts" (mVar 0)) (aNil))))))))))
def u__law_rules_right : MD := mkD 3 8 (sSeq (sPar [3, 4] (xVal (mOp addD (mC (.int 1)) (mCallD u__law_dip (aCons (mVar 0) (aCons (mOp idxD (mVar 2) (mC (.int 1))) (aNil))))) (xVal (mOp addD (mC (.int 1)) (mCallD u__law_dip (aCons (mVar 0) (aCons (mOp idxD (mVar 2) (mC (.int 1))) (aNil))))) (xNil)))) (sSeq (sSet 5 (mCallD u__law_of (aCons (mVar 0) (aCons (mLst (aCons (mC (.str "plain")) (aCons (mC (.str "with")) (aNil)))) (aNil))))) (sSeq (sSet 6 (mCallD u__law_sheet (aCons (mOp addAll (mSl slL (mVar 2) (oNone) (oSome (mC (.int 3)))) (mLst (aCons (mVar 3) (aCons (mVar 4) (aCons (mVar 5) (aCons (mOp idxD (mVar 2) (mC (.int 6))) (aNil))))))) (aNil)))) (sSeq (sIf (tOrZ (mT (mOp neD (mCallD (ownD "Ring" u_Ring___str__ okStr) (aCons (mMeth "Ring" "ruled" u_Ring_ruled (mVar 1) (aCons (mVar 3) (aCons (mVar 4) (aCons (mVar 5) (aNil))))) (aNil))) (mVar 6))) (mT (mOp neD (mCallD (ownD "Ring" u_Ring___str__ okStr) (aCons (mMethK "Ring" "ruled" [2, 1, 0] u_Ring_ruled (mVar 1) (aCons (mVar 5) (aCons (mVar 4) (aCons (mVar 3) (aNil))))) (aNil))) (mVar 6)))) (sRet (mC (.bl false))) (sNil)) (sSeq (sSet 7 (mMeth "Ring" "ruled" u_Ring_ruled (mMeth "Ring" "ruled" u_Ring_ruled (mVar 1) (aCons (mVar 3) (aCons (mVar 4) (aCons (mVar 5) (aNil))))) (aCons (mOp idxD (mVar 2) (mC (.int 3))) (aCons (mOp idxD (mVar 2) (mC (.int 4))) (aCons (mOp idxD (mVar 2) (mC (.int 5))) (aNil)))))) (sRet (mAnd (mOp eqD (mCallD (ownD "Ring" u_Ring___str__ okStr) (aCons (mVar 1) (aNil))) (mCallD u__law_sheet (aCons (mVar 2) (aNil)))) (mOpM (ownEq "Ring" u_Ring___eq__) (mVar 7) (mVar 1)))))))))
def u__law_leaves_right : MD := mkD 3 9 (sSeq (sAsg (gSeq (gsCons (gNm 3) (gsCons (gNm 4) (gsCons (gNm 5) (gsNil))))) (mOp idxD (mOp idxD (mVar 1) (mC (.int 6))) (mVar 2))) (sSeq (sSet 6 (mOp addD (mSl slD (mOp idxD (mVar 1) (mC (.int 6))) (oNone) (oSome (mVar 2))) (mSl slD (mOp idxD (mVar 1) (mC (.int 6))) (oSome (mOp addD (mVar 2) (mC (.int 1)))) (oNone)))) (sSeq (sSet 7 (mMeth "Ring" "left" u_Ring_left (mVar 0) (aCons (mVar 3) (aNil)))) (sSeq (sIf (tOrZ (mT (mOp neD (mCallD (ownD "Ring" u_Ring___str__ okStr) (aCons (mVar 7) (aNil))) (mCallD u__law_sheet (aCons (mOp addAll (mSl slL (mVar 1) (oNone) (oSome (mC (.int 6)))) (mLst (aCons (mVar 6) (aNil)))) (aNil))))) (mT (mOp neD (mCallD reprM (aCons (mProp "Ring" u_Ring_hosts (mVar 7)) (aNil))) (mCallD reprM (aCons (mVar 6) (aNil)))))) (sRet (mC (.bl false))) (sNil)) (sSeq (sSet 8 (mMeth "Ring" "joined" u_Ring_joined (mVar 7) (aCons (mVar 3) (aCons (mVar 4) (aCons (mVar 5) (aNil)))))) (sRet (mAnd (mOp eqD (mCallD (ownD "Ring" u_Ring___str__ okStr) (aCons (mVar 8) (aNil))) (mCallD u__law_sheet (aCons (mOp addAll (mSl slL (mVar 1) (oNone) (oSome (mC (.int 6)))) (mLst (aCons (mOp addD (mVar 6) (mTup (aCons (mTup (aCons (mVar 3) (aCons (mVar 4) (aCons (mVar 5) (aNil))))) (aNil)))) (aNil)))) (aNil)))) (mOp eqD (mCallD (ownD "Ring" u_Ring___str__ okStr) (aCons (mVar 0) (aNil))) (mCallD u__law_sheet (aCons (mVar 1) (aNil)))))))))))
def u__law_whose : MD := mkD 1 6 (sSeq (sOwn 1 (mDic0)) (sSeq (sFor (seqI (mVar 0)) (gSeq (gsCons (gNm 2) (gsCons (gNm 3) (gsCons (gNm 4) (gsNil))))) (sFor (seqI (mVar 4)) (gNm 5) (sPutK 1 (mVar 5) (mVar 2)))) (sFrz 1 (sRet (mVar 1)))))
def u__law_round : MD := mkD 3 6 (sSeq (sOwn 3 (mLst (aNil))) (sSeq (sFor (rngI (aCons (mVar 0) (aNil))) (gNm 4) (sSeq (sSet 5 (mGet (mVar 1) (mOp modD (mCall intD (aCons (mOp addD (mVar 2) (mVar 4)) (aNil))) (mVar 0)) (mC (.str "")))) (sIf (tBor 3 (tAndZ (mT (mOp neD (mVar 5) (mC (.str "")))) (mT (mOp notInAD (mVar 5) (mVar 3))))) (sApp 3 (mVar 5)) (sNil)))) (sFrz 3 (sRet (mVar 3)))))
def u_check_point : MD := mkD 2 2 (sIf (tNotZ (mT (mCallD u_is_integer (aCons (mVar 1) (aCons (mC (.int 0)) (aCons (mOp subD (mProp "Ring" u_Ring_points (mVar 0)) (mC (.int 1))) (aNil))))))) (sDie) (sNil))
def u_walk_of : MD := mkD 2 6 (sSeq (sOwn 2 (mLc [3, 4] (seqI (mFld "Ring" "marks" (mVar 0))) (cTup [3, 4]) (mT (mOp ltD (mVar 3) (mVar 1))) (mVar 4))) (sSeq (sOwn 5 (mLc [3, 4] (seqI (mFld "Ring" "marks" (mVar 0))) (cTup [3, 4]) (mT (mOp geD (mVar 3) (mVar 1))) (mVar 4))) (sFrz 5 (sFrz 2 (sRet (mCallD (fun ds s => lft (tupleDicD ds) s) (aCons (mDc [4] (seqI (mLst (aStar (mVar 5) (aStar (mVar 2) (aNil))))) (cNm 4) (yesT) (mVar 4) (mC (.bl true))) (aNil))))))))
def u_Ring_walk : MD := mkD 2 2 (sSeq (sExpr (mCallD u_check_point (aCons (mVar 0) (aCons (mVar 1) (aNil))))) (sRet (mCallD u_walk_of (aCons (mVar 0) (aCons (mVar 1) (aNil))))))
def u__law_walks_right : MD := mkD 2 9 (sSeq (sPar [2, 3] (xVal (mOp idxD (mVar 1) (mC (.int 0))) (xVal (mCallD u__law_whose (aCons (mOp idxD (mVar 1) (mC (.int 6))) (aNil))) (xNil)))) (sSeq (sFor (rngI (aCons (mVar 2) (aNil))) (gNm 4) (sSeq (sSet 5 (mCallD reprM (aCons (mCall tupleD (aCons (mCallD u__law_round (aCons (mVar 2) (aCons (mVar 3) (aCons (mVar 4) (aNil))))) (aNil))) (aNil)))) (sIf (tOrZ (mT (mOp neD (mCallD reprM (aCons (mMeth "Ring" "walk" u_Ring_walk (mVar 0) (aCons (mVar 4) (aNil))) (aNil))) (mVar 5))) (mT (mOp neD (mCallD reprM (aCons (mMethK "Ring" "walk" [0] u_Ring_walk (mVar 0) (aCons (mVar 4) (aNil))) (aNil))) (mVar 5)))) (sRet (mC (.bl false))) (sNil)))) (sRet (mOp eqD (mCallD (fun ds s => lft (sortedD ds) s) (aCons (mMeth "Ring" "walk" u_Ring_walk (mVar 0) (aCons (mOp fdivD (mVar 2) (mC (.int 2))) (aNil))) (aNil))) (mCallD (fun ds s => lft (sortedD ds) s) (aCons (mLc [6, 7, 8] (seqI (mOp idxD (mVar 1) (mC (.int 6)))) (cTup [6, 7, 8]) (yesT) (mVar 6)) (aNil)))))))
end C
end Z

set_option linter.all false
set_option maxRecDepth 100000
namespace Z
namespace C
open PySem
def u__law_plain : MD := mkD 1 8 (sSeq (sAsg (gSeq (gsCons (gNm 1) (gsCons (gNm 2) (gsCons (gNm 3) (gsCons (gNm 4) (gsCons (gNm 5) (gsCons (gNm 6) (gsCons (gNm 7) (gsNil))))))))) (mVar 0)) (sRet (mCallD (mdMake "Ring" u_Ring___init__) (aCons (mVar 1) (aCons (mVar 2) (aCons (mVar 3) (aCons (mVar 4) (aCons (mVar 5) (aCons (mVar 6) (aCons (mVar 7) (aNil)))))))))))
def u__law_keep : MD := mkD 2 9 (sSeq (sIf (mT (mOp eqD (mOp idxD (mVar 0) (mC (.int 2))) (mC (.str "hosts")))) (sRet (mSl slL (mVar 1) (oNone) (oSome (mOp idxD (mVar 0) (mC (.int 1)))))) (sNil)) (sSeq (sSet 2 (mCallD (fun ds s => lft (dictPD ds) s) (aCons (mLc [3, 4, 5] (seqI (mOp idxD (mVar 0) (mC (.int 6)))) (cTup [3, 4, 5]) (yesT) (mTup (aCons (mVar 3) (aCons (mVar 4) (aNil))))) (aNil)))) (sSeq (sOwn 6 (mLst (aNil))) (sSeq (sFor (rngI (aCons (mCall lenD (aCons (mVar 1) (aNil))) (aNil))) (gNm 7) (sIf (mT (mOp notInAD (mOp idxDic (mVar 2) (mOp idxD (mVar 1) (mVar 7))) (mLc [8] (seqI (mSl slL (mVar 1) (oNone) (oSome (mVar 7)))) (cNm 8) (yesT) (mOp idxDic (mVar 2) (mVar 8))))) (sApp 6 (mOp idxD (mVar 1) (mVar 7))) (sNil))) (sSeq (sFrz 6 (sOwn 6 (mSl slL (mVar 6) (oNone) (oSome (mOp idxD (mVar 0) (mC (.int 1))))))) (sFrz 6 (sRet (mSl slL (mOp addAll (mVar 6) (mLc [8] (seqI (mVar 1)) (cNm 8) (mT (mOp notInAD (mVar 8) (mVar 6))) (mVar 8))) (oNone) (oSome (mOp idxD (mVar 0) (mC (.int 1))))))))))))
def u_chosen : MD := mkD 2 6 (sSeq (sIf (mT (mOp eqD (mProp "Ring" u_Ring_spread (mVar 0)) (mC (.str "hosts")))) (sRet (mSl slD (mVar 1) (oNone) (oSome (mProp "Ring" u_Ring_factor (mVar 0))))) (sNil)) (sSeq (sOwn 2 (mDic0)) (sSeq (sFor (seqI (mVar 1)) (gNm 3) (sSetd 2 (mOp idxDic (mFld "Ring" "racks" (mVar 0)) (mVar 3)) (mVar 3))) (sSeq (sFrz 2 (sSet 4 (mSl slD (mUn tupleValsD (mVar 2)) (oNone) (oSome (mProp "Ring" u_Ring_factor (mVar 0)))))) (sSeq (sOwn 5 (mLc [3] (seqI (mVar 1)) (cNm 3) (mT (mOp notInAD (mVar 3) (mVar 4))) (mVar 3))) (sFrz 5 (sRet (mTup (aStar (mVar 4) (aStar (mSl slL (mVar 5) (oNone) (oSome (mOp subD (mProp "Ring" u_Ring_factor (mVar 0)) (mCall lenD (aCons (mVar 4) (aNil)))))) (aNil)))))))))))
def u_keepers_of : MD := mkD 2 2 (sRet (mCallD u_chosen (aCons (mVar 0) (aCons (mCallD u_walk_of (aCons (mVar 0) (aCons (mVar 1) (aNil)))) (aNil)))))
def u_Ring_keepers : MD := mkD 2 2 (sSeq (sExpr (mCallD u_check_point (aCons (mVar 0) (aCons (mVar 1) (aNil))))) (sRet (mCallD u_keepers_of (aCons (mVar 0) (aCons (mVar 1) (aNil))))))
def u__law_one_right : MD := mkD 2 5 (sSeq (sSet 2 (mCallD u__law_plain (aCons (mVar 0) (aNil)))) (sSeq (sFor (rngI (aCons (mOp idxD (mVar 0) (mC (.int 0))) (aNil))) (gNm 3) (sSeq (sSet 4 (mCallD reprM (aCons (mCall tupleD (aCons (mCallD u__law_keep (aCons (mVar 0) (aCons (mOp idxD (mVar 1) (mVar 3)) (aNil)))) (aNil))) (aNil)))) (sIf (tOrZ (mT (mOp neD (mCallD reprM (aCons (mMeth "Ring" "keepers" u_Ring_keepers (mVar 2) (aCons (mVar 3) (aNil))) (aNil))) (mVar 4))) (mT (mOp neD (mCallD reprM (aCons (mMethK "Ring" "keepers" [0] u_Ring_keepers (mVar 2) (aCons (mVar 3) (aNil))) (aNil))) (mVar 4)))) (sRet (mC (.bl false))) (sNil)))) (sRet (mC (.bl true)))))
end C
end Z

set_option linter.all false
set_option maxRecDepth 100000
namespace Z
namespace C
open PySem
def u__law_borders : MD := mkD 1 5 (sSeq (sSet 1 (mLst (aNil))) (sSeq (sFor (seqI (mVar 0)) (gSeq (gsCons (gNm 2) (gsCons (gNm 3) (gsCons (gNm 4) (gsNil))))) (sSet 1 (mOp addAll (mVar 1) (mCall listD (aCons (mVar 4) (aNil)))))) (sRet (mCallD (fun ds s => lft (sortedD ds) s) (aCons (mVar 1) (aNil))))))
def u__law_far : MD := mkD 2 8 (sSeq (sOwn 2 (mLst (aNil))) (sSeq (sFor (seqI (mOp idxD (mVar 0) (mC (.int 6)))) (gSeq (gsCons (gNm 3) (gsCons (gNm 4) (gsCons (gNm 5) (gsNil))))) (sApp 2 (mTup (aCons (mCall minLD (aCons (mLc [6] (seqI (mVar 5)) (cNm 6) (yesT) (mOp modD (mCall intD (aCons (mOp subD (mVar 6) (mVar 1)) (aNil))) (mOp idxD (mVar 0) (mC (.int 0))))) (aNil))) (aCons (mVar 3) (aNil)))))) (sFrz 2 (sRet (mLc [7, 3] (seqI (mCallD (fun ds s => lft (sortedD ds) s) (aCons (mVar 2) (aNil)))) (cTup [7, 3]) (yesT) (mVar 3))))))
def u_check_ring : MD := mkD 1 1 (sIf (tNotZ (mT (mCall (isiD isiC isiT) (aCons (mVar 0) (aCons (mC (.ty "Ring")) (aNil)))))) (sDie) (sNil))
def u_Cell___init__ : MI0 := mkI 3 4 (nSeq (nFld "first" (mVar 1)) (nSeq (nFld "many" (mVar 2)) (nSeq (nFld "last" (mVar 3)) (nNil))))
def u_cut : MD := mkD 2 6 (sSeq (sOwn 2 (mLst (aNil))) (sSeq (sFor (enum2I (aCons (mVar 1) (aNil))) (gSeq (gsCons (gNm 3) (gsCons (gNm 4) (gsNil)))) (sSeq (sSet 5 (mOp idxD (mVar 1) (mOp subD (mVar 3) (mC (.int 1))))) (sApp 2 (mCallD (mdMake "Cell" u_Cell___init__) (aCons (mOp modD (mOp addD (mVar 5) (mC (.int 1))) (mVar 0)) (aCons (mOp addD (mOp modD (mOp subD (mOp subD (mVar 4) (mVar 5)) (mC (.int 1))) (mVar 0)) (mC (.int 1))) (aCons (mVar 4) (aNil)))))))) (sFrz 2 (sRet (mVar 2)))))
def u_marks_of : MD := mkD 1 4 (sRet (mCallD (fun ds s => lft (sortedDicA ds) s) (aCons (mDc2 [1, 2, 3] (seqI (mVar 0)) (cNm 1) (yesT) (seqI (mFld "Ring" "marks" (mVar 1))) [2, 3] (cTup [2, 3]) (yesT) (mVar 2) (mC (.bl true))) (aNil))))
def u_own_cells : MD := mkD 1 1 (sRet (mCallD u_cut (aCons (mProp "Ring" u_Ring_points (mVar 0)) (aCons (mCallD u_marks_of (aCons (mLst (aCons (mVar 0) (aNil))) (aNil))) (aNil)))))
def u_cells : MD := mkD 1 2 (sSeq (sExpr (mCallD u_check_ring (aCons (mVar 0) (aNil)))) (sRet (mCall tupleD (aCons (mLc [1] (seqI (mCallD u_own_cells (aCons (mVar 0) (aNil)))) (cNm 1) (yesT) (mTup (aCons (mFld "Cell" "first" (mVar 1)) (aCons (mFld "Cell" "many" (mVar 1)) (aCons (mCallD u_keepers_of (aCons (mVar 0) (aCons (mFld "Cell" "last" (mVar 1)) (aNil)))) (aNil)))))) (aNil)))))
def u__law_parted : MD := mkD 2 5 (sSeq (sOwn 2 (mLst (aNil))) (sSeq (sFor (rngI (aCons (mCall lenD (aCons (mVar 1) (aNil))) (aNil))) (gNm 3) (sSeq (sSet 4 (mOp idxD (mVar 1) (mOp subD (mVar 3) (mC (.int 1))))) (sApp 2 (mTup (aCons (mOp modD (mCall intD (aCons (mOp addD (mVar 4) (mC (.int 1))) (aNil))) (mVar 0)) (aCons (mOp addD (mOp modD (mCall intD (aCons (mOp subD (mOp subD (mOp idxD (mVar 1) (mVar 3)) (mVar 4)) (mC (.int 1))) (aNil))) (mVar 0)) (mC (.int 1))) (aCons (mOp idxD (mVar 1) (mVar 3)) (aNil)))))))) (sFrz 2 (sRet (mVar 2)))))
def u__law_keys_right : MD := mkD 2 9 (sSeq (sPar [2, 3] (xVal (mOp idxD (mVar 0) (mC (.int 0))) (xVal (mCallD u__law_whose (aCons (mOp idxD (mVar 0) (mC (.int 6))) (aNil))) (xNil)))) (sSeq (sFor (rngI (aCons (mVar 2) (aNil))) (gNm 4) (sSeq (sOwn 5 (mLc [6, 7, 8] (seqI (mVar 1)) (cTup [6, 7, 8]) (mT (mOp ltD (mOp modD (mCall intD (aCons (mOp subD (mVar 4) (mVar 6)) (aNil))) (mVar 2)) (mVar 7))) (mVar 8))) (sFrz 5 (sIf (mT (mOp neD (mCallD reprM (aCons (mVar 5) (aNil))) (mCallD reprM (aCons (mLst (aCons (mCall tupleD (aCons (mCallD u__law_keep (aCons (mVar 0) (aCons (mCallD u__law_round (aCons (mVar 2) (aCons (mVar 3) (aCons (mVar 4) (aNil))))) (aNil)))) (aNil))) (aNil))) (aNil))))) (sRet (mC (.bl false))) (sNil))))) (sRet (mC (.bl true)))))
end C
end Z

set_option linter.all false
set_option maxRecDepth 100000
namespace Z
namespace C
open PySem
def u__law_moved : MD := mkD 2 7 (sSeq (sOwn 2 (mLc [4, 5, 6] (seqI (mOp idxD (mVar 0) (mC (.int 6)))) (cTup [4, 5, 6]) (yesT) (mTup (aCons (mVar 4) (aCons (mVar 5) (aCons (mCall tupleD (aCons (mCallD (fun ds s => lft (sortedD ds) s) (aCons (mLc [3] (seqI (mVar 6)) (cNm 3) (yesT) (mOp modD (mCall intD (aCons (mOp addD (mVar 3) (mVar 1)) (aNil))) (mOp idxD (mVar 0) (mC (.int 0))))) (aNil))) (aNil))) (aNil))))))) (sFrz 2 (sRet (mOp addAll (mSl slL (mVar 0) (oNone) (oSome (mC (.int 6)))) (mLst (aCons (mCall tupleD (aCons (mVar 2) (aNil))) (aNil)))))))
def u__law_stretched : MD := mkD 2 7 (sSeq (sOwn 2 (mLc [4, 5, 6] (seqI (mOp idxD (mVar 0) (mC (.int 6)))) (cTup [4, 5, 6]) (yesT) (mTup (aCons (mVar 4) (aCons (mVar 5) (aCons (mCall tupleD (aCons (mLc [3] (seqI (mVar 6)) (cNm 3) (yesT) (mOp subD (mOp addD (mOp mulD (mVar 3) (mVar 1)) (mVar 1)) (mC (.int 1)))) (aNil))) (aNil))))))) (sFrz 2 (sRet (mOp addAll (mOp addAll (mLst (aCons (mOp mulD (mOp idxD (mVar 0) (mC (.int 0))) (mVar 1)) (aNil))) (mSl slL (mVar 0) (oSome (mC (.int 1))) (oSome (mC (.int 6))))) (mLst (aCons (mCall tupleD (aCons (mVar 2) (aNil))) (aNil)))))))
def u__law_renamed : MD := mkD 2 11 (sSeq (sPar [2, 3] (xVal (mOp idxD (mVar 1) (mC (.int 6))) (xOwn (mLst (aNil)) (xNil)))) (sSeq (sFor (seqI (mVar 2)) (gSeq (gsCons (gNm 4) (gsCons (gNm 5) (gsCons (gNm 6) (gsNil))))) (sIf (tBor 3 (mT (mOp notInAD (mVar 5) (mVar 3)))) (sApp 3 (mVar 5)) (sNil))) (sSeq (sFrz 3 (sPar [7, 8] (xVal (mCallD u__law_titles (aCons (mVar 0) (aCons (mCall lenD (aCons (mVar 2) (aNil))) (aNil)))) (xVal (mCallD u__law_titles (aCons (mVar 0) (aCons (mCall lenD (aCons (mVar 3) (aNil))) (aNil)))) (xNil))))) (sSeq (sOwn 9 (mLc [10] (rngI (aCons (mCall lenD (aCons (mVar 2) (aNil))) (aNil))) (cNm 10) (yesT) (mTup (aCons (mOp idxD (mVar 7) (mVar 10)) (aCons (mOp idxD (mVar 8) (mOp indexD (mVar 3) (mOp idxD (mOp idxD (mVar 2) (mVar 10)) (mC (.int 1))))) (aCons (mOp idxD (mOp idxD (mVar 2) (mVar 10)) (mC (.int 2))) (aNil))))))) (sFrz 9 (sRet (mTup (aCons (mOp addAll (mSl slL (mVar 1) (oNone) (oSome (mC (.int 6)))) (mLst (aCons (mCall tupleD (aCons (mVar 9) (aNil))) (aNil)))) (aCons (mCallD (fun ds s => lft (dictPD ds) s) (aCons (mLc [10] (rngI (aCons (mCall lenD (aCons (mVar 2) (aNil))) (aNil))) (cNm 10) (yesT) (mTup (aCons (mOp idxD (mOp idxD (mVar 2) (mVar 10)) (mC (.int 0))) (aCons (mOp idxD (mVar 7) (mVar 10)) (aNil))))) (aNil))) (aNil))))))))))
def u__law_both : MD := mkD 2 2 (sRet (mLst (aCons (mMeth "Ring" "walk" u_Ring_walk (mVar 0) (aCons (mVar 1) (aNil))) (aCons (mMeth "Ring" "keepers" u_Ring_keepers (mVar 0) (aCons (mVar 1) (aNil))) (aNil)))))
end C
end Z

set_option linter.all false
set_option maxRecDepth 100000
namespace Z
namespace C
open PySem
def u__law_key_right : MD := mkD 5 11 (sSeq (sPar [5, 6] (xVal (mMeth "Ring" "keepers" u_Ring_keepers (mVar 0) (aCons (mVar 3) (aNil))) (xVal (mMeth "Ring" "keepers" u_Ring_keepers (mVar 1) (aCons (mVar 3) (aNil))) (xNil)))) (sSeq (sPar [7, 8] (xVal (mLc [9] (seqI (mVar 6)) (cNm 9) (mT (mOp notInAD (mVar 9) (mVar 5))) (mVar 9)) (xVal (mLc [9] (seqI (mVar 5)) (cNm 9) (mT (mOp notInAD (mVar 9) (mVar 6))) (mVar 9)) (xNil)))) (sSeq (sIf (tOrZ (mT (mOp notInAD (mVar 7) (mLst (aCons (mLst (aNil)) (aCons (mLst (aCons (mC (.str "newer")) (aNil))) (aNil)))))) (tOrZ (mT (mOp gtD (mCall lenD (aCons (mVar 8) (aNil))) (mC (.int 1)))) (tAndZ (mT (mOp neD (mVar 8) (mLst (aNil)))) (mT (mOp eqD (mVar 7) (mLst (aNil))))))) (sRet (mC (.bl false))) (sNil)) (sSeq (sIf (tOrZ (tAndZ (mT (mOp notInAD (mC (.str "newer")) (mVar 6))) (mT (mOp neD (mVar 6) (mVar 5)))) (tAndZ (mT (mOp neD (mVar 7) (mLst (aNil)))) (tAndZ (mT (mVar 4)) (mT (mOp eqD (mVar 8) (mLst (aNil))))))) (sRet (mC (.bl false))) (sNil)) (sSeq (sIf (tOrZ (tAndZ (tNotZ (mT (mVar 4))) (mT (mOp neD (mVar 8) (mLst (aNil))))) (mT (mOp neD (mMeth "Ring" "keepers" u_Ring_keepers (mVar 2) (aCons (mVar 3) (aNil))) (mVar 5)))) (sRet (mC (.bl false))) (sNil)) (sSeq (sSet 10 (mMeth "Ring" "walk" u_Ring_walk (mVar 1) (aCons (mVar 3) (aNil)))) (sSeq (sIf (mT (mOp neD (mCall tupleD (aCons (mLc [9] (seqI (mVar 10)) (cNm 9) (mT (mOp neD (mVar 9) (mC (.str "newer")))) (mVar 9)) (aNil))) (mMeth "Ring" "walk" u_Ring_walk (mVar 0) (aCons (mVar 3) (aNil))))) (sRet (mC (.bl false))) (sNil)) (sRet (mOp eqD (mMeth "Ring" "walk" u_Ring_walk (mVar 2) (aCons (mVar 3) (aNil))) (mMeth "Ring" "walk" u_Ring_walk (mVar 0) (aCons (mVar 3) (aNil))))))))))))
end C
end Z

set_option linter.all false
set_option maxRecDepth 100000
namespace Z
namespace C
open PySem
def u__law_mate : MD := mkD 2 10 (sSeq (sPar [2, 3] (xVal (mOp idxD (mVar 1) (mC (.int 0))) (xVal (mOp idxD (mVar 1) (mC (.int 6))) (xNil)))) (sSeq (sPar [4, 5] (xVal (mCallD u__law_dip (aCons (mVar 0) (aCons (mC (.int 4)) (aNil)))) (xVal (mCallD u__law_borders (aCons (mOp idxD (mVar 1) (mC (.int 6))) (aNil))) (xNil)))) (sSeq (sIf (tOrZ (mT (mOp ltD (mVar 4) (mC (.int 2)))) (tOrZ (mT (mOp eqD (mCall lenD (aCons (mVar 5) (aNil))) (mVar 2))) (mT (mOp eqD (mCall lenD (aCons (mVar 3) (aNil))) (mC (.int 12)))))) (sRet (mCallD u__law_build (aCons (mVar 0) (aCons (mVar 2) (aCons (mC (.int 6)) (aCons (mC (.int 4)) (aNil))))))) (sNil)) (sSeq (sSet 6 (mCallD u__law_free (aCons (mVar 2) (aCons (mVar 5) (aCons (mCallD u__law_place (aCons (mVar 0) (aCons (mVar 2) (aCons (mVar 5) (aNil))))) (aNil)))))) (sSeq (sIf (mT (mOp eqD (mVar 4) (mC (.int 2)))) (sRet (mOp addAll (mOp addAll (mLst (aCons (mVar 2) (aNil))) (mCallD u__law_rule (aCons (mVar 0) (aNil)))) (mLst (aCons (mOp addD (mVar 3) (mTup (aCons (mTup (aCons (mC (.str "newer")) (aCons (mCallD u__law_of (aCons (mVar 0) (aCons (mLst (aCons (mC (.str "r")) (aCons (mOp idxD (mOp idxD (mVar 3) (mC (.int 0))) (mC (.int 1))) (aNil)))) (aNil)))) (aCons (mTup (aCons (mVar 6) (aNil))) (aNil))))) (aNil)))) (aNil))))) (sNil)) (sSeq (sAsg (gSeq (gsCons (gNm 7) (gsCons (gNm 8) (gsCons (gNm 9) (gsNil))))) (mOp idxD (mVar 3) (mC (.int 0)))) (sRet (mOp addAll (mSl slL (mVar 1) (oNone) (oSome (mC (.int 6)))) (mLst (aCons (mOp addD (mTup (aCons (mTup (aCons (mVar 7) (aCons (mVar 8) (aCons (mCall tupleD (aCons (mCallD (fun ds s => lft (sortedTD ds) s) (aCons (mOp addD (mSl slD (mVar 9) (oSome (mC (.int 1))) (oNone)) (mTup (aCons (mVar 6) (aNil)))) (aNil))) (aNil))) (aNil))))) (aNil))) (mSl slD (mVar 3) (oSome (mC (.int 1))) (oNone))) (aNil)))))))))))
def u_check_both : MD := mkD 2 2 (sSeq (sExpr (mCallD u_check_ring (aCons (mVar 0) (aNil)))) (sSeq (sExpr (mCallD u_check_ring (aCons (mVar 1) (aNil)))) (sIf (mT (mOp neD (mProp "Ring" u_Ring_points (mVar 0)) (mProp "Ring" u_Ring_points (mVar 1)))) (sDie) (sNil))))
def u_common_of : MD := mkD 2 4 (sSeq (sSet 2 (mCallD u_cut (aCons (mProp "Ring" u_Ring_points (mVar 0)) (aCons (mCallD u_marks_of (aCons (mLst (aCons (mVar 0) (aCons (mVar 1) (aNil)))) (aNil))) (aNil))))) (sRet (mCall tupleD (aCons (mLc [3] (seqI (mVar 2)) (cNm 3) (yesT) (mTup (aCons (mFld "Cell" "first" (mVar 3)) (aCons (mFld "Cell" "many" (mVar 3)) (aCons (mCallD u_keepers_of (aCons (mVar 0) (aCons (mFld "Cell" "last" (mVar 3)) (aNil)))) (aCons (mCallD u_keepers_of (aCons (mVar 1) (aCons (mFld "Cell" "last" (mVar 3)) (aNil)))) (aNil))))))) (aNil)))))
def u_common_cells : MD := mkD 2 2 (sSeq (sExpr (mCallD u_check_both (aCons (mVar 0) (aCons (mVar 1) (aNil))))) (sRet (mCallD u_common_of (aCons (mVar 0) (aCons (mVar 1) (aNil))))))
end C
end Z

set_option linter.all false
set_option maxRecDepth 100000
namespace Z
namespace C
open PySem
def u__law_draw : MD := mkD 2 5 (sSeq (sPar [2, 3] (xVal (mOpM idxCel (mVar 0) (mC (.int 1))) (xVal (mOp addD (mOp modD (mCall intD (aCons (mOpM idxCel (mVar 0) (mC (.int 1))) (aNil))) (mC (.int 40009))) (mC (.int 20021))) (xNil)))) (sSeq (sAsg (gCel (mVar 0) (mC (.int 2))) (mOp addD (mOpM idxCel (mVar 0) (mC (.int 2))) (mC (.int 1)))) (sSeq (sAsg (gCel (mVar 0) (mC (.int 1))) (mOp modD (mCall intD (aCons (mOp addD (mOp addD (mOp mulD (mVar 2) (mVar 3)) (mOp mulD (mC (.int 60013)) (mOpM idxCel (mVar 0) (mC (.int 2))))) (mC (.int 11))) (aNil))) (mC (.int 2147483629)))) (sSeq (sIf (mT (mOp gtD (mOpM idxCel (mVar 0) (mC (.int 0))) (mC (.int 0)))) (sSeq (sAsg (gSeq (gsCons (gCel (mVar 0) (mC (.int 0))) (gsCons (gNm 4) (gsNil)))) (mCall divmodD (aCons (mOpM idxCel (mVar 0) (mC (.int 0))) (aCons (mVar 1) (aNil))))) (sRet (mVar 4))) (sNil)) (sRet (mOp modD (mCall intD (aCons (mOp fdivD (mOpM idxCel (mVar 0) (mC (.int 1))) (mC (.int 89))) (aNil))) (mVar 1)))))))
def u__law_pick : MD := mkD 2 2 (sRet (mOp idxD (mVar 1) (mCallD u__law_draw (aCons (mVar 0) (aCons (mCall lenD (aCons (mVar 1) (aNil))) (aNil))))))
def u__law_marks : MD := mkD 4 9 (sSeq (sOwn 4 (mLst (aNil))) (sSeq (sFor (rngI (aCons (mVar 3) (aNil))) (gNm 5) (sSeq (sSet 6 (mCallD u__law_draw (aCons (mVar 0) (aCons (mVar 1) (aNil))))) (sIf (tBor 4 (mT (mOp notInAD (mVar 6) (mOp addAll (mVar 2) (mVar 4))))) (sApp 4 (mVar 6)) (sNil)))) (sSeq (sOwn 7 (mLc [8] (rngI (aCons (mOp addD (mCall lenD (aCons (mVar 2) (aNil))) (mC (.int 1))) (aNil))) (cNm 8) (mT (mOp notInAD (mVar 8) (mVar 2))) (mVar 8))) (sFrz 7 (sFrz 4 (sRet (mCall tupleD (aCons (mCallD (fun ds s => lft (sortedD ds) s) (aCons (mIf (mT (mOp neD (mVar 4) (mLst (aNil)))) (mVar 4) (mSl slL (mVar 7) (oNone) (oSome (mC (.int 1))))) (aNil))) (aNil)))))))))
def u__law_ring : MD := mkD 3 10 (sSeq (sPar [3, 4, 5] (xVal (mOp addD (mC (.int 1)) (mCallD u__law_draw (aCons (mVar 0) (aCons (mC (.int 5)) (aNil))))) (xVal (mLst (aNil)) (xOwn (mLst (aNil)) (xNil))))) (sSeq (sFor (rngI (aCons (mCall min2D (aCons (mVar 3) (aCons (mVar 1) (aNil)))) (aNil))) (gNm 6) (sSeq (sSet 7 (mCallD u__law_marks (aCons (mVar 0) (aCons (mVar 1) (aCons (mVar 4) (aCons (mOp addD (mC (.int 1)) (mCallD u__law_draw (aCons (mVar 0) (aCons (mVar 2) (aNil))))) (aNil))))))) (sSeq (sSet 4 (mOp addAll (mVar 4) (mCall listD (aCons (mVar 7) (aNil))))) (sSeq (sApp 5 (mTup (aCons (mOp idxD (mC (.str "abcdefgh")) (mVar 6)) (aCons (mCallD u__law_pick (aCons (mVar 0) (aCons (mLst (aCons (mC (.str "r1")) (aCons (mC (.str "r1")) (aCons (mC (.str "r2")) (aCons (mC (.str "r3")) (aNil)))))) (aNil)))) (aCons (mVar 7) (aNil)))))) (sIf (mT (mOp geD (mCall lenD (aCons (mVar 4) (aNil))) (mVar 1))) (sBrk) (sNil)))))) (sSeq (sSet 3 (mOp addD (mC (.int 1)) (mCallD u__law_draw (aCons (mVar 0) (aCons (mC (.int 4)) (aNil)))))) (sSeq (sOwn 8 (mLc [6] (rngI (aCons (mC (.int 2)) (aNil))) (cNm 6) (yesT) (mOp addD (mC (.int 1)) (mCallD u__law_draw (aCons (mVar 0) (aCons (mVar 3) (aNil))))))) (sSeq (sSet 9 (mLst (aCons (mCallD u__law_pick (aCons (mVar 0) (aCons (mLst (aCons (mC (.str "hosts")) (aCons (mC (.str "racks")) (aNil)))) (aNil)))) (aCons (mCallD u__law_pick (aCons (mVar 0) (aCons (mLst (aCons (mC (.str "plain")) (aCons (mC (.str "with")) (aNil)))) (aNil)))) (aNil))))) (sFrz 8 (sFrz 5 (sRet (mLst (aCons (mVar 1) (aCons (mVar 3) (aCons (mOp idxD (mVar 9) (mC (.int 0))) (aCons (mOp idxD (mVar 8) (mC (.int 0))) (aCons (mOp idxD (mVar 8) (mC (.int 1))) (aCons (mOp idxD (mVar 9) (mC (.int 1))) (aCons (mCall tupleD (aCons (mVar 5) (aNil))) (aNil)))))))))))))))))
def u__law_taken : MD := mkD 1 3 (sSeq (sSet 1 (mLst (aNil))) (sSeq (sFor (seqI (mVar 0)) (gNm 2) (sSet 1 (mOp addAll (mVar 1) (mCall listD (aCons (mOp idxD (mVar 2) (mC (.int 2))) (aNil)))))) (sRet (mVar 1))))
def u__law_second : MD := mkD 2 11 (sSeq (sPar [2, 3, 4] (xVal (mOp idxD (mVar 1) (mC (.int 0))) (xVal (mOp idxD (mVar 1) (mC (.int 6))) (xVal (mCallD u__law_draw (aCons (mVar 0) (aCons (mC (.int 5)) (aNil)))) (xNil))))) (sSeq (sSet 5 (mCallD u__law_taken (aCons (mVar 3) (aNil)))) (sSeq (sSet 6 (mCallD u__law_ring (aCons (mVar 0) (aCons (mVar 2) (aCons (mC (.int 3)) (aNil)))))) (sSeq (sIf (mT (mOp eqD (mVar 4) (mC (.int 0)))) (sRet (mVar 6)) (sNil)) (sSeq (sIf (tAndZ (mT (mOp eqD (mVar 4) (mC (.int 1)))) (mT (mOp ltD (mCall lenD (aCons (mVar 5) (aNil))) (mVar 2)))) (sSeq (sSet 7 (mTup (aCons (mC (.str "n")) (aCons (mCallD u__law_pick (aCons (mVar 0) (aCons (mLst (aCons (mC (.str "r1")) (aCons (mC (.str "r2")) (aCons (mC (.str "r4")) (aNil))))) (aNil)))) (aCons (mCallD u__law_marks (aCons (mVar 0) (aCons (mVar 2) (aCons (mVar 5) (aCons (mC (.int 2)) (aNil)))))) (aNil)))))) (sRet (mOp addAll (mSl slL (mVar 1) (oNone) (oSome (mC (.int 6)))) (mLst (aCons (mOp addD (mVar 3) (mTup (aCons (mVar 7) (aNil)))) (aNil)))))) (sNil)) (sSeq (sIf (tAndZ (mT (mOp eqD (mVar 4) (mC (.int 2)))) (mT (mOp gtD (mCall lenD (aCons (mVar 3) (aNil))) (mC (.int 1))))) (sSeq (sSet 8 (mCallD u__law_draw (aCons (mVar 0) (aCons (mCall lenD (aCons (mVar 3) (aNil))) (aNil))))) (sRet (mOp addAll (mSl slL (mVar 1) (oNone) (oSome (mC (.int 6)))) (mLst (aCons (mOp addD (mSl slD (mVar 3) (oNone) (oSome (mVar 8))) (mSl slD (mVar 3) (oSome (mOp addD (mVar 8) (mC (.int 1)))) (oNone))) (aNil)))))) (sNil)) (sSeq (sIf (mT (mOp eqD (mVar 4) (mC (.int 3)))) (sRet (mOp addAll (mOp addAll (mSl slL (mVar 1) (oNone) (oSome (mC (.int 1)))) (mSl slL (mVar 6) (oSome (mC (.int 1))) (oSome (mC (.int 6))))) (mLst (aCons (mRev revT (mVar 3)) (aNil))))) (sNil)) (sSeq (sSet 9 (mOp idxD (mVar 3) (mUn negD (mC (.int 1))))) (sSeq (sSet 10 (mCallD u__law_taken (aCons (mSl slD (mVar 3) (oNone) (oSome (mUn negD (mC (.int 1))))) (aNil)))) (sRet (mOp addAll (mSl slL (mVar 1) (oNone) (oSome (mC (.int 6)))) (mLst (aCons (mOp addD (mSl slD (mVar 3) (oNone) (oSome (mUn negD (mC (.int 1))))) (mTup (aCons (mTup (aCons (mOp idxD (mVar 9) (mC (.int 0))) (aCons (mOp idxD (mVar 9) (mC (.int 1))) (aCons (mCallD u__law_marks (aCons (mVar 0) (aCons (mVar 2) (aCons (mVar 10) (aCons (mC (.int 3)) (aNil)))))) (aNil))))) (aNil)))) (aNil))))))))))))))
def u__law_walk : MD := mkD 2 8 (sSeq (sOwn 2 (mLst (aNil))) (sSeq (sFor (seqI (mOp idxD (mVar 0) (mC (.int 6)))) (gSeq (gsCons (gNm 3) (gsCons (gNm 4) (gsCons (gNm 5) (gsNil))))) (sApp 2 (mTup (aCons (mCall minLD (aCons (mLc [6] (seqI (mVar 5)) (cNm 6) (yesT) (mOp modD (mCall intD (aCons (mOp subD (mVar 6) (mVar 1)) (aNil))) (mOp idxD (mVar 0) (mC (.int 0))))) (aNil))) (aCons (mVar 3) (aNil)))))) (sFrz 2 (sRet (mLc [7, 3] (seqI (mCallD (fun ds s => lft (sortedD ds) s) (aCons (mVar 2) (aNil)))) (cTup [7, 3]) (yesT) (mVar 3))))))
def u__law_keepers : MD := mkD 2 9 (sSeq (sPar [2, 3] (xVal (mCallD u__law_walk (aCons (mVar 0) (aCons (mVar 1) (aNil)))) (xVal (mOp idxD (mVar 0) (mC (.int 1))) (xNil)))) (sSeq (sIf (mT (mOp eqD (mOp idxD (mVar 0) (mC (.int 2))) (mC (.str "hosts")))) (sRet (mCall tupleD (aCons (mSl slL (mVar 2) (oNone) (oSome (mVar 3))) (aNil)))) (sNil)) (sSeq (sPar [4, 5, 6] (xVal (mCallD (fun ds s => lft (dictPD ds) s) (aCons (mLc [7] (seqI (mOp idxD (mVar 0) (mC (.int 6)))) (cNm 7) (yesT) (mTup (aCons (mOp idxD (mVar 7) (mC (.int 0))) (aCons (mOp idxD (mVar 7) (mC (.int 1))) (aNil))))) (aNil))) (xOwn (mLst (aNil)) (xOwn (mLst (aNil)) (xNil))))) (sSeq (sFor (seqI (mVar 2)) (gNm 7) (sSeq (sIf (tBor 5 (tBor 6 (tAndZ (mT (mOp notInAD (mOp idxDic (mVar 4) (mVar 7)) (mVar 5))) (mT (mOp ltD (mCall lenD (aCons (mVar 6) (aNil))) (mVar 3)))))) (sApp 6 (mVar 7)) (sNil)) (sApp 5 (mOp idxDic (mVar 4) (mVar 7))))) (sSeq (sFrz 6 (sOwn 8 (mLc [7] (seqI (mVar 2)) (cNm 7) (mT (mOp notInAD (mVar 7) (mVar 6))) (mVar 7)))) (sFrz 8 (sRet (mCall tupleD (aCons (mOp addAll (mVar 6) (mSl slL (mVar 8) (oNone) (oSome (mOp subD (mVar 3) (mCall lenD (aCons (mVar 6) (aNil))))))) (aNil))))))))))
def u__law_arcs : MD := mkD 2 6 (sSeq (sIf (mT (mOp eqD (mCall lenD (aCons (mVar 1) (aNil))) (mVar 0))) (sRet (mTup (aCons (mTup (aCons (mC (.int 0)) (aCons (mVar 0) (aNil)))) (aNil)))) (sNil)) (sSeq (sOwn 2 (mLst (aNil))) (sSeq (sFor (seqI (mVar 1)) (gNm 3) (sIf (mT (mOp notInAD (mOp modD (mCall intD (aCons (mOp subD (mVar 3) (mC (.int 1))) (aNil))) (mVar 0)) (mVar 1))) (sSeq (sOwn 4 (mLc [5] (rng2I (aCons (mC (.int 1)) (aCons (mVar 0) (aNil)))) (cNm 5) (mT (mOp notInAD (mOp modD (mCall intD (aCons (mOp addD (mVar 3) (mVar 5)) (aNil))) (mVar 0)) (mVar 1))) (mVar 5))) (sFrz 4 (sApp 2 (mTup (aCons (mVar 3) (aCons (mOp idxD (mVar 4) (mC (.int 0))) (aNil))))))) (sNil))) (sFrz 2 (sRet (mCall tupleD (aCons (mVar 2) (aNil))))))))
def u_arcs_of : MD := mkD 3 8 (sSeq (sIf (mT (mCall allD (aCons (mVar 2) (aNil)))) (sRet (mTup (aCons (mTup (aCons (mC (.int 0)) (aCons (mVar 0) (aNil)))) (aNil)))) (sNil)) (sSeq (sOwn 3 (mLst (aNil))) (sSeq (sSet 4 (mOp indexB (mVar 2) (mC (.bl false)))) (sSeq (sFor (seqI (mLst (aStarR2 (mVar 4) (mCall lenD (aCons (mVar 1) (aNil))) (aStarR1 (mVar 4) (aNil))))) (gNm 5) (sSeq (sAsg (gSeq (gsCons (gNm 6) (gsCons (gNm 7) (gsNil)))) (mSl slD (mOp idxD (mVar 1) (mVar 5)) (oNone) (oSome (mC (.int 2))))) (sIf (tAndZ (mT (mOp idxD (mVar 2) (mVar 5))) (mT (mOp idxD (mVar 2) (mOp subD (mVar 5) (mC (.int 1)))))) (sPutL 3 (mUn negD (mC (.int 1))) (mBor 3 (mTup (aCons (mOp idxD (mOp idxD (mVar 3) (mUn negD (mC (.int 1)))) (mC (.int 0))) (aCons (mOp addD (mOp idxD (mOp idxD (mVar 3) (mUn negD (mC (.int 1)))) (mC (.int 1))) (mVar 7)) (aNil)))))) (sIf (mT (mOp idxD (mVar 2) (mVar 5))) (sApp 3 (mTup (aCons (mVar 6) (aCons (mVar 7) (aNil))))) (sNil))))) (sFrz 3 (sRet (mCall tupleD (aCons (mCallD (fun ds s => lft (sortedD ds) s) (aCons (mVar 3) (aNil))) (aNil)))))))))
def u_unlike_of : MD := mkD 2 4 (sSeq (sSet 2 (mCallD u_common_of (aCons (mVar 0) (aCons (mVar 1) (aNil))))) (sRet (mCallD u_arcs_of (aCons (mProp "Ring" u_Ring_points (mVar 0)) (aCons (mVar 2) (aCons (mLc [3] (seqI (mVar 2)) (cNm 3) (yesT) (mOp neD (mOp idxD (mVar 3) (mC (.int 2))) (mOp idxD (mVar 3) (mC (.int 3))))) (aNil)))))))
def u_unlike_arcs : MD := mkD 2 2 (sSeq (sExpr (mCallD u_check_both (aCons (mVar 0) (aCons (mVar 1) (aNil))))) (sRet (mCallD u_unlike_of (aCons (mVar 0) (aCons (mVar 1) (aNil))))))
def u_alien_of : MD := mkD 2 4 (sSeq (sSet 2 (mCallD u_common_of (aCons (mVar 0) (aCons (mVar 1) (aNil))))) (sRet (mCallD u_arcs_of (aCons (mProp "Ring" u_Ring_points (mVar 0)) (aCons (mVar 2) (aCons (mLc [3] (seqI (mVar 2)) (cNm 3) (yesT) (mOp neD (mCallD (fun ds s => lft (sortedTD ds) s) (aCons (mOp idxD (mVar 3) (mC (.int 2))) (aNil))) (mCallD (fun ds s => lft (sortedTD ds) s) (aCons (mOp idxD (mVar 3) (mC (.int 3))) (aNil))))) (aNil)))))))
def u_alien_arcs : MD := mkD 2 2 (sSeq (sExpr (mCallD u_check_both (aCons (mVar 0) (aCons (mVar 1) (aNil))))) (sRet (mCallD u_alien_of (aCons (mVar 0) (aCons (mVar 1) (aNil))))))
def u_alike : MD := mkD 2 2 (sRet (mOp eqD (mCallD u_unlike_arcs (aCons (mVar 0) (aCons (mVar 1) (aNil)))) (mTup (aNil))))
def u_kin : MD := mkD 2 2 (sRet (mOp eqD (mCallD u_alien_arcs (aCons (mVar 0) (aCons (mVar 1) (aNil)))) (mTup (aNil))))
def u__law_purse : MD := mkF 2 5 (sSeq (sIf (mT (mOp ltD (mVar 1) (mCall lenD (aCons (mVar 0) (aNil))))) (sSeq (sSet 2 (mOp idxD (mVar 0) (mVar 1))) (sSeq (sSet 3 (mIf (tOrZ (mT (mOp ltD (mVar 2) (mC (.int 0)))) (mT (mOp geD (mVar 2) (mOp powD (mC (.int 10)) (mC (.int 18)))))) (mCall absD (aCons (mVar 2) (aNil))) (mC (.int 0)))) (sRto (mLst (aCons (mVar 3) (aCons (mOp modD (mCall intD (aCons (mOp addD (mOp addD (mOp mulD (mVar 2) (mC (.int 39373))) (mOp mulD (mC (.int 104723)) (mVar 1))) (mC (.int 17))) (aNil))) (mC (.int 2147483629))) (aCons (mC (.int 0)) (aNil)))))))) (sNil)) (sSeq (sSet 4 (mOp addD (mOp mulD (mC (.int 86243)) (mVar 1)) (mC (.int 131)))) (sSeq (sFor (seqI (mSl slL (mVar 0) (oNone) (oSome (mC (.int 4))))) (gNm 2) (sSet 4 (mOp modD (mCall intD (aCons (mOp addD (mOp mulD (mVar 4) (mC (.int 48271))) (mVar 2)) (aNil))) (mC (.int 2147483587))))) (sRto (mLst (aCons (mC (.int 0)) (aCons (mVar 4) (aCons (mC (.int 0)) (aNil)))))))))
def u__law_is_apart : MD := mkD 2 7 (sSeq (sIf (mT (mOp eqD (mVar 1) (mTup (aCons (mTup (aCons (mC (.int 0)) (aCons (mVar 0) (aNil)))) (aNil))))) (sRet (mC (.bl true))) (sNil)) (sSeq (sFor (rngI (aCons (mCall lenD (aCons (mVar 1) (aNil))) (aNil))) (gNm 2) (sSeq (sAsg (gSeq (gsCons (gNm 3) (gsCons (gNm 4) (gsNil)))) (mOp idxD (mVar 1) (mVar 2))) (sSeq (sSet 5 (mOp idxD (mVar 1) (mOp subD (mVar 2) (mC (.int 1))))) (sSeq (sSet 6 (mIf (mT (mOp eqD (mCall lenD (aCons (mVar 1) (aNil))) (mC (.int 1)))) (mOp subD (mVar 0) (mVar 4)) (mOp modD (mCall intD (aCons (mOp subD (mOp subD (mVar 3) (mOp idxD (mVar 5) (mC (.int 0)))) (mOp idxD (mVar 5) (mC (.int 1)))) (aNil))) (mVar 0)))) (sIf (tOrZ (tNotZ (mT (mChain leD ltD (mC (.int 0)) (mVar 3) (mVar 0)))) (tOrZ (mT (mOp ltD (mVar 4) (mC (.int 1)))) (tOrZ (mT (mOp ltD (mVar 6) (mC (.int 1)))) (tAndZ (mT (mOp gtD (mVar 2) (mC (.int 0)))) (mT (mOp leD (mVar 3) (mOp idxD (mVar 5) (mC (.int 0))))))))) (sRet (mC (.bl false))) (sNil)))))) (sRet (mOp ltD (mCall sumD (aCons (mLc [3, 4] (seqI (mVar 1)) (cTup [3, 4]) (yesT) (mVar 4)) (aNil))) (mVar 0)))))
def u__law_spots : MD := mkD 3 9 (sSeq (sSet 3 (mLst (aNil))) (sSeq (sFor (seqI (mVar 1)) (gNm 4) (sSet 3 (mOp addAll (mOp addAll (mVar 3) (mCall listD (aCons (mOp idxD (mVar 4) (mC (.int 2))) (aNil)))) (mLc [5] (seqI (mOp idxD (mVar 4) (mC (.int 2)))) (cNm 5) (yesT) (mOp modD (mCall intD (aCons (mOp addD (mVar 5) (mC (.int 1))) (aNil))) (mVar 0)))))) (sSeq (sFor (seqI (mVar 2)) (gSeq (gsCons (gNm 6) (gsCons (gNm 7) (gsNil)))) (sSet 3 (mOp addAll (mVar 3) (mLc [8] (seqI (mLst (aCons (mUn negD (mC (.int 1))) (aCons (mC (.int 0)) (aCons (mOp subD (mVar 7) (mC (.int 1))) (aCons (mVar 7) (aNil))))))) (cNm 8) (yesT) (mOp modD (mCall intD (aCons (mOp addD (mVar 6) (mVar 8)) (aNil))) (mVar 0)))))) (sRet (mVar 3)))))
def u__law_is_in : MD := mkD 3 3 (sRet (mOp ltD (mOp modD (mCall intD (aCons (mOp subD (mVar 2) (mOp idxD (mVar 0) (mC (.int 0)))) (aNil))) (mVar 1)) (mOp idxD (mVar 0) (mC (.int 1)))))
end C
end Z

set_option linter.all false
set_option maxRecDepth 100000
namespace Z
namespace C
open PySem
def u_P_law_made : MD := mkD 1 8 (sSeq (sAsg (gSeq (gsCons (gNm 1) (gsCons (gNm 2) (gsCons (gNm 3) (gsCons (gNm 4) (gsCons (gNm 5) (gsCons (gNm 6) (gsCons (gNm 7) (gsNil))))))))) (mVar 0)) (sRet (mCallD (mdMake "Ring" u_Ring___init__) (aCons (mVar 1) (aCons (mVar 2) (aCons (mVar 3) (aCons (mVar 4) (aCons (mVar 5) (aCons (mVar 6) (aCons (mVar 7) (aNil)))))))))))
def u_P_law_far : MD := mkD 2 4 (sSeq (sSet 2 (mC (.int 0))) (sSeq (sFor (rngI (aCons (mC (.int 3)) (aNil))) (gNm 3) (sSet 2 (mOp addD (mOp mulD (mVar 2) (mOp powD (mC (.int 10)) (mC (.int 6)))) (mCallD u__law_draw (aCons (mVar 0) (aCons (mOp powD (mC (.int 10)) (mC (.int 6))) (aNil))))))) (sRet (mOp modD (mCall intD (aCons (mVar 2) (aNil))) (mVar 1)))))
def u__law_great : MD := mkD 1 11 (sSeq (sSet 1 (mCallD u__law_pick (aCons (mVar 0) (aCons (mLst (aCons (mOp powD (mC (.int 10)) (mC (.int 18))) (aCons (mOp powD (mC (.int 10)) (mC (.int 18))) (aCons (mOp addD (mOp powD (mC (.int 10)) (mC (.int 6))) (mC (.int 3))) (aCons (mC (.int 97)) (aNil)))))) (aNil))))) (sSeq (sPar [2, 3] (xVal (mLst (aNil)) (xOwn (mLst (aNil)) (xNil)))) (sSeq (sFor (rngI (aCons (mOp addD (mC (.int 1)) (mCallD u__law_draw (aCons (mVar 0) (aCons (mC (.int 6)) (aNil))))) (aNil))) (gNm 4) (sSeq (sOwn 5 (mLst (aNil))) (sSeq (sFor (rngI (aCons (mOp addD (mC (.int 1)) (mCallD u__law_draw (aCons (mVar 0) (aCons (mC (.int 4)) (aNil))))) (aNil))) (gNm 6) (sSeq (sSet 7 (mCallD u__law_pick (aCons (mVar 0) (aCons (mLst (aCons (mCallD u_P_law_far (aCons (mVar 0) (aCons (mVar 1) (aNil)))) (aCons (mCallD u__law_draw (aCons (mVar 0) (aCons (mC (.int 40)) (aNil)))) (aCons (mOp subD (mVar 1) (mC (.int 1))) (aNil))))) (aNil))))) (sIf (tBor 5 (mT (mOp notInAD (mVar 7) (mOp addAll (mVar 2) (mVar 5))))) (sApp 5 (mVar 7)) (sNil)))) (sFrz 5 (sIf (mT (mOp neD (mVar 5) (mLst (aNil)))) (sSeq (sApp 3 (mTup (aCons (mOp idxD (mC (.str "abcdefgh")) (mVar 4)) (aCons (mCallD u__law_pick (aCons (mVar 0) (aCons (mLst (aCons (mC (.str "r1")) (aCons (mC (.str "r2")) (aCons (mC (.str "r3")) (aNil))))) (aNil)))) (aCons (mCall tupleD (aCons (mCallD (fun ds s => lft (sortedD ds) s) (aCons (mVar 5) (aNil))) (aNil))) (aNil)))))) (sSet 2 (mOp addAll (mVar 2) (mVar 5)))) (sNil)))))) (sSeq (sFrz 3 (sIf (mT (mOp eqD (mVar 3) (mLst (aNil)))) (sOwn 3 (mLst (aCons (mTup (aCons (mC (.str "a")) (aCons (mC (.str "r1")) (aCons (mTup (aCons (mC (.int 5)) (aNil))) (aNil))))) (aNil)))) (sNil))) (sSeq (sSet 8 (mOp addD (mC (.int 1)) (mCallD u__law_draw (aCons (mVar 0) (aCons (mC (.int 5)) (aNil)))))) (sSeq (sOwn 9 (mLc [4] (rngI (aCons (mC (.int 2)) (aNil))) (cNm 4) (yesT) (mOp addD (mC (.int 1)) (mCallD u__law_draw (aCons (mVar 0) (aCons (mVar 8) (aNil))))))) (sSeq (sSet 10 (mLst (aCons (mCallD u__law_pick (aCons (mVar 0) (aCons (mLst (aCons (mC (.str "hosts")) (aCons (mC (.str "racks")) (aNil)))) (aNil)))) (aCons (mCallD u__law_pick (aCons (mVar 0) (aCons (mLst (aCons (mC (.str "plain")) (aCons (mC (.str "with")) (aNil)))) (aNil)))) (aNil))))) (sFrz 9 (sFrz 3 (sRet (mLst (aCons (mVar 1) (aCons (mVar 8) (aCons (mOp idxD (mVar 10) (mC (.int 0))) (aCons (mOp idxD (mVar 9) (mC (.int 0))) (aCons (mOp idxD (mVar 9) (mC (.int 1))) (aCons (mOp idxD (mVar 10) (mC (.int 1))) (aCons (mCall tupleD (aCons (mVar 3) (aNil))) (aNil)))))))))))))))))))
def u__law_due : MD := mkD 2 9 (sSeq (sSet 2 (mSos (mLc [3] (seqI (mOp addD (mOp idxD (mVar 0) (mC (.int 6))) (mOp idxD (mVar 1) (mC (.int 6))))) (cNm 3) (yesT) (mOp idxD (mVar 3) (mC (.int 0)))))) (sSeq (sPar [4, 5] (xOwn (mCallD (fun ds s => lft (dictPD ds) s) (aCons (mLc [3] (seqI (mVar 2)) (cNm 3) (yesT) (mTup (aCons (mVar 3) (aCons (mC (.int 0)) (aNil))))) (aNil))) (xOwn (mCallD (fun ds s => lft (dictPD ds) s) (aCons (mLc [3] (seqI (mVar 2)) (cNm 3) (yesT) (mTup (aCons (mVar 3) (aCons (mC (.int 0)) (aNil))))) (aNil))) (xNil)))) (sSeq (sFor (rngI (aCons (mOp idxD (mVar 0) (mC (.int 0))) (aNil))) (gNm 6) (sSeq (sPar [7, 8] (xVal (mCallD u__law_keepers (aCons (mVar 0) (aCons (mVar 6) (aNil)))) (xVal (mCallD u__law_keepers (aCons (mVar 1) (aCons (mVar 6) (aNil)))) (xNil)))) (sFor (seqI (mVar 2)) (gNm 3) (sSeq (sPutK 4 (mVar 3) (mBor 4 (mOp addD (mOp idxDic (mVar 4) (mVar 3)) (mIf (tAndZ (mT (mOp inAD (mVar 3) (mVar 8))) (mT (mOp notInAD (mVar 3) (mVar 7)))) (mC (.int 1)) (mC (.int 0)))))) (sPutK 5 (mVar 3) (mBor 5 (mOp addD (mOp idxDic (mVar 5) (mVar 3)) (mIf (tAndZ (mT (mOp inAD (mVar 3) (mVar 7))) (mT (mOp notInAD (mVar 3) (mVar 8)))) (mC (.int 1)) (mC (.int 0)))))))))) (sFrz 5 (sFrz 4 (sRet (mCall tupleD (aCons (mLc [3] (seqI (mVar 2)) (cNm 3) (yesT) (mTup (aCons (mVar 3) (aCons (mOp idxDic (mVar 4) (mVar 3)) (aCons (mOp idxDic (mVar 5) (mVar 3)) (aNil)))))) (aNil)))))))))
end C
end Z

set_option linter.all false
set_option maxRecDepth 100000
namespace Z
namespace C
open PySem
def u__law_counts : MD := mkD 1 10 (sSeq (sPar [1, 2] (xVal (mOp idxD (mVar 0) (mC (.int 0))) (xVal (mCallD u__law_whose (aCons (mOp idxD (mVar 0) (mC (.int 6))) (aNil))) (xNil)))) (sSeq (sSet 3 (mCallD (fun ds s => lft (dictPD ds) s) (aCons (mLc [4, 5, 6] (seqI (mOp idxD (mVar 0) (mC (.int 6)))) (cTup [4, 5, 6]) (yesT) (mTup (aCons (mVar 4) (aCons (mCel (mLst (aCons (mC (.int 0)) (aCons (mC (.int 0)) (aNil))))) (aNil))))) (aNil)))) (sSeq (sFor (rngI (aCons (mVar 1) (aNil))) (gNm 7) (sSeq (sSet 8 (mCallD u__law_keep (aCons (mVar 0) (aCons (mCallD u__law_round (aCons (mVar 1) (aCons (mVar 2) (aCons (mVar 7) (aNil))))) (aNil))))) (sSeq (sFor (seqI (mVar 8)) (gNm 4) (sSeq (sSet 9 (mOp idxDic (mVar 3) (mVar 4))) (sAsg (gCel (mVar 9) (mC (.int 0))) (mOp addD (mOpM idxCel (mVar 9) (mC (.int 0))) (mC (.int 1)))))) (sSeq (sSet 9 (mOp idxDic (mVar 3) (mOp idxD (mVar 8) (mC (.int 0))))) (sAsg (gCel (mVar 9) (mC (.int 1))) (mOp addD (mOpM idxCel (mVar 9) (mC (.int 1))) (mC (.int 1)))))))) (sRet (mVar 3)))))
def u_counts_of : MD := mkD 1 4 (sSeq (sOwn 1 (mDc [2] (seqI (mProp "Ring" u_Ring_names (mVar 0))) (cNm 2) (yesT) (mVar 2) (mC (.int 0)))) (sSeq (sFor (seqI (mCallD u_own_cells (aCons (mVar 0) (aNil)))) (gNm 3) (sFor (seqI (mCallD u_keepers_of (aCons (mVar 0) (aCons (mFld "Cell" "last" (mVar 3)) (aNil))))) (gNm 2) (sAugK 1 (mVar 2) (mFld "Cell" "many" (mVar 3))))) (sFrz 1 (sRet (mVar 1)))))
def u_kept : MD := mkD 2 2 (sSeq (sExpr (mCallD u_check_ring (aCons (mVar 0) (aNil)))) (sSeq (sExpr (mCallD u_check_host (aCons (mVar 0) (aCons (mVar 1) (aNil))))) (sRet (mOp idxDic (mCallD u_counts_of (aCons (mVar 0) (aNil))) (mVar 1)))))
def u_leads : MD := mkD 2 3 (sSeq (sExpr (mCallD u_check_ring (aCons (mVar 0) (aNil)))) (sSeq (sExpr (mCallD u_check_host (aCons (mVar 0) (aCons (mVar 1) (aNil))))) (sRet (mCall sumD (aCons (mLc [2] (seqI (mCallD u_own_cells (aCons (mVar 0) (aNil)))) (cNm 2) (mT (mOp eqD (mOp idxD (mCallD u_keepers_of (aCons (mVar 0) (aCons (mFld "Cell" "last" (mVar 2)) (aNil)))) (mC (.int 0))) (mVar 1))) (mFld "Cell" "many" (mVar 2))) (aNil))))))
def u_shares : MD := mkD 1 1 (sSeq (sExpr (mCallD u_check_ring (aCons (mVar 0) (aNil)))) (sRet (mUn tupleItemsD (mCallD u_counts_of (aCons (mVar 0) (aNil))))))
def u_greatest : MD := mkD 1 1 (sSeq (sExpr (mCallD u_check_ring (aCons (mVar 0) (aNil)))) (sRet (mUn maxValsD (mCallD u_counts_of (aCons (mVar 0) (aNil))))))
def u__law_told_right : MD := mkD 2 5 (sSeq (sForK 1 (gNm 2) (sSeq (sIf (mT (mOp neD (mCallD reprM (aCons (mLst (aCons (mCallD u_kept (aCons (mVar 0) (aCons (mVar 2) (aNil)))) (aCons (mCallD (mdPick [1, 0] u_kept) (aCons (mVar 2) (aCons (mVar 0) (aNil)))) (aNil)))) (aNil))) (mCallD reprM (aCons (mOp repD (mLst (aCons (mOpM idxCel (mOp idxDic (mVar 1) (mVar 2)) (mC (.int 0))) (aNil))) (mC (.int 2))) (aNil))))) (sRet (mC (.bl false))) (sNil)) (sIf (mT (mOp neD (mCallD reprM (aCons (mLst (aCons (mCallD u_leads (aCons (mVar 0) (aCons (mVar 2) (aNil)))) (aCons (mCallD (mdPick [1, 0] u_leads) (aCons (mVar 2) (aCons (mVar 0) (aNil)))) (aNil)))) (aNil))) (mCallD reprM (aCons (mOp repD (mLst (aCons (mOpM idxCel (mOp idxDic (mVar 1) (mVar 2)) (mC (.int 1))) (aNil))) (mC (.int 2))) (aNil))))) (sRet (mC (.bl false))) (sNil)))) (sSeq (sSet 3 (mCallD reprM (aCons (mCall tupleD (aCons (mLc [2] (seqI (mCallD (fun ds s => lft (sortedDicD ds) s) (aCons (mVar 1) (aNil)))) (cNm 2) (yesT) (mTup (aCons (mVar 2) (aCons (mOpM idxCel (mOp idxDic (mVar 1) (mVar 2)) (mC (.int 0))) (aNil))))) (aNil))) (aNil)))) (sSeq (sSet 4 (mCallD reprM (aCons (mCall maxLD (aCons (mLcK 1 [2] (cNm 2) (yesT) (mOpM idxCel (mOp idxDic (mVar 1) (mVar 2)) (mC (.int 0)))) (aNil))) (aNil)))) (sSeq (sIf (mT (mOp neD (mLst (aCons (mCallD reprM (aCons (mCallD u_shares (aCons (mVar 0) (aNil))) (aNil))) (aCons (mCallD reprM (aCons (mCallD (mdPick [0] u_shares) (aCons (mVar 0) (aNil))) (aNil))) (aNil)))) (mLst (aCons (mVar 3) (aCons (mVar 3) (aNil)))))) (sRet (mC (.bl false))) (sNil)) (sRet (mOp eqD (mLst (aCons (mCallD reprM (aCons (mCallD u_greatest (aCons (mVar 0) (aNil))) (aNil))) (aCons (mCallD reprM (aCons (mCallD (mdPick [0] u_greatest) (aCons (mVar 0) (aNil))) (aNil))) (aNil)))) (mLst (aCons (mVar 4) (aCons (mVar 4) (aNil))))))))))
def u__law_counted : MD := mkD 1 8 (sSeq (sOwn 1 (mCallD (fun ds s => lft (dictPD ds) s) (aCons (mLc [2, 3, 4] (seqI (mOp idxD (mVar 0) (mC (.int 6)))) (cTup [2, 3, 4]) (yesT) (mTup (aCons (mVar 2) (aCons (mC (.int 0)) (aNil))))) (aNil)))) (sSeq (sFor (seqI (mCallD u__law_parted (aCons (mOp idxD (mVar 0) (mC (.int 0))) (aCons (mCallD u__law_borders (aCons (mOp idxD (mVar 0) (mC (.int 6))) (aNil))) (aNil))))) (gSeq (gsCons (gNm 5) (gsCons (gNm 6) (gsCons (gNm 7) (gsNil))))) (sFor (seqI (mCallD u__law_keep (aCons (mVar 0) (aCons (mCallD u__law_far (aCons (mVar 0) (aCons (mVar 7) (aNil)))) (aNil))))) (gNm 2) (sPutK 1 (mVar 2) (mBor 1 (mOp addD (mOp idxDic (mVar 1) (mVar 2)) (mVar 6)))))) (sFrz 1 (sRet (mVar 1)))))
def u__law_firsts : MD := mkD 1 8 (sSeq (sOwn 1 (mCallD (fun ds s => lft (dictPD ds) s) (aCons (mLc [2, 3, 4] (seqI (mOp idxD (mVar 0) (mC (.int 6)))) (cTup [2, 3, 4]) (yesT) (mTup (aCons (mVar 2) (aCons (mC (.int 0)) (aNil))))) (aNil)))) (sSeq (sFor (seqI (mCallD u__law_parted (aCons (mOp idxD (mVar 0) (mC (.int 0))) (aCons (mCallD u__law_borders (aCons (mOp idxD (mVar 0) (mC (.int 6))) (aNil))) (aNil))))) (gSeq (gsCons (gNm 5) (gsCons (gNm 6) (gsCons (gNm 7) (gsNil))))) (sSeq (sSet 2 (mOp idxD (mCallD u__law_far (aCons (mVar 0) (aCons (mVar 7) (aNil)))) (mC (.int 0)))) (sPutK 1 (mVar 2) (mBor 1 (mOp addD (mOp idxDic (mVar 1) (mVar 2)) (mVar 6)))))) (sFrz 1 (sRet (mVar 1)))))
def u__law_even_right : MD := mkD 1 15 (sSeq (sPar [1, 2] (xVal (mOp addD (mC (.int 1)) (mCallD u__law_dip (aCons (mVar 0) (aCons (mC (.int 12)) (aNil))))) (xVal (mOp addD (mC (.int 1)) (mCallD u__law_dip (aCons (mVar 0) (aCons (mC (.int 4)) (aNil))))) (xNil)))) (sSeq (sSet 3 (mOp addD (mC (.int 1)) (mCallD u__law_vast (aCons (mVar 0) (aCons (mCallD u__law_of (aCons (mVar 0) (aCons (mLst (aCons (mC (.int 3)) (aCons (mOp powD (mC (.int 10)) (mC (.int 9))) (aCons (mOp fdivD (mOp powD (mC (.int 10)) (mC (.int 18))) (mOp mulD (mVar 1) (mVar 2))) (aNil))))) (aNil)))) (aNil)))))) (sSeq (sSet 4 (mCallD u__law_rule (aCons (mVar 0) (aNil)))) (sSeq (sPar [5, 6] (xVal (mCallD u__law_vast (aCons (mVar 0) (aCons (mOp mulD (mOp mulD (mVar 3) (mVar 1)) (mVar 2)) (aNil)))) (xVal (mOp mulD (mOp mulD (mVar 3) (mVar 1)) (mVar 2)) (xNil)))) (sSeq (sOwn 7 (mLst (aNil))) (sSeq (sFor (rngI (aCons (mVar 1) (aNil))) (gNm 8) (sSeq (sSet 9 (mCallD (fun ds s => lft (sortedD ds) s) (aCons (mLc [10] (rngI (aCons (mVar 2) (aNil))) (cNm 10) (yesT) (mOp modD (mCall intD (aCons (mOp addD (mVar 5) (mOp mulD (mVar 3) (mOp addD (mOp mulD (mVar 1) (mVar 10)) (mVar 8)))) (aNil))) (mVar 6))) (aNil)))) (sApp 7 (mTup (aCons (mOp addD (mC (.str "h")) (mCall strD (aCons (mVar 8) (aNil)))) (aCons (mOp addD (mC (.str "r")) (mCall strD (aCons (mVar 8) (aNil)))) (aCons (mCall tupleD (aCons (mVar 9) (aNil))) (aNil)))))))) (sSeq (sFrz 7 (sSet 11 (mCallD u__law_plain (aCons (mOp addAll (mOp addAll (mLst (aCons (mVar 6) (aNil))) (mVar 4)) (mLst (aCons (mCall tupleD (aCons (mVar 7) (aNil))) (aNil)))) (aNil))))) (sSeq (sSet 12 (mCall tupleD (aCons (mCallD (fun ds s => lft (sortedD ds) s) (aCons (mLc [8] (rngI (aCons (mVar 1) (aNil))) (cNm 8) (yesT) (mTup (aCons (mOp addD (mC (.str "h")) (mCall strD (aCons (mVar 8) (aNil)))) (aCons (mOp mulD (mOp mulD (mVar 3) (mVar 2)) (mCall min2D (aCons (mOp idxD (mVar 4) (mC (.int 0))) (aCons (mVar 1) (aNil))))) (aNil))))) (aNil))) (aNil)))) (sSeq (sIf (tOrZ (mT (mOp neD (mCallD reprM (aCons (mCallD u_shares (aCons (mVar 11) (aNil))) (aNil))) (mCallD reprM (aCons (mVar 12) (aNil))))) (mT (mOp neD (mCallD u_greatest (aCons (mVar 11) (aNil))) (mOp mulD (mOp mulD (mVar 3) (mVar 2)) (mCall min2D (aCons (mOp idxD (mVar 4) (mC (.int 0))) (aCons (mVar 1) (aNil)))))))) (sRet (mC (.bl false))) (sNil)) (sRet (mOp eqD (mLc [13, 14] (seqI (mVar 12)) (cTup [13, 14]) (yesT) (mCallD u_leads (aCons (mVar 11) (aCons (mVar 13) (aNil))))) (mOp repD (mLst (aCons (mOp mulD (mVar 3) (mVar 2)) (aNil))) (mVar 1)))))))))))))
end C
end Z

set_option linter.all false
set_option maxRecDepth 100000
namespace Z
namespace C
open PySem
def u_moves : MD := mkD 2 10 (sSeq (sExpr (mCallD u_check_both (aCons (mVar 0) (aCons (mVar 1) (aNil))))) (sSeq (sSet 2 (mCallD (fun ds s => lft (sortedDicD ds) s) (aCons (mMrg (mFld "Ring" "racks" (mVar 0)) (mFld "Ring" "racks" (mVar 1))) (aNil)))) (sSeq (sPar [3, 4] (xOwn (mDc [5] (seqI (mVar 2)) (cNm 5) (yesT) (mVar 5) (mC (.int 0))) (xOwn (mDc [5] (seqI (mVar 2)) (cNm 5) (yesT) (mVar 5) (mC (.int 0))) (xNil)))) (sSeq (sFor (seqI (mCallD u_common_of (aCons (mVar 0) (aCons (mVar 1) (aNil))))) (gSeq (gsCons (gNm 6) (gsCons (gNm 7) (gsCons (gNm 8) (gsCons (gNm 9) (gsNil)))))) (sFor (seqI (mVar 2)) (gNm 5) (sSeq (sIf (tAndZ (mT (mOp inAD (mVar 5) (mVar 9))) (mT (mOp notInAD (mVar 5) (mVar 8)))) (sAugK 3 (mVar 5) (mVar 7)) (sNil)) (sIf (tAndZ (mT (mOp inAD (mVar 5) (mVar 8))) (mT (mOp notInAD (mVar 5) (mVar 9)))) (sAugK 4 (mVar 5) (mVar 7)) (sNil))))) (sFrz 4 (sFrz 3 (sRet (mCall tupleD (aCons (mLc [5] (seqI (mVar 2)) (cNm 5) (yesT) (mTup (aCons (mVar 5) (aCons (mOp idxDic (mVar 3) (mVar 5)) (aCons (mOp idxDic (mVar 4) (mVar 5)) (aNil)))))) (aNil))))))))))
def u_moved : MD := mkD 2 5 (sRet (mCall sumD (aCons (mLc [2, 3, 4] (seqI (mCallD u_moves (aCons (mVar 0) (aCons (mVar 1) (aNil))))) (cTup [2, 3, 4]) (yesT) (mVar 3)) (aNil))))
def u__law_fresh : MD := mkD 2 8 (sSeq (sPar [2, 3] (xVal (mCallD u__law_taken (aCons (mOp idxD (mVar 1) (mC (.int 6))) (aNil))) (xOwn (mLst (aNil)) (xNil)))) (sSeq (sFor (rngI (aCons (mOp addD (mC (.int 1)) (mCallD u__law_draw (aCons (mVar 0) (aCons (mC (.int 4)) (aNil))))) (aNil))) (gNm 4) (sSeq (sSet 5 (mCallD u__law_pick (aCons (mVar 0) (aCons (mLst (aCons (mCallD u_P_law_far (aCons (mVar 0) (aCons (mOp idxD (mVar 1) (mC (.int 0))) (aNil)))) (aCons (mCallD u__law_draw (aCons (mVar 0) (aCons (mC (.int 60)) (aNil)))) (aNil)))) (aNil))))) (sIf (tBor 3 (mT (mOp notInAD (mVar 5) (mOp addAll (mVar 2) (mVar 3))))) (sApp 3 (mVar 5)) (sNil)))) (sSeq (sOwn 6 (mLc [7] (rngI (aCons (mC (.int 60)) (aNil))) (cNm 7) (mT (mOp notInAD (mVar 7) (mVar 2))) (mVar 7))) (sSeq (sFrz 6 (sFrz 3 (sSet 3 (mIf (mT (mOp neD (mVar 3) (mLst (aNil)))) (mVar 3) (mSl slL (mVar 6) (oNone) (oSome (mC (.int 1)))))))) (sRet (mTup (aCons (mC (.str "n")) (aCons (mCallD u__law_pick (aCons (mVar 0) (aCons (mLst (aCons (mC (.str "r1")) (aCons (mC (.str "r2")) (aCons (mC (.str "r4")) (aNil))))) (aNil)))) (aCons (mCall tupleD (aCons (mCallD (fun ds s => lft (sortedD ds) s) (aCons (mVar 3) (aNil))) (aNil))) (aNil))))))))))
def u__law_join_right : MD := mkD 5 17 (sSeq (sPar [5, 6] (xVal (mCallD u_moves (aCons (mVar 3) (aCons (mVar 4) (aNil)))) (xVal (mLst (aCons (mCallD (fun ds s => lft (dictPD ds) s) (aCons (mCall listD (aCons (mCallD u_shares (aCons (mVar 3) (aNil))) (aNil))) (aNil))) (aCons (mCallD (fun ds s => lft (dictPD ds) s) (aCons (mCall listD (aCons (mCallD u_shares (aCons (mVar 4) (aNil))) (aNil))) (aNil))) (aNil)))) (xNil)))) (sSeq (sPar [7, 8] (xVal (mCall sumD (aCons (mLc [9] (seqI (mVar 5)) (cNm 9) (yesT) (mOp idxD (mVar 9) (mC (.int 1)))) (aNil))) (xVal (mCall sumD (aCons (mLc [9] (seqI (mVar 5)) (cNm 9) (yesT) (mOp idxD (mVar 9) (mC (.int 2)))) (aNil))) (xNil)))) (sSeq (sFor (seqI (mVar 5)) (gSeq (gsCons (gNm 10) (gsCons (gNm 11) (gsCons (gNm 12) (gsNil))))) (sSeq (sIf (tOrZ (tAndZ (mT (mOp neD (mVar 10) (mC (.str "n")))) (mT (mOp gtD (mVar 11) (mC (.int 0))))) (tAndZ (mT (mOp eqD (mVar 10) (mC (.str "n")))) (mT (mOp gtD (mVar 12) (mC (.int 0)))))) (sRet (mC (.bl false))) (sNil)) (sIf (mT (mOp neD (mOp subD (mGet (mOp idxD (mVar 6) (mC (.int 1))) (mVar 10) (mC (.int 0))) (mGet (mOp idxD (mVar 6) (mC (.int 0))) (mVar 10) (mC (.int 0)))) (mOp subD (mVar 11) (mVar 12)))) (sRet (mC (.bl false))) (sNil)))) (sSeq (sIf (tOrZ (tAndZ (mT (mOp geD (mCall lenD (aCons (mOp idxD (mVar 1) (mC (.int 6))) (aNil))) (mOp idxD (mVar 1) (mC (.int 1))))) (mT (mOp neD (mVar 7) (mVar 8)))) (mT (mOp gtD (mVar 8) (mVar 7)))) (sRet (mC (.bl false))) (sNil)) (sSeq (sFor (rngI (aCons (mC (.int 20)) (aNil))) (gNm 13) (sSeq (sSet 14 (mCallD u_P_law_far (aCons (mVar 0) (aCons (mOp idxD (mVar 1) (mC (.int 0))) (aNil))))) (sSeq (sPar [15, 16] (xVal (mCallD u__law_keepers (aCons (mVar 1) (aCons (mVar 14) (aNil)))) (xVal (mCallD u__law_keepers (aCons (mVar 2) (aCons (mVar 14) (aNil)))) (xNil)))) (sSeq (sIf (mT (mOp gtD (mCall lenD (aCons (mLc [10] (seqI (mVar 15)) (cNm 10) (mT (mOp notInAD (mVar 10) (mVar 16))) (mVar 10)) (aNil))) (mC (.int 1)))) (sRet (mC (.bl false))) (sNil)) (sIf (mT (mOp neD (mLc [10] (seqI (mVar 16)) (cNm 10) (mT (mOp notInAD (mVar 10) (mOp addD (mVar 15) (mTup (aCons (mC (.str "n")) (aNil)))))) (mVar 10)) (mLst (aNil)))) (sRet (mC (.bl false))) (sNil)))))) (sRet (mCallD u_alike (aCons (mMeth "Ring" "left" u_Ring_left (mVar 4) (aCons (mC (.str "n")) (aNil))) (aCons (mVar 3) (aNil))))))))))
end C
end Z

set_option linter.all false
set_option maxRecDepth 100000
namespace Z
namespace C
open PySem
def u__law_most : MD := mkD 1 8 (sSeq (sPar [1, 2] (xVal (mOp idxD (mVar 0) (mC (.int 0))) (xVal (mCallD u__law_whose (aCons (mOp idxD (mVar 0) (mC (.int 6))) (aNil))) (xNil)))) (sSeq (sOwn 3 (mCallD (fun ds s => lft (dictPD ds) s) (aCons (mLc [4, 5, 6] (seqI (mOp idxD (mVar 0) (mC (.int 6)))) (cTup [4, 5, 6]) (yesT) (mTup (aCons (mVar 4) (aCons (mC (.int 0)) (aNil))))) (aNil)))) (sSeq (sFor (rngI (aCons (mVar 1) (aNil))) (gNm 7) (sFor (seqI (mCallD u__law_keep (aCons (mVar 0) (aCons (mCallD u__law_round (aCons (mVar 1) (aCons (mVar 2) (aCons (mVar 7) (aNil))))) (aNil))))) (gNm 4) (sPutK 3 (mVar 4) (mBor 3 (mOp addD (mOp idxDic (mVar 3) (mVar 4)) (mC (.int 1))))))) (sFrz 3 (sRet (mCall maxLD (aCons (mLcK 3 [4] (cNm 4) (yesT) (mOp idxDic (mVar 3) (mVar 4))) (aNil))))))))
def u__law_marked : MD := mkD 3 7 (sSeq (sOwn 3 (mLc [4, 5, 6] (seqI (mOp idxD (mVar 0) (mC (.int 6)))) (cTup [4, 5, 6]) (yesT) (mTup (aCons (mVar 4) (aCons (mVar 5) (aCons (mIf (mT (mOp eqD (mVar 4) (mVar 1))) (mCall tupleD (aCons (mCallD (fun ds s => lft (sortedTD ds) s) (aCons (mOp addD (mVar 6) (mTup (aCons (mVar 2) (aNil)))) (aNil))) (aNil))) (mVar 6)) (aNil))))))) (sFrz 3 (sRet (mOp addAll (mSl slL (mVar 0) (oNone) (oSome (mC (.int 6)))) (mLst (aCons (mCall tupleD (aCons (mVar 3) (aNil))) (aNil)))))))
def u__law_best : MD := mkD 2 6 (sSeq (sSet 2 (mCallD u__law_borders (aCons (mOp idxD (mVar 0) (mC (.int 6))) (aNil)))) (sSeq (sOwn 3 (mLst (aNil))) (sSeq (sFor (rngI (aCons (mOp idxD (mVar 0) (mC (.int 0))) (aNil))) (gNm 4) (sIf (mT (mOp notInAD (mVar 4) (mVar 2))) (sApp 3 (mTup (aCons (mCallD u__law_most (aCons (mCallD u__law_marked (aCons (mVar 0) (aCons (mVar 1) (aCons (mVar 4) (aNil))))) (aNil))) (aCons (mVar 4) (aNil))))) (sNil))) (sSeq (sFrz 3 (sAsg (gSeq (gsCons (gNm 5) (gsCons (gNm 4) (gsNil)))) (mCallD (fun ds s => lft (minTD ds) s) (aCons (mVar 3) (aNil))))) (sRet (mTup (aCons (mVar 4) (aCons (mVar 5) (aNil)))))))))
def u_with_mark : MD := mkD 3 7 (sSeq (sOwn 3 (mLst (aNil))) (sSeq (sFor (seqI (mProp "Ring" u_Ring_hosts (mVar 0))) (gSeq (gsCons (gNm 4) (gsCons (gNm 5) (gsCons (gNm 6) (gsNil))))) (sApp 3 (mTup (aCons (mVar 4) (aCons (mVar 5) (aCons (mIf (mT (mOp eqD (mVar 4) (mVar 1))) (mCall tupleD (aCons (mCallD (fun ds s => lft (sortedD ds) s) (aCons (mLst (aStar (mVar 6) (aCons (mVar 2) (aNil)))) (aNil))) (aNil))) (mVar 6)) (aNil))))))) (sFrz 3 (sRet (mCallD u_with_hosts (aCons (mVar 0) (aCons (mCall tupleD (aCons (mVar 3) (aNil))) (aNil))))))))
def u_Change___init__ : MI0 := mkI 3 4 (nSeq (nFld "rest" (mVar 1)) (nSeq (nFld "rising" (mVar 2)) (nSeq (nFld "falling" (mVar 3)) (nNil))))
def u_change_of : MD := mkD 3 11 (sSeq (sSet 3 (mCallD u_with_mark (aCons (mVar 0) (aCons (mVar 2) (aCons (mFld "Cell" "first" (mVar 1)) (aNil)))))) (sSeq (sSet 4 (mCallD u_counts_of (aCons (mVar 3) (aNil)))) (sSeq (sPar [5, 6] (xVal (mCallD u_keepers_of (aCons (mVar 3) (aCons (mFld "Cell" "first" (mVar 1)) (aNil)))) (xVal (mCallD u_keepers_of (aCons (mVar 3) (aCons (mFld "Cell" "last" (mVar 1)) (aNil)))) (xNil)))) (sSeq (sOwn 7 (mLc [8] (seqI (mVar 5)) (cNm 8) (mT (mOp notInAD (mVar 8) (mVar 6))) (mOp idxDic (mVar 4) (mVar 8)))) (sSeq (sOwn 9 (mLc [8] (seqI (mVar 6)) (cNm 8) (mT (mOp notInAD (mVar 8) (mVar 5))) (mOp idxDic (mVar 4) (mVar 8)))) (sSeq (sOwn 10 (mLcK 4 [8] (cNm 8) (mT (mOp eqD (mOp inAD (mVar 8) (mVar 5)) (mOp inAD (mVar 8) (mVar 6)))) (mOp idxDic (mVar 4) (mVar 8)))) (sFrz 7 (sFrz 10 (sFrz 9 (sRet (mCallD (mdMake "Change" u_Change___init__) (aCons (mCall maxLD (aCons (mLst (aCons (mC (.int 0)) (aStar (mVar 10) (aNil)))) (aNil))) (aCons (mVar 7) (aCons (mVar 9) (aNil)))))))))))))))
def u_Change_share : MD := mkD 2 3 (sRet (mCall maxLD (aCons (mLst (aCons (mFld "Change" "rest" (mVar 0)) (aStar (mLc [2] (seqI (mFld "Change" "rising" (mVar 0))) (cNm 2) (yesT) (mOp addD (mVar 2) (mVar 1))) (aStar (mLc [2] (seqI (mFld "Change" "falling" (mVar 0))) (cNm 2) (yesT) (mOp subD (mVar 2) (mVar 1))) (aNil))))) (aNil))))
def u_Change_least_steps : MD := mkD 2 3 (sRet (mCall maxLD (aCons (mLst (aCons (mC (.int 0)) (aStar (mLc [2] (seqI (mFld "Change" "falling" (mVar 0))) (cNm 2) (yesT) (mOp subD (mVar 2) (mVar 1))) (aNil)))) (aNil))))
def u_Change_most_steps : MD := mkD 3 4 (sRet (mCall minLD (aCons (mLst (aCons (mVar 2) (aStar (mLc [3] (seqI (mFld "Change" "rising" (mVar 0))) (cNm 3) (yesT) (mOp subD (mVar 1) (mVar 3))) (aNil)))) (aNil))))
def u_best_within : MD := mkD 3 15 (sSeq (sSet 3 (mOp subD (mFld "Cell" "many" (mVar 1)) (mC (.int 2)))) (sSeq (sIf (mT (mOp ltD (mVar 3) (mC (.int 0)))) (sRet (mC .non)) (sNil)) (sSeq (sSet 4 (mCallD u_change_of (aCons (mVar 0) (aCons (mVar 1) (aCons (mVar 2) (aNil)))))) (sSeq (sOwn 5 (mLc2 [6, 7] (seqI (mFld "Change" "falling" (mVar 4))) (cNm 6) (yesT) (seqI (mFld "Change" "rising" (mVar 4))) [7] (cNm 7) (yesT) (mOp fdivD (mOp subD (mVar 6) (mVar 7)) (mC (.int 2))))) (sSeq (sFrz 5 (sSet 8 (mLst (aCons (mC (.int 0)) (aCons (mVar 3) (aStar (mLc2 [9, 10] (seqI (mVar 5)) (cNm 9) (yesT) (seqI (mTup (aCons (mC (.int 0)) (aCons (mC (.int 1)) (aNil))))) [10] (cNm 10) (yesT) (mCall min2D (aCons (mVar 3) (aCons (mCall max2D (aCons (mC (.int 0)) (aCons (mOp addD (mVar 9) (mVar 10)) (aNil)))) (aNil))))) (aNil))))))) (sSeq (sSet 11 (mCall minLD (aCons (mLc [12] (seqI (mVar 8)) (cNm 12) (yesT) (mMeth "Change" "share" u_Change_share (mVar 4) (aCons (mVar 12) (aNil)))) (aNil)))) (sSeq (sSet 13 (mOp addD (mFld "Cell" "first" (mVar 1)) (mMeth "Change" "least_steps" u_Change_least_steps (mVar 4) (aCons (mVar 11) (aNil))))) (sSeq (sSet 14 (mOp addD (mFld "Cell" "first" (mVar 1)) (mMeth "Change" "most_steps" u_Change_most_steps (mVar 4) (aCons (mVar 11) (aCons (mVar 3) (aNil)))))) (sRet (mTup (aCons (mVar 11) (aCons (mIf (mT (mChain ltD leD (mVar 13) (mProp "Ring" u_Ring_points (mVar 0)) (mVar 14))) (mC (.int 0)) (mOp modD (mVar 13) (mProp "Ring" u_Ring_points (mVar 0)))) (aNil)))))))))))))
def u_best_mark : MD := mkD 2 7 (sSeq (sExpr (mCallD u_check_ring (aCons (mVar 0) (aNil)))) (sSeq (sExpr (mCallD u_check_host (aCons (mVar 0) (aCons (mVar 1) (aNil))))) (sSeq (sIf (tOrZ (mT (mOp eqD (mCall lenD (aCons (mOp idxD (mOpM (ownSub "Ring" u_Ring___getitem__) (mVar 0) (mVar 1)) (mC (.int 1))) (aNil))) (mC (.int 16)))) (mT (mOp eqD (mCall lenD (aCons (mFld "Ring" "marks" (mVar 0)) (aNil))) (mProp "Ring" u_Ring_points (mVar 0))))) (sDie) (sNil)) (sSeq (sOwn 2 (mLc [3] (seqI (mCallD u_own_cells (aCons (mVar 0) (aNil)))) (cNm 3) (yesT) (mCallD u_best_within (aCons (mVar 0) (aCons (mVar 3) (aCons (mVar 1) (aNil))))))) (sSeq (sFrz 2 (sAsg (gSeq (gsCons (gNm 4) (gsCons (gNm 5) (gsNil)))) (mCallD (fun ds s => lft (minTD ds) s) (aCons (mLc [6] (seqI (mVar 2)) (cNm 6) (mT (mUn notND (mVar 6))) (mVar 6)) (aNil))))) (sRet (mTup (aCons (mVar 5) (aCons (mVar 4) (aNil))))))))))
def u__law_tried : MD := mkD 3 11 (sSeq (sPar [3, 4] (xVal (mOp idxD (mVar 1) (mC (.int 0))) (xVal (mCallD u__law_borders (aCons (mOp idxD (mVar 1) (mC (.int 6))) (aNil))) (xNil)))) (sSeq (sSet 5 (mOp addAll (mLst (aCons (mOp subD (mVar 2) (mC (.int 1))) (aCons (mOp addD (mVar 2) (mC (.int 1))) (aCons (mOp subD (mVar 2) (mC (.int 2))) (aCons (mC (.int 0)) (aCons (mOp subD (mVar 3) (mC (.int 1))) (aNil))))))) (mLc [6] (rngI (aCons (mC (.int 5)) (aNil))) (cNm 6) (yesT) (mCallD u__law_place (aCons (mVar 0) (aCons (mVar 3) (aCons (mVar 4) (aNil)))))))) (sSeq (sFor (seqI (mCallD u__law_parted (aCons (mVar 3) (aCons (mVar 4) (aNil))))) (gSeq (gsCons (gNm 7) (gsCons (gNm 8) (gsCons (gNm 9) (gsNil))))) (sSet 5 (mOp addAll (mVar 5) (mLst (aCons (mOp subD (mVar 9) (mC (.int 1))) (aCons (mVar 7) (aCons (mOp modD (mCall intD (aCons (mOp addD (mVar 7) (mOp fdivD (mVar 8) (mC (.int 2)))) (aNil))) (mVar 3)) (aCons (mOp modD (mCall intD (aCons (mOp addD (mOp addD (mVar 7) (mOp fdivD (mVar 8) (mC (.int 2)))) (mC (.int 1))) (aNil))) (mVar 3)) (aNil))))))))) (sRet (mLc [10] (seqI (mVar 5)) (cNm 10) (tAndZ (mT (mChain leD ltD (mC (.int 0)) (mVar 10) (mVar 3))) (tAndZ (mT (mOp notInAD (mVar 10) (mVar 4))) (mT (mOp neD (mVar 10) (mVar 2))))) (mVar 10))))))
end C
end Z

set_option Elab.async false
set_option linter.all false
set_option maxRecDepth 100000
set_option maxHeartbeats 4000000
namespace Z
open PySem PySem.Spec PyProof.Rows L2
/-! ### a dict of the module, text to number: d.get(key) -/
def lookSI (kvs : List (Str × Int)) (z : Str) : Option Int := (kvs.find? fun p => p.1 == z).map (·.2)
def mGetK (kvs : List (Str × Int)) (m : ME) : ME := fun e s => bnd (m e s) fun d s => match d with
  | .str z => some (match lookSI kvs z with | some i => .int i | none => .non, s)
  | _ => none
section
variable {X : Cx} {e : Expr} {x : Str} {p apos cpos : Pos} {m : ME} {kvs : List (Str × Int)}
end
/-! ### f(e, .., *t) -/
section
variable {X : Cx} {d : DefZ} {ps : List Str} {k j : Nat} {x : Str} {p pos : Pos} {e : Expr} {es : List Expr} {t : TA} {md : MD} {ma : MA}
end
/-! ### a dict display -/
inductive RepPs (K : PySem.W.Frag) (g : G) : List (V × V) → List (D × D) → Prop
  | nil : RepPs K g [] []
  | cons {x y a b ps ds} : Rep K g x a → Rep K g y b → RepPs K g ps ds → RepPs K g ((x, y) :: ps) ((a, b) :: ds)
theorem RepPs.mono {K : PySem.W.Frag} {g g' : G} (L : GLe g g') : ∀ {ps ds}, RepPs K g ps ds → RepPs K g' ps ds
  | _, _, .nil => .nil
  | _, _, .cons h1 h2 r => .cons (h1.mono L) (h2.mono L) (RepPs.mono L r)
def mPairs : List (ME × ME) → EnvD → S → Option (List (D × D) × S)
  | [], _, s => some ([], s)
  | (mk, mv) :: r, e, s => bnd (mk e s) fun a s => bnd (mv e s) fun b s => bnd (mPairs r e s) fun ps s => some ((a, b) :: ps, s)
def keysD : List (D × D) → Option (List (Key × D))
  | [] => some []
  | (a, b) :: r => match keyD a with
    | some k => (keysD r).map ((k, b) :: ·)
    | none => none
def dispD (acc : List (Key × D)) (more : List (Key × D)) : List (Key × D) := more.foldl (fun acc kv => putD acc kv.1 kv.2) acc
theorem RepK.merge {K : PySem.W.Frag} {g : G} : ∀ {ms : List (Key × V)} {md : List (Key × D)} {vs : List (Key × V)} {ds : List (Key × D)}, RepK K g ms md → RepK K g vs ds → RepK K g (mergeK vs ms) (dispD ds md)
  | _, _, _, _, .nil, h => h
  | _, _, _, _, .cons h r, q => RepK.merge (vs := putK _ _ _) (ds := putD _ _ _) r (q.put h)
theorem keysD_ok {K : PySem.W.Frag} {g : G} : ∀ {ps : List (V × V)} {ds : List (D × D)} {kd : List (Key × D)}, RepPs K g ps ds → keysD ds = some kd → ∃ kvs, ps = kvs.map (fun kv => (kV kv.1, kv.2)) ∧ RepK K g kvs kd ∧ kvs.length = ds.length
  | _, _, _, .nil, h => by cases h; exact ⟨[], rfl, .nil, rfl⟩
  | _, _, _, .cons (y := y) h1 h2 r, h => by
    unfold keysD at h
    split at h
    · rename_i k hk
      obtain ⟨q, h3, rfl⟩ := Option.map_eq_some_iff.mp h
      obtain ⟨kvs, e1, e2, e3⟩ := keysD_ok r h3
      refine ⟨(k, y) :: kvs, ?_, .cons h2 e2, by simp [e3]⟩
      rw [e1, rep_key h1 hk]; rfl
    · cases h
theorem tPairs_of {K : PySem.W.Frag} : ∀ (ms : List (ME × ME)) {σ : L2.St} {H : Hp} {Q : List (V × V) → Hp → Prop} {g : G} {e : EnvD} {s s' : Z.S} {ds : List (D × D)}, SRel K g H s → EnvRel K g H σ e → mPairs ms e s = some (ds, s') →
    (∀ ps g' H', Step K g H g' H' s' → RepPs K g' ps ds → Q ps H') → tPairs (ms.map fun m => (trE K m.1, trE K m.2)) σ H Q
  | [], σ, H, Q, g, e, s, s', ds, R, E, hm, k => by
    cases hm
    exact k [] g H (.refl R) .nil
  | (mk, mv) :: r, σ, H, Q, g, e, s, s', ds, R, E, hm, k => by
    obtain ⟨a, s1, h1, hm1⟩ := bnd_some hm
    obtain ⟨b, s2, h2, hm2⟩ := bnd_some hm1
    obtain ⟨ps, s3, h3, hm3⟩ := bnd_some hm2
    cases hm3
    refine ⟨g, e, s, a, s1, R, E, h1, fun x g1 H1 st1 rx => ⟨g1, e, s1, b, s2, st1.rel, E.step st1, h2, fun y g2 H2 st2 ry => ?_⟩⟩
    refine tPairs_of r st2.rel ((E.step st1).step st2) h3 fun qs g3 H3 st3 rq => ?_
    exact k _ g3 H3 ((st1.trans st2).trans st3) (.cons ((rx.mono st2.le).mono st3.le) (ry.mono st3.le) rq)
def mDisp (ms : List (ME × ME)) : ME := fun e s => bnd (mPairs ms e s) fun ps s => match keysD ps with
  | some kvs => if ps.length ≤ 15 then some (.dic (dispD [] kvs), s) else none
  | none => none
theorem f_disp {X : Cx} {pos : Pos} {keys : List (Option Expr)} {values : List Expr} {ms : List (ME × ME)} (h : PPs X pos keys values (ms.map fun m => (trE X.K m.1, trE X.K m.2))) (hall : keys.all (·.isSome) = true := by rfl) (hl : keys.length = values.length := by rfl) (h0 : keys ≠ [] := by decide)
    (h15 : keys.length ≤ 15 := by decide) : PE X (.Dict keys values pos) (trF X.K (mDisp ms)) := PE.imp (pe_disp h hall hl h0 h15) fun σ H Q ⟨g, e, s, d, s', R, E, hm, k⟩ => by
  intro p hp
  obtain ⟨ps, s1, h1, hm1⟩ := bnd_some hm
  split at hm1
  · rename_i kd hk
    split at hm1
    · rename_i hlen
      cases hm1
      obtain ⟨st0, z1, z2, z3⟩ := (Step.refl R).new1 (u := .dK []) hp
      refine tPairs_of ms st0.rel (E.step st0) h1 fun qs g' H' st rq => ?_
      obtain ⟨w1, w2, w3⟩ := st.apart upd_same z3 z2
      obtain ⟨kvs, e1, e2, e3⟩ := keysD_ok rq hk
      refine ⟨w1, kvs, e1, by omega, ?_⟩
      exact k p g' _ ((st0.trans st).put z1 w2 w3) z1 w3 w2 ⟨_, upd_same, e2.merge .nil⟩
    · cases hm1
  · cases hm1
/-! ### all parameters written, though there are defaults -/
section
variable {ex : PySem.W.Frag → Bool} {fn : List DefZ} {ts : List TabZ} {w : World} {K : PySem.W.Frag}
theorem SaysG.z (c : SaysG ex fn ts w K) : SaysZ ex fn K := congrArg (fun z : AlG => z.1) c
theorem SaysG.tab (c : SaysG ex fn ts w K) (i : Nat) {t : TabZ} (h : ts[i]? = some t := by rfl) : ∃ es n, KDict K w (He.ga K t.1) es n := by
  have e : ts.map (fun t => He.dicW K (He.ga K t.1)) = ts.map fun t => some (He.keysIn w.params t.2) := congrArg (fun z : AlG => z.2) c
  have e2 : (ts.map fun t => He.dicW K (He.ga K t.1))[i]? = (ts.map fun t => some (He.keysIn w.params t.2))[i]? := by rw [e]
  rw [List.getElem?_map, List.getElem?_map, h] at e2
  exact He.dicW_ok (Option.some.inj e2)
end
/-- what a law's text knows, tables too -/
structure TxG (ex : List (PySem.W.Frag → Bool)) (fn : List DefZ) (ts : List TabZ) (w : World) (K : PySem.W.Frag) (mg : Str → Option Value) : Prop extends TxOf ex fn K mg where
  tab : ∀ (i : Nat) (t : TabZ), ts[i]? = some t → ∃ es n, KDict K w (He.ga K t.1) es n
end Z

set_option Elab.async false
set_option linter.all false
set_option maxRecDepth 100000
set_option maxHeartbeats 4000000
namespace Z
open PySem PySem.Spec PyProof.Rows L2
/-! ### objects that stand as cells: read, written -/
def mFldC (c f : Str) (mo : ME) : ME := fun e s => bnd (mo e s) fun d s => match d with
  | .cel n => match s[n]? with
    | some (.obj c' fs) => if c' = c then lft (lookF fs f) s else none
    | _ => none
  | _ => none
section
variable {X : Cx} {o a : Expr} {f : Str} {pos pos' apos cpos : Pos} {mo me : ME}
/-- o.f = value, o an object that stands as a cell -/
def sFldC (c f : Str) (mo m : ME) : MS := fun e s => bndS (m e s) fun d s => bndS (mo e s) fun o s => match o with
  | .cel n => match s[n]? with
    | some (.obj c' fs) => if c' = c ∧ fs.length < 1000 then some (.nx, e, s.set n (.obj c (putFD f d fs))) else none
    | _ => none
  | _ => none
/-- o.append(value), o a list that stands as a cell -/
def sAppC (mo m : ME) : MS := fun e s => bndS (mo e s) fun o s1 => match o with
  | .cel n => match s1[n]? with
    | some (.lst _) => bndS (m e s1) fun d s2 => match s2[n]? with
      | some (.lst ds) => if ds.length < sizeLine then some (.nx, e, s2.set n (.lst (ds ++ [d]))) else none
      | _ => none
    | _ => none
  | _ => none
end
/-! ### an __init__ whose self stands as a cell, with at most one list of its own -/
mutual
def bel (k : Nat) : D → Bool
  | .cel n => decide (n < k)
  | .tup ds => bels k ds
  | .lst ds => bels k ds
  | .dic kvs => belK k kvs
  | .obj _ fs => belF k fs
  | .exc _ _ d => bel k d
  | _ => true
def bels (k : Nat) : List D → Bool
  | [] => true
  | d :: ds => bel k d && bels k ds
def belK (k : Nat) : List (Key × D) → Bool
  | [] => true
  | (_, d) :: r => bel k d && belK k r
def belF (k : Nat) : List (Str × D) → Bool
  | [] => true
  | (_, d) :: r => bel k d && belF k r
end
section
variable {K : PySem.W.Frag} {g g' : G} {k : Nat}
/-- a field's list that stood as the cell k + 1 -/
def thawD (k : Nat) (l : D) : D → D
  | .cel n => if n = k then l else .cel n
  | d => d
def belC (k : Nat) (d : D) : Bool := match d with
  | .cel n => decide (n < k) || decide (n = k + 1)
  | d => bel k d
end
/-- the object and its list, taken off the store again -/
def popO (k : Nat) (c : Str) (r : Option (Fl × EnvD × S)) : Option (List (Str × D) × S) := match r with
  | some (.nx, _, s) => match (s.take k).all (bel k) with
    | true => match s.drop k with
      | [.obj c' fs] => if c' = c ∧ belF k fs = true then some (fs, s.take k) else none
      | [.obj c' fs, .lst ds] => if c' = c ∧ bels k ds = true ∧ fs.all (fun p => belC k p.2) = true then some (fs.map fun p => (p.1, thawD (k + 1) (.lst ds) p.2), s.take k) else none
      | _ => none
    | false => none
  | _ => none
def startO (n m k : Nat) (ds : List D) : EnvD := .val (.cel k) :: startE n (m - 1) ds
def mkO (c : Str) (n m : Nat) (b : MS) : MI0 := fun ds s => if ds.length = n then popO s.length c (b (startO n m s.length ds) (s ++ [.obj c []])) else none
section
variable {K : PySem.W.Frag} {g g' : G} {H H' : Hp} {s s2 : Z.S} {x : Addr} {c : Str} {fs : List (Str × D)} {ds : List D}
end
section
variable {P : Program} {w : World} {K : PySem.W.Frag} {mg : Str → Option Value} {base : Heap} {d : DefZ} {N ps : List Str} {k n m : Nat} {b : MS} {c : Str}
end
end Z

set_option Elab.async false
set_option linter.all false
set_option maxRecDepth 100000
set_option maxHeartbeats 4000000
namespace Z
open PySem PySem.Spec PyProof.Rows L2
/-! ### an item of a list of one's own, read -/
def mIxO (i : Nat) (mb : ME) : ME := fun e s => bnd (mb e s) fun k s1 => match e[i]?, k with
  | some (.own (.lst ds)), .int j => (atI ds j).map fun d => (d, s1)
  | some (.val (.lst ds)), .int j => (atI ds j).map fun d => (d, s1)
  | _, _ => none
section
variable {X : Cx} {b : Expr} {x : Str} {mb : ME} {p pos : Pos}
end
end Z

set_option linter.all false
set_option maxRecDepth 100000
namespace Z
namespace C
open PySem
def u__law_names : MD := mkD 1 2 (sRet (mIf (mT (mUn isND (mVar 0))) (mLst (aNil)) (mLc [1] (seqI (mOp idxD (mVar 0) (mC (.int 6)))) (cNm 1) (yesT) (mOp idxD (mVar 1) (mC (.int 0))))))
def u__law_step : MD := mkD 2 11 (sSeq (sAsg (gSeq (gsCons (gNm 2) (gsCons (gNm 3) (gsCons (gNm 4) (gsNil))))) (mVar 1)) (sSeq (sSet 5 (mOp addAll (mOp addAll (mCallD u__law_names (aCons (mVar 2) (aNil))) (mCallD u__law_names (aCons (mVar 3) (aNil)))) (mLst (aCons (mC (.str "n")) (aCons (mC (.str "m")) (aNil)))))) (sSeq (sSet 6 (mCallD u__law_draw (aCons (mVar 0) (aCons (mC (.int 12)) (aNil))))) (sSeq (sIf (mT (mOp ltD (mVar 6) (mC (.int 2)))) (sSeq (sSet 7 (mCallD u__law_taken (aCons (mOp idxD (mVar 2) (mC (.int 6))) (aNil)))) (sSeq (sSet 8 (mIf (mT (mOp ltD (mCall lenD (aCons (mVar 7) (aNil))) (mOp idxD (mVar 2) (mC (.int 0))))) (mCallD u__law_marks (aCons (mVar 0) (aCons (mOp idxD (mVar 2) (mC (.int 0))) (aCons (mVar 7) (aCons (mC (.int 2)) (aNil)))))) (mTup (aCons (mC (.int 0)) (aNil))))) (sSeq (sSet 9 (mCallD u__law_pick (aCons (mVar 0) (aCons (mLst (aCons (mC (.str "n")) (aCons (mC (.str "m")) (aCons (mC (.str "o")) (aCons (mOp idxD (mVar 5) (mC (.int 0))) (aNil)))))) (aNil))))) (sRet (mTup (aCons (mC (.str "join")) (aCons (mVar 9) (aCons (mCallD u__law_pick (aCons (mVar 0) (aCons (mLst (aCons (mC (.str "r1")) (aCons (mC (.str "r2")) (aCons (mC (.str "r4")) (aNil))))) (aNil)))) (aCons (mVar 8) (aNil)))))))))) (sNil)) (sSeq (sIf (mT (mOp eqD (mVar 6) (mC (.int 2)))) (sRet (mTup (aCons (mC (.str "settle")) (aNil)))) (sNil)) (sSeq (sIf (mT (mOp eqD (mVar 6) (mC (.int 3)))) (sRet (mTup (aCons (mC (.str "leave")) (aCons (mCallD u__law_pick (aCons (mVar 0) (aCons (mVar 5) (aNil)))) (aNil))))) (sNil)) (sSeq (sIf (mT (mOp ltD (mVar 6) (mC (.int 8)))) (sSeq (sOwn 10 (mLst (aCons (mCallD u__law_pick (aCons (mVar 0) (aCons (mVar 5) (aNil)))) (aCons (mCallD u__law_pick (aCons (mVar 0) (aCons (mVar 5) (aNil)))) (aNil))))) (sSeq (sIf (tAndZ (mT (mUn notND (mVar 3))) (mT (mOp gtD (mCallD u__law_draw (aCons (mVar 0) (aCons (mC (.int 3)) (aNil)))) (mC (.int 0))))) (sPutL 10 (mC (.int 0)) (mCallD u__law_pick (aCons (mVar 0) (aCons (mOp addAll (mSl slL (mRev revLD (mCallD u__law_names (aCons (mVar 3) (aNil)))) (oNone) (oSome (mC (.int 2)))) (mCallD u__law_names (aCons (mVar 3) (aNil)))) (aNil))))) (sNil)) (sFrz 10 (sRet (mTup (aCons (mCallD u__law_pick (aCons (mVar 0) (aCons (mLst (aCons (mC (.str "copy")) (aCons (mC (.str "copy")) (aCons (mC (.str "repair")) (aNil))))) (aNil)))) (aCons (mOp idxD (mVar 10) (mC (.int 0))) (aCons (mOp idxD (mVar 10) (mC (.int 1))) (aNil))))))))) (sNil)) (sRet (mTup (aCons (mCallD u__law_pick (aCons (mVar 0) (aCons (mLst (aCons (mC (.str "down")) (aCons (mC (.str "up")) (aCons (mC (.str "up")) (aCons (mC (.str "wipe")) (aNil)))))) (aNil)))) (aCons (mCallD u__law_pick (aCons (mVar 0) (aCons (mOp addAll (mOp addAll (mVar 5) (mVar 4)) (mVar 4)) (aNil)))) (aNil))))))))))))
def u__law_changed : MD := mkD 2 8 (sSeq (sPar [2, 3] (xVal (mCallD u__law_names (aCons (mVar 0) (aNil))) (xVal (mCallD u__law_taken (aCons (mOp idxD (mVar 0) (mC (.int 6))) (aNil))) (xNil)))) (sSeq (sIf (mT (mOp eqD (mOp idxD (mVar 1) (mC (.int 0))) (mC (.str "join")))) (sSeq (sOwn 4 (mLc [5] (seqI (mOp idxD (mVar 1) (mC (.int 3)))) (cNm 5) (mT (mOp inAD (mVar 5) (mVar 3))) (mVar 5))) (sSeq (sFrz 4 (sIf (tOrZ (mT (mOp inAD (mOp idxD (mVar 1) (mC (.int 1))) (mVar 2))) (tOrZ (mT (mOp eqD (mCall lenD (aCons (mVar 2) (aNil))) (mC (.int 12)))) (mT (mOp neD (mVar 4) (mLst (aNil)))))) (sRet (mC .non)) (sNil))) (sRet (mOp addAll (mSl slL (mVar 0) (oNone) (oSome (mC (.int 6)))) (mLst (aCons (mOp addD (mOp idxD (mVar 0) (mC (.int 6))) (mTup (aCons (mCall tupleD (aCons (mSl slD (mVar 1) (oSome (mC (.int 1))) (oNone)) (aNil))) (aNil)))) (aNil))))))) (sNil)) (sSeq (sSet 6 (mCall tupleD (aCons (mLc [7] (seqI (mOp idxD (mVar 0) (mC (.int 6)))) (cNm 7) (mT (mOp neD (mOp idxD (mVar 7) (mC (.int 0))) (mOp idxD (mVar 1) (mC (.int 1))))) (mVar 7)) (aNil)))) (sRet (mIf (tAndZ (mT (mOp inAD (mOp idxD (mVar 1) (mC (.int 1))) (mVar 2))) (mT (mOp neD (mVar 6) (mTup (aNil))))) (mOp addAll (mSl slL (mVar 0) (oNone) (oSome (mC (.int 6)))) (mLst (aCons (mVar 6) (aNil)))) (mC .non))))))
def u__law_later : MD := mkD 2 11 (sSeq (sAsg (gSeq (gsCons (gNm 2) (gsCons (gNm 3) (gsCons (gNm 4) (gsNil))))) (mVar 0)) (sSeq (sIf (mT (mOp inAD (mOp idxD (mVar 1) (mC (.int 0))) (mLst (aCons (mC (.str "join")) (aCons (mC (.str "leave")) (aNil)))))) (sSeq (sSet 5 (mIf (mT (mUn isND (mVar 3))) (mCallD u__law_changed (aCons (mVar 2) (aCons (mVar 1) (aNil)))) (mC .non))) (sRet (mIf (mT (mUn isND (mVar 5))) (mC .non) (mLst (aCons (mVar 2) (aCons (mVar 5) (aCons (mVar 4) (aNil)))))))) (sNil)) (sSeq (sIf (mT (mOp eqD (mOp idxD (mVar 1) (mC (.int 0))) (mC (.str "settle")))) (sSeq (sSet 6 (mCallD u__law_names (aCons (mVar 3) (aNil)))) (sSeq (sOwn 7 (mLc [8] (seqI (mVar 4)) (cNm 8) (mT (mOp inAD (mVar 8) (mVar 6))) (mVar 8))) (sFrz 7 (sRet (mIf (mT (mUn isND (mVar 3))) (mC .non) (mLst (aCons (mVar 3) (aCons (mC .non) (aCons (mVar 7) (aNil)))))))))) (sNil)) (sSeq (sIf (mT (mOp inAD (mOp idxD (mVar 1) (mC (.int 0))) (mLst (aCons (mC (.str "copy")) (aCons (mC (.str "repair")) (aNil)))))) (sSeq (sSet 9 (mCallD u__law_names (aCons (mIf (mT (mOp eqD (mOp idxD (mVar 1) (mC (.int 0))) (mC (.str "copy")))) (mVar 3) (mVar 2)) (aNil)))) (sSeq (sSet 10 (mAnd (mOp inAD (mOp idxD (mVar 1) (mC (.int 1))) (mVar 9)) (mAnd (mOp inAD (mOp idxD (mVar 1) (mC (.int 2))) (mCallD u__law_names (aCons (mVar 2) (aNil)))) (mOp neD (mOp idxD (mVar 1) (mC (.int 1))) (mOp idxD (mVar 1) (mC (.int 2))))))) (sRet (mIf (tAndZ (mT (mVar 10)) (tAndZ (mT (mOp notInAD (mOp idxD (mVar 1) (mC (.int 1))) (mVar 4))) (mT (mOp notInAD (mOp idxD (mVar 1) (mC (.int 2))) (mVar 4))))) (mVar 0) (mC .non))))) (sNil)) (sSeq (sIf (mT (mOp notInAD (mOp idxD (mVar 1) (mC (.int 1))) (mOp addAll (mCallD u__law_names (aCons (mVar 2) (aNil))) (mCallD u__law_names (aCons (mVar 3) (aNil)))))) (sRet (mC .non)) (sNil)) (sSeq (sIf (tAndZ (mT (mOp neD (mOp idxD (mVar 1) (mC (.int 0))) (mC (.str "wipe")))) (mT (mOp neD (mOp eqD (mOp idxD (mVar 1) (mC (.int 0))) (mC (.str "up"))) (mOp inAD (mOp idxD (mVar 1) (mC (.int 1))) (mVar 4))))) (sRet (mC .non)) (sNil)) (sSeq (sOwn 7 (mLc [8] (seqI (mVar 4)) (cNm 8) (mT (mOp neD (mVar 8) (mOp idxD (mVar 1) (mC (.int 1))))) (mVar 8))) (sFrz 7 (sRet (mLst (aCons (mVar 2) (aCons (mVar 3) (aCons (mOp idxDic (mDisp [(mC (.str "wipe"), mVar 4), (mC (.str "up"), mVar 7), (mC (.str "down"), mCallD (fun ds s => lft (sortedD ds) s) (aCons (mOp addAll (mVar 7) (mLst (aCons (mOp idxD (mVar 1) (mC (.int 1))) (aNil)))) (aNil)))]) (mOp idxD (mVar 1) (mC (.int 0)))) (aNil))))))))))))))
def u__law_steps : MD := mkD 3 8 (sSeq (sPar [3, 4] (xOwn (mLst (aCons (mLst (aCons (mVar 1) (aCons (mC .non) (aCons (mLst (aNil)) (aNil))))) (aNil))) (xOwn (mLst (aNil)) (xNil)))) (sSeq (sFor (rngI (aCons (mVar 2) (aNil))) (gNm 5) (sSeq (sSet 6 (mCallD u__law_step (aCons (mVar 0) (aCons (mIxO 3 (mUn negD (mC (.int 1)))) (aNil))))) (sSeq (sSet 7 (mCallD u__law_later (aCons (mIxO 3 (mUn negD (mC (.int 1)))) (aCons (mVar 6) (aNil))))) (sIf (mT (mUn notND (mVar 7))) (sSeq (sApp 4 (mVar 6)) (sApp 3 (mVar 7))) (sNil))))) (sFrz 3 (sFrz 4 (sRet (mTup (aCons (mVar 4) (aCons (mVar 3) (aNil)))))))))
def u_Stand___init__ : MI0 := mkI 3 4 (nSeq (nFld "now" (mVar 1)) (nSeq (nFld "after" (mVar 2)) (nSeq (nFld "downs" (mVar 3)) (nNil))))
def u_behind_change : MD := mkD 2 3 (sSeq (sIf (mT (mUn notND (mFld "Stand" "after" (mVar 0)))) (sRet (mC .non)) (sNil)) (sSeq (sIf (mT (mOp eqD (mOp idxD (mVar 1) (mC (.int 0))) (mC (.str "join")))) (sSet 2 (mMeth "Ring" "joined" u_Ring_joined (mFld "Stand" "now" (mVar 0)) (aCons (mOp idxD (mVar 1) (mC (.int 1))) (aCons (mOp idxD (mVar 1) (mC (.int 2))) (aCons (mOp idxD (mVar 1) (mC (.int 3))) (aNil)))))) (sSet 2 (mMeth "Ring" "left" u_Ring_left (mFld "Stand" "now" (mVar 0)) (aCons (mOp idxD (mVar 1) (mC (.int 1))) (aNil))))) (sRet (mCallD (mdMake "Stand" u_Stand___init__) (aCons (mFld "Stand" "now" (mVar 0)) (aCons (mVar 2) (aCons (mFld "Stand" "downs" (mVar 0)) (aNil))))))))
def u_behind_settle : MD := mkD 1 2 (sSeq (sIf (mT (mUn isND (mFld "Stand" "after" (mVar 0)))) (sRet (mC .non)) (sNil)) (sRet (mCallD (mdMake "Stand" u_Stand___init__) (aCons (mFld "Stand" "after" (mVar 0)) (aCons (mC .non) (aCons (mCall tupleD (aCons (mLc [1] (seqI (mFld "Stand" "downs" (mVar 0))) (cNm 1) (mT (mOpM (ownIn "Ring" u_Ring___contains__) (mVar 1) (mFld "Stand" "after" (mVar 0)))) (mVar 1)) (aNil))) (aNil)))))))
def u_Stand_is_up : MD := mkD 2 2 (sRet (mOp notInAD (mVar 1) (mFld "Stand" "downs" (mVar 0))))
def u_behind_handing : MD := mkD 4 5 (sSeq (sSet 4 (mIf (mT (mOp eqD (mVar 1) (mC (.str "copy")))) (mFld "Stand" "after" (mVar 0)) (mFld "Stand" "now" (mVar 0)))) (sSeq (sIf (tOrZ (mT (mUn isND (mVar 4))) (tOrZ (mT (mOpM (ownNotIn "Ring" u_Ring___contains__) (mVar 2) (mVar 4))) (tOrZ (mT (mOpM (ownNotIn "Ring" u_Ring___contains__) (mVar 3) (mFld "Stand" "now" (mVar 0)))) (mT (mOp eqD (mVar 2) (mVar 3)))))) (sRet (mC .non)) (sNil)) (sRet (mIf (tAndZ (mT (mMeth "Stand" "is_up" u_Stand_is_up (mVar 0) (aCons (mVar 2) (aNil)))) (mT (mMeth "Stand" "is_up" u_Stand_is_up (mVar 0) (aCons (mVar 3) (aNil))))) (mVar 0) (mC .non)))))
def u_Stand_is_there : MD := mkD 2 2 (sRet (mOr (mOpM (ownIn "Ring" u_Ring___contains__) (mVar 1) (mFld "Stand" "now" (mVar 0))) (mAnd (mUn notND (mFld "Stand" "after" (mVar 0))) (mOpM (ownIn "Ring" u_Ring___contains__) (mVar 1) (mFld "Stand" "after" (mVar 0))))))
def u_behind_fall : MD := mkD 3 4 (sSeq (sIf (tOrZ (tNotZ (mT (mMeth "Stand" "is_there" u_Stand_is_there (mVar 0) (aCons (mVar 2) (aNil))))) (tOrZ (tAndZ (mT (mOp eqD (mVar 1) (mC (.str "up")))) (mT (mMeth "Stand" "is_up" u_Stand_is_up (mVar 0) (aCons (mVar 2) (aNil))))) (tAndZ (mT (mOp eqD (mVar 1) (mC (.str "down")))) (tNotZ (mT (mMeth "Stand" "is_up" u_Stand_is_up (mVar 0) (aCons (mVar 2) (aNil)))))))) (sRet (mC .non)) (sNil)) (sSeq (sIf (mT (mOp eqD (mVar 1) (mC (.str "down")))) (sRet (mCallD (mdMake "Stand" u_Stand___init__) (aCons (mFld "Stand" "now" (mVar 0)) (aCons (mFld "Stand" "after" (mVar 0)) (aCons (mCall tupleD (aCons (mCallD (fun ds s => lft (sortedD ds) s) (aCons (mLst (aStar (mFld "Stand" "downs" (mVar 0)) (aCons (mVar 2) (aNil)))) (aNil))) (aNil))) (aNil)))))) (sNil)) (sSeq (sIf (mT (mOp eqD (mVar 1) (mC (.str "up")))) (sRet (mCallD (mdMake "Stand" u_Stand___init__) (aCons (mFld "Stand" "now" (mVar 0)) (aCons (mFld "Stand" "after" (mVar 0)) (aCons (mCall tupleD (aCons (mLc [3] (seqI (mFld "Stand" "downs" (mVar 0))) (cNm 3) (mT (mOp neD (mVar 3) (mVar 2))) (mVar 3)) (aNil))) (aNil)))))) (sNil)) (sRet (mVar 0)))))
def u_behind : MD := mkD 2 2 (sSeq (sIf (tOrZ (tNotZ (mT (mCall (isiD isiC isiT) (aCons (mVar 1) (aCons (mC (.opq (.ty "tuple"))) (aNil)))))) (tOrZ (mT (mOp eqD (mCall lenD (aCons (mVar 1) (aNil))) (mC (.int 0)))) (tNotZ (mT (mCall (isiD isiC isiT) (aCons (mOp idxD (mVar 1) (mC (.int 0))) (aCons (mC (.opq (.ty "str"))) (aNil)))))))) (sRet (mC .non)) (sNil)) (sSeq (sIf (mT (mOp neD (mGetK [("join", 4), ("leave", 2), ("copy", 3), ("settle", 1), ("down", 2), ("up", 2), ("wipe", 2), ("repair", 3)] (mOp idxD (mVar 1) (mC (.int 0)))) (mCall lenD (aCons (mVar 1) (aNil))))) (sRet (mC .non)) (sNil)) (sSeq (sIf (mT (mOp inAD (mOp idxD (mVar 1) (mC (.int 0))) (mTup (aCons (mC (.str "join")) (aCons (mC (.str "leave")) (aNil)))))) (sRet (mCallD u_behind_change (aCons (mVar 0) (aCons (mVar 1) (aNil))))) (sNil)) (sSeq (sIf (mT (mOp eqD (mOp idxD (mVar 1) (mC (.int 0))) (mC (.str "settle")))) (sRet (mCallD u_behind_settle (aCons (mVar 0) (aNil)))) (sNil)) (sSeq (sIf (mT (mOp inAD (mOp idxD (mVar 1) (mC (.int 0))) (mTup (aCons (mC (.str "copy")) (aCons (mC (.str "repair")) (aNil)))))) (sRet (mCallD u_behind_handing (aCons (mVar 0) (aStar (mVar 1) (aNil))))) (sNil)) (sRet (mCallD u_behind_fall (aCons (mVar 0) (aStar (mVar 1) (aNil))))))))))
def u_Plan___init__ : MI0 := mkO "Plan" 2 6 (sSeq (sExpr (mCallD u_check_ring (aCons (mVar 1) (aNil)))) (sSeq (sIf (tNotZ (mT (mCall (isiD isiC isiT) (aCons (mVar 2) (aCons (mC (.opq (.ty "tuple"))) (aNil)))))) (sDie) (sNil)) (sSeq (sFldC "Plan" "stands" (mVar 0) (mCel (mLst (aCons (mCallD (mdMake "Stand" u_Stand___init__) (aCons (mVar 1) (aCons (mC .non) (aCons (mTup (aNil)) (aNil))))) (aNil))))) (sSeq (sFor (enum2I (aCons (mVar 2) (aNil))) (gSeq (gsCons (gNm 3) (gsCons (gNm 4) (gsNil)))) (sSeq (sSet 5 (mIf (mT (mOp ltD (mVar 3) (mC (.int 24)))) (mCallD u_behind (aCons (mOpM idxCel (mFldC "Plan" "stands" (mVar 0)) (mUn negD (mC (.int 1)))) (aCons (mVar 4) (aNil)))) (mC .non))) (sSeq (sIf (mT (mUn isND (mVar 5))) (sDie) (sNil)) (sAppC (mFldC "Plan" "stands" (mVar 0)) (mVar 5))))) (sSeq (sFldC "Plan" "held_ring" (mVar 0) (mVar 1)) (sFldC "Plan" "held_steps" (mVar 0) (mVar 2)))))))
def u_Plan_steps : MD := mkD 1 1 (sRet (mFld "Plan" "held_steps" (mVar 0)))
def u_check_moment : MD := mkD 2 2 (sIf (tNotZ (mT (mCallD u_is_integer (aCons (mVar 1) (aCons (mC (.int 0)) (aCons (mCall lenD (aCons (mProp "Plan" u_Plan_steps (mVar 0)) (aNil))) (aNil))))))) (sDie) (sNil))
def u_Plan_keepers : MD := mkD 3 3 (sSeq (sExpr (mCallD u_check_point (aCons (mFld "Plan" "held_ring" (mVar 0)) (aCons (mVar 1) (aNil))))) (sSeq (sExpr (mCallD u_check_moment (aCons (mVar 0) (aCons (mVar 2) (aNil))))) (sRet (mCallD u_keepers_of (aCons (mFld "Stand" "now" (mOp idxD (mFld "Plan" "stands" (mVar 0)) (mVar 2))) (aCons (mVar 1) (aNil)))))))
def u_pendings_of : MD := mkD 2 4 (sSeq (sIf (mT (mUn isND (mFld "Stand" "after" (mVar 0)))) (sRet (mTup (aNil))) (sNil)) (sSeq (sSet 2 (mCallD u_keepers_of (aCons (mFld "Stand" "now" (mVar 0)) (aCons (mVar 1) (aNil))))) (sRet (mCall tupleD (aCons (mLc [3] (seqI (mCallD u_keepers_of (aCons (mFld "Stand" "after" (mVar 0)) (aCons (mVar 1) (aNil))))) (cNm 3) (mT (mOp notInAD (mVar 3) (mVar 2))) (mVar 3)) (aNil))))))
def u_Plan_pendings : MD := mkD 3 3 (sSeq (sExpr (mCallD u_check_point (aCons (mFld "Plan" "held_ring" (mVar 0)) (aCons (mVar 1) (aNil))))) (sSeq (sExpr (mCallD u_check_moment (aCons (mVar 0) (aCons (mVar 2) (aNil))))) (sRet (mCallD u_pendings_of (aCons (mOp idxD (mFld "Plan" "stands" (mVar 0)) (mVar 2)) (aCons (mVar 1) (aNil)))))))
def u__law_wanted : MD := mkD 2 11 (sSeq (sAsg (gSeq (gsCons (gNm 2) (gsCons (gNm 3) (gsCons (gNm 4) (gsNil))))) (mVar 0)) (sSeq (sPar [5, 6] (xVal (mCallD u__law_keepers (aCons (mVar 2) (aCons (mVar 1) (aNil)))) (xVal (mLst (aNil)) (xNil)))) (sSeq (sIf (mT (mUn notND (mVar 3))) (sOwn 6 (mLc [7] (seqI (mCallD u__law_keepers (aCons (mVar 3) (aCons (mVar 1) (aNil))))) (cNm 7) (mT (mOp notInAD (mVar 7) (mVar 5))) (mVar 7))) (sNil)) (sSeq (sFrz 6 (sSet 8 (mOp addAll (mCall listD (aCons (mVar 5) (aNil))) (mIf (mT (mOp eqD (mOp idxD (mVar 2) (mC (.int 5))) (mC (.str "with")))) (mVar 6) (mLst (aNil)))))) (sSeq (sSet 9 (mOp addD (mOp idxD (mVar 2) (mC (.int 3))) (mIf (mT (mOp eqD (mOp idxD (mVar 2) (mC (.int 5))) (mC (.str "with")))) (mCall lenD (aCons (mVar 6) (aNil))) (mC (.int 0))))) (sSeq (sSet 10 (mCall tupleD (aCons (mCallD (fun ds s => lft (sortedD ds) s) (aCons (mLc [7] (seqI (mVar 8)) (cNm 7) (mT (mOp notInAD (mVar 7) (mVar 4))) (mVar 7)) (aNil))) (aNil)))) (sRet (mLst (aCons (mVar 9) (aCons (mVar 10) (aCons (mLc [7] (seqI (mCallD (fun ds s => lft (sortedTD ds) s) (aCons (mVar 5) (aNil)))) (cNm 7) (mT (mOp notInAD (mVar 7) (mVar 4))) (mVar 7)) (aNil))))))))))))
def u_check_plan : MD := mkD 1 1 (sIf (tNotZ (mT (mCall (isiD ["Ring", "Plan"] isiT) (aCons (mVar 0) (aCons (mC (.ty "Plan")) (aNil)))))) (sDie) (sNil))
def u_Plan_ring : MD := mkD 1 1 (sRet (mFld "Plan" "held_ring" (mVar 0)))
def u_Stand_ups : MD := mkD 2 3 (sRet (mCall tupleD (aCons (mCallD (fun ds s => lft (sortedD ds) s) (aCons (mLc [2] (seqI (mVar 1)) (cNm 2) (mT (mMeth "Stand" "is_up" u_Stand_is_up (mVar 0) (aCons (mVar 2) (aNil)))) (mVar 2)) (aNil))) (aNil))))
def u_Place_wanted : MD := mkD 1 2 (sSeq (sSet 1 (mFld "Stand" "now" (mFld "Place" "stand" (mVar 0)))) (sSeq (sIf (mT (mOp eqD (mProp "Ring" u_Ring_pending (mVar 1)) (mC (.str "plain")))) (sRet (mTup (aCons (mProp "Ring" u_Ring_write (mVar 1)) (aCons (mMeth "Stand" "ups" u_Stand_ups (mFld "Place" "stand" (mVar 0)) (aCons (mFld "Place" "own" (mVar 0)) (aNil))) (aNil))))) (sNil)) (sRet (mTup (aCons (mOp addD (mProp "Ring" u_Ring_write (mVar 1)) (mCall lenD (aCons (mFld "Place" "others" (mVar 0)) (aNil)))) (aCons (mMeth "Stand" "ups" u_Stand_ups (mFld "Place" "stand" (mVar 0)) (aCons (mLst (aStar (mFld "Place" "own" (mVar 0)) (aStar (mFld "Place" "others" (mVar 0)) (aNil)))) (aNil))) (aNil)))))))
def u_Place___init__ : MI0 := mkI 2 3 (nSeq (nFld "stand" (mVar 1)) (nSeq (nFld "own" (mCallD u_keepers_of (aCons (mFld "Stand" "now" (mVar 1)) (aCons (mVar 2) (aNil))))) (nSeq (nFld "others" (mCallD u_pendings_of (aCons (mVar 1) (aCons (mVar 2) (aNil))))) (nNil))))
def u_wanted : MD := mkD 3 3 (sSeq (sExpr (mCallD u_check_plan (aCons (mVar 0) (aNil)))) (sSeq (sExpr (mCallD u_check_point (aCons (mProp "Plan" u_Plan_ring (mVar 0)) (aCons (mVar 1) (aNil))))) (sSeq (sExpr (mCallD u_check_moment (aCons (mVar 0) (aCons (mVar 2) (aNil))))) (sRet (mMeth0 "Place" "wanted" u_Place_wanted (mCallD (mdMake "Place" u_Place___init__) (aCons (mOp idxD (mFld "Plan" "stands" (mVar 0)) (mVar 2)) (aCons (mVar 1) (aNil)))))))))
def u_P_law_lots : MD := mkD 2 5 (sSeq (sSet 2 (mLst (aCons (mTup (aNil)) (aNil)))) (sSeq (sFor (seqI (mVar 0)) (gNm 3) (sSet 2 (mOp addAll (mVar 2) (mLc [4] (seqI (mVar 2)) (cNm 4) (mT (mOp ltD (mCall lenD (aCons (mVar 4) (aNil))) (mVar 1))) (mOp addD (mVar 4) (mTup (aCons (mVar 3) (aNil)))))))) (sRet (mLc [4] (seqI (mVar 2)) (cNm 4) (mT (mOp eqD (mCall lenD (aCons (mVar 4) (aNil))) (mVar 1))) (mVar 4)))))
def u_Road___init__ : MI0 := mkI 2 4 (nSeq (nFld "point" (mVar 2)) (nSeq (nFld "way" (mProp "Plan" u_Plan_steps (mVar 1))) (nSeq (nFld "places" (mLc [3] (seqI (mFld "Plan" "stands" (mVar 1))) (cNm 3) (yesT) (mCallD (mdMake "Place" u_Place___init__) (aCons (mVar 3) (aCons (mVar 2) (aNil)))))) (nNil))))
def u_lots : MD := mkD 2 5 (sSeq (sSet 2 (mLst (aCons (mTup (aNil)) (aNil)))) (sSeq (sFor (seqI (mVar 0)) (gNm 3) (sSet 2 (mLst (aStar (mVar 2) (aStar (mLc [4] (seqI (mVar 2)) (cNm 4) (mT (mOp ltD (mCall lenD (aCons (mVar 4) (aNil))) (mVar 1))) (mTup (aStar (mVar 4) (aCons (mVar 3) (aNil))))) (aNil)))))) (sRet (mLc [4] (seqI (mVar 2)) (cNm 4) (mT (mOp eqD (mCall lenD (aCons (mVar 4) (aNil))) (mVar 1))) (mVar 4)))))
def u_are_takers : MD := mkD 2 5 (sSeq (sAsg (gSeq (gsCons (gNm 2) (gsCons (gNm 3) (gsNil)))) (mMeth0 "Place" "wanted" u_Place_wanted (mVar 0))) (sSeq (sIf (tOrZ (tNotZ (mT (mCall (isiD isiC isiT) (aCons (mVar 1) (aCons (mC (.opq (.ty "tuple"))) (aNil)))))) (tOrZ (mT (mOp neD (mCall lenD (aCons (mVar 1) (aNil))) (mVar 2))) (tNotZ (mT (mCall allD (aCons (mLc [4] (seqI (mVar 1)) (cNm 4) (yesT) (mCall (isiD isiC isiT) (aCons (mVar 4) (aCons (mC (.opq (.ty "str"))) (aNil))))) (aNil))))))) (sRet (mC (.bl false))) (sNil)) (sRet (mOp inAD (mVar 1) (mCallD u_lots (aCons (mVar 3) (aCons (mVar 2) (aNil))))))))
def u_Road_later : MD := mkD 3 7 (sSeq (sPar [3, 4] (xVal (mOp idxD (mFld "Road" "way" (mVar 0)) (mVar 2)) (xVal (mOp idxD (mFld "Road" "places" (mVar 0)) (mVar 2)) (xNil)))) (sSeq (sIf (mT (mOp eqD (mOp idxD (mVar 3) (mC (.int 0))) (mC (.str "settle")))) (sRet (mCall tupleD (aCons (mLc [5] (seqI (mVar 1)) (cNm 5) (mT (mOp inAD (mVar 5) (mFld "Place" "own" (mOp idxD (mFld "Road" "places" (mVar 0)) (mOp addD (mVar 2) (mC (.int 1))))))) (mVar 5)) (aNil)))) (sNil)) (sSeq (sIf (mT (mOp eqD (mOp idxD (mVar 3) (mC (.int 0))) (mC (.str "wipe")))) (sRet (mCall tupleD (aCons (mLc [5] (seqI (mVar 1)) (cNm 5) (mT (mOp neD (mVar 5) (mOp idxD (mVar 3) (mC (.int 1))))) (mVar 5)) (aNil)))) (sNil)) (sSeq (sIf (tAndZ (mT (mOp inAD (mOp idxD (mVar 3) (mC (.int 0))) (mTup (aCons (mC (.str "copy")) (aCons (mC (.str "repair")) (aNil)))))) (tAndZ (mT (mOp notInAD (mOp idxD (mVar 3) (mC (.int 1))) (mVar 1))) (mT (mOp inAD (mOp idxD (mVar 3) (mC (.int 2))) (mVar 1))))) (sSeq (sSet 6 (mIf (mT (mOp eqD (mOp idxD (mVar 3) (mC (.int 0))) (mC (.str "copy")))) (mFld "Place" "others" (mVar 4)) (mFld "Place" "own" (mVar 4)))) (sIf (tAndZ (mT (mOp inAD (mOp idxD (mVar 3) (mC (.int 1))) (mVar 6))) (mT (mOp inAD (mOp idxD (mVar 3) (mC (.int 2))) (mFld "Place" "own" (mVar 4))))) (sRet (mCall tupleD (aCons (mCallD (fun ds s => lft (sortedD ds) s) (aCons (mLst (aStar (mVar 1) (aCons (mOp idxD (mVar 3) (mC (.int 1))) (aNil)))) (aNil))) (aNil)))) (sNil))) (sNil)) (sRet (mVar 1))))))
def u_held_at : MD := mkD 4 5 (sSeq (sFor (rng2I (aCons (mVar 2) (aCons (mVar 3) (aNil)))) (gNm 4) (sSet 1 (mMeth "Road" "later" u_Road_later (mVar 0) (aCons (mVar 1) (aCons (mVar 4) (aNil)))))) (sRet (mVar 1)))
def u_holders : MD := mkD 5 6 (sSeq (sExpr (mCallD u_check_plan (aCons (mVar 0) (aNil)))) (sSeq (sExpr (mCallD u_check_point (aCons (mProp "Plan" u_Plan_ring (mVar 0)) (aCons (mVar 1) (aNil))))) (sSeq (sExpr (mCallD u_check_moment (aCons (mVar 0) (aCons (mVar 2) (aNil))))) (sSeq (sSet 5 (mCallD (mdMake "Road" u_Road___init__) (aCons (mVar 0) (aCons (mVar 1) (aNil))))) (sSeq (sIf (tNotZ (mT (mCallD u_are_takers (aCons (mOp idxD (mFld "Road" "places" (mVar 5)) (mVar 2)) (aCons (mVar 3) (aNil)))))) (sDie) (sNil)) (sSeq (sExpr (mCallD u_check_moment (aCons (mVar 0) (aCons (mVar 4) (aNil))))) (sSeq (sIf (mT (mOp ltD (mVar 4) (mVar 2))) (sDie) (sNil)) (sRet (mCallD u_held_at (aCons (mVar 5) (aCons (mVar 3) (aCons (mVar 2) (aCons (mVar 4) (aNil))))))))))))))
def u__law_has : MD := mkD 5 11 (sSeq (sSet 5 (mOp idxD (mVar 0) (mVar 3))) (sSeq (sAsg (gSeq (gsCons (gNm 6) (gsCons (gNm 7) (gsNil)))) (orM (mSl slD (mOp idxD (mVar 1) (mVar 3)) (oNone) (oSome (mC (.int 2)))) (mSl slL (mOp idxD (mVar 1) (mVar 3)) (oNone) (oSome (mC (.int 2)))))) (sSeq (sSet 8 (mCallD u__law_keepers (aCons (mVar 6) (aCons (mVar 2) (aNil))))) (sSeq (sIf (mT (mOp eqD (mOp idxD (mVar 5) (mC (.int 0))) (mC (.str "settle")))) (sRet (mLc [9] (seqI (mVar 4)) (cNm 9) (mT (mOp inAD (mVar 9) (mCallD u__law_keepers (aCons (mVar 7) (aCons (mVar 2) (aNil)))))) (mVar 9))) (sNil)) (sSeq (sIf (mT (mOp eqD (mOp idxD (mVar 5) (mC (.int 0))) (mC (.str "wipe")))) (sRet (mLc [9] (seqI (mVar 4)) (cNm 9) (mT (mOp neD (mVar 9) (mOp idxD (mVar 5) (mC (.int 1))))) (mVar 9))) (sNil)) (sSeq (sIf (tOrZ (mT (mOp notInAD (mOp idxD (mVar 5) (mC (.int 0))) (mLst (aCons (mC (.str "copy")) (aCons (mC (.str "repair")) (aNil)))))) (tOrZ (mT (mOp notInAD (mOp idxD (mVar 5) (mC (.int 2))) (mVar 4))) (mT (mOp notInAD (mOp idxD (mVar 5) (mC (.int 2))) (mVar 8))))) (sRet (mVar 4)) (sNil)) (sSeq (sSet 10 (mOp inAD (mOp idxD (mVar 5) (mC (.int 1))) (mVar 8))) (sSeq (sIf (mT (mOp eqD (mOp idxD (mVar 5) (mC (.int 0))) (mC (.str "copy")))) (sSet 10 (mAnd (mUn notD (mVar 10)) (mOp inAD (mOp idxD (mVar 5) (mC (.int 1))) (mCallD u__law_keepers (aCons (mVar 7) (aCons (mVar 2) (aNil))))))) (sNil)) (sRet (mIf (mT (mVar 10)) (mSosA (mOp addAll (mVar 4) (mLst (aCons (mOp idxD (mVar 5) (mC (.int 1))) (aNil))))) (mVar 4)))))))))))
end C
end Z

set_option Elab.async false
set_option linter.all false
set_option maxRecDepth 100000
set_option maxHeartbeats 4000000
namespace Z
open PySem PySem.Spec PyProof.Rows L2
/-! ### a dict whose keys are nested tuples: filled by setdefault in a loop, its values listed -/
mutual
def toNK : D → Option NestedKey
  | .non => some .none
  | .bl b => some (.num (if b = true then 1 else 0))
  | .int i => some (.num i)
  | .str x => some (.text x)
  | .tup ds => (toNKs ds).map .tup
  | _ => none
def toNKs : List D → Option (List NestedKey)
  | [] => some []
  | d :: ds => match toNK d with
    | some k => (toNKs ds).map (k :: ·)
    | none => none
end
section
variable {K : PySem.W.Frag} {g g' : G} {H H' : Hp} {s : S} {P : Program} {w : World} {h : Heap}
inductive RepN (K : PySem.W.Frag) (g : G) : List (NestedKey × Addr × V) → List (NestedKey × D) → Prop
  | nil : RepN K g [] []
  | cons {k a v dk d xs es} : toNK dk = some k → k.depth ≤ 8 → Rep K g (.ref a) dk → Rep K g v d → RepN K g xs es → RepN K g ((k, a, v) :: xs) ((k, d) :: es)
theorem RepN.mono (L : GLe g g') : ∀ {xs es}, RepN K g xs es → RepN K g' xs es
  | _, _, .nil => .nil
  | _, _, .cons h1 h2 h3 h4 r => .cons h1 h2 (h3.mono L) (h4.mono L) (RepN.mono L r)
theorem RepN.length : ∀ {xs es}, RepN K g xs es → xs.length = es.length
  | _, _, .nil => rfl
  | _, _, .cons _ _ _ _ r => by simp [RepN.length r]
theorem RepN.keys : ∀ {xs es}, RepN K g xs es → xs.map (·.1) = es.map (·.1)
  | _, _, .nil => rfl
  | _, _, .cons _ _ _ _ r => by simp [RepN.keys r]
abbrev KN : List (NestedKey × Addr × V) → List (NestedKey × Addr × Value) → Prop := Paired fun p q => p.1 = q.1 ∧ p.2.1 = q.2.1 ∧ RelV p.2.2 q.2.2
def KdO (P : Program) (w : World) (a : Addr) (xs : List (NestedKey × Addr × V)) : HO := .ext fun h => (a == sysModules) = false ∧ xs.length ≤ sizeLine ∧ ∃ us, KN xs us ∧
  ∃ o es ep, h.get? a = some o ∧ o.ExactDict ∧ o.data = .dict es ep ∧ es.toList = us.map (entryOfKey (nestedKind P w)) ∧ (us.map (·.1)).Nodup
end
section
variable {X : Cx} {pins : List (Addr × Obj)} {σ : L2.St} {H : Hp} {st : Shared} {a : Addr} {xs : List (NestedKey × Addr × V)} {es : List (NestedKey × D)} {g : G} {s : S}
def rKds (X : Cx) (i : Nat) (tk tz : TE) : TE := fun σ H Q => ∃ a, σ[i]? = some (some (.ref a)) ∧ (∃ xs, H a = some (KdO X.prog X.w a xs)) ∧ tk σ H fun y H1 => tz σ H1 fun zv H2 =>
  ∃ (xs : List (NestedKey × Addr × V)) (k : NestedKey) (b : Addr) (dk : D) (es : List (NestedKey × D)) (s : S) (g : G), y = .ref b ∧ SRel X.K g H2 s ∧ H2 a = some (KdO X.prog X.w a xs) ∧ RepN X.K g xs es ∧ Rep X.K g (.ref b) dk ∧ toNK dk = some k ∧ k.depth ≤ 8 ∧ xs.length < sizeLine ∧
  (k ∈ xs.map (·.1) → ∀ v, Q v H2) ∧ (k ∉ xs.map (·.1) → Q zv (upd H2 a (KdO X.prog X.w a (xs ++ [(k, b, zv)]))))
variable {x : Str} {i : Nat} {e f : Expr} {tk tz : TE} {p pos apos cpos : Pos}
end
section
variable {X : Cx} {x : Str} {i : Nat} {p p0 pos apos cpos : Pos}
def rKdv (X : Cx) (i : Nat) : TE := fun σ H Q => ∃ (a : Addr) (xs : List (NestedKey × Addr × V)) (es : List (NestedKey × D)) (g : G) (s : S), σ[i]? = some (some (.ref a)) ∧ SRel X.K g H s ∧ H a = some (KdO X.prog X.w a xs) ∧ RepN X.K g xs es ∧
  ∀ l, H l = none → Q (.ref l) (upd H l (.lst (xs.map (·.2.2))))
end
end Z

set_option Elab.async false
set_option linter.all false
set_option maxRecDepth 100000
set_option maxHeartbeats 4000000
namespace Z
open PySem PySem.Spec PyProof.Rows L2
section
variable {K : PySem.W.Frag} {g g0 g1 : G} {H H0 H1 : Hp} {σ σ0 : L2.St} {e e0 : EnvD} {s s0 s1 : S} {a : Addr} {u : HO}
/-- what is known of the dict's place -/
structure AtA (K : PySem.W.Frag) (P : Program) (w : World) (g : G) (H : Hp) (σ : L2.St) (e : EnvD) (a : Addr) (xs : List (NestedKey × Addr × V)) (es : List (NestedKey × D)) : Prop where
  at' : H a = some (KdO P w a xs)
  f : g.F a = none
  c : a ∉ g.ad
  o : ¬ OwnA σ e a
  r : RepN K g xs es
variable {P : Program} {w : World} {xs : List (NestedKey × Addr × V)} {es : List (NestedKey × D)}
theorem AtA.put {ys : List (NestedKey × Addr × V)} {fs : List (NestedKey × D)} (x : AtA K P w g H σ e a xs es) (r : RepN K g ys fs) : AtA K P w g (upd H a (KdO P w a ys)) σ e a ys fs := ⟨upd_same, x.f, x.c, x.o, r⟩
end
/-! ### the block -/
def keyIn (acc : List (NestedKey × D)) (k : NestedKey) : Bool := decide (k ∈ acc.map (·.1))
def keyL (m1 mk : ME) (j l : Nat) : List D → EnvD → S → List (NestedKey × D) → Option (List (NestedKey × D) × S)
  | [], _, s, acc => some (acc, s)
  | d :: ds, e, s, acc => match m1 (e.set j (.val d)) s with
    | none => none
    | some (r, s1) => match mk ((e.set j (.val d)).set l (.val r)) s1 with
      | none => none
      | some (kd, s2) => match toNK kd with
        | some (.tup ks) => if (NestedKey.tup ks).depth ≤ 8 ∧ acc.length < sizeLine then keyL m1 mk j l ds ((e.set j (.val d)).set l (.val r)) s2 (if keyIn acc (.tup ks) then acc else acc ++ [(.tup ks, r)]) else none
        | _ => none
def runK (mi : MI) (m1 mk : ME) (j l : Nat) (e : EnvD) (s : S) : Option (List D × S) := match mi e s with
  | none => none
  | some (ds, s1) => if l < e.length then (keyL m1 mk j l ds e s1 []).map fun p => (p.1.map (·.2), p.2) else none
open Classical in
noncomputable def sKeyed (i j l : Nat) (mi : MI) (m1 mk : ME) : MS := fun e s => if h : i < e.length ∧ ∃ r : List D × S, ∀ v : V, runK mi m1 mk j l (e.set i (.val (.opq v))) s = some r then some (.ret (.lst h.2.choose.1), e.map (fun _ => Sl.unb), h.2.choose.2) else none
section
variable {X : Cx} {i j l : Nat} {x y z : Str} {it e1 ek : Expr} {mi : MI} {m1 mk : ME} {q1 q2 q3 q4 q5 q6 q7 q8 q9 qa qb qc qd qe qf qg : Pos}
end
section
variable {X : Cx} {x y z : Str} {it e1 ek : Expr} {mi : MI} {m1 mk : ME} {q1 q2 q3 q4 q5 q6 q7 q8 q9 qa qb qc qd qe qf qg qh qi : Pos} {k : Nat}
end
end Z

set_option linter.all false
set_option maxRecDepth 100000
namespace Z
namespace C
open PySem
def u__law_places : MD := mkD 2 12 (sSeq (sOwn 2 (mLst (aNil))) (sSeq (sFor (seqI (mVar 0)) (gSeq (gsCons (gNm 3) (gsCons (gNm 4) (gsCons (gNm 5) (gsNil))))) (sSeq (sPar [6, 7] (xVal (mCallD u__law_keepers (aCons (mVar 3) (aCons (mVar 1) (aNil)))) (xVal (mLst (aNil)) (xNil)))) (sSeq (sIf (mT (mUn notND (mVar 4))) (sOwn 7 (mLc [8] (seqI (mCallD u__law_keepers (aCons (mVar 4) (aCons (mVar 1) (aNil))))) (cNm 8) (mT (mOp notInAD (mVar 8) (mVar 6))) (mVar 8))) (sNil)) (sSeq (sFrz 7 (sSet 9 (mOp addAll (mCall listD (aCons (mVar 6) (aNil))) (mIf (mT (mOp eqD (mOp idxD (mVar 3) (mC (.int 5))) (mC (.str "with")))) (mVar 7) (mLst (aNil)))))) (sSeq (sSet 10 (mCall tupleD (aCons (mCallD (fun ds s => lft (sortedD ds) s) (aCons (mLc [8] (seqI (mVar 9)) (cNm 8) (mT (mOp notInAD (mVar 8) (mVar 5))) (mVar 8)) (aNil))) (aNil)))) (sSeq (sOwn 11 (mLc [8] (seqI (mVar 6)) (cNm 8) (mT (mOp notInAD (mVar 8) (mVar 5))) (mVar 8))) (sFrz 11 (sApp 2 (mLst (aCons (mOp subD (mOp addD (mOp idxD (mVar 3) (mC (.int 3))) (mCall lenD (aCons (mVar 9) (aNil)))) (mCall lenD (aCons (mVar 6) (aNil)))) (aCons (mVar 10) (aCons (mVar 11) (aCons (mVar 6) (aCons (mVar 7) (aCons (mOp idxD (mVar 3) (mC (.int 4))) (aNil)))))))))))))))) (sFrz 2 (sRet (mVar 2)))))
def u__law_on : MD := mkD 4 5 (sSeq (sIf (mT (mOp eqD (mOp idxD (mVar 0) (mC (.int 0))) (mC (.str "settle")))) (sRet (mLc [4] (seqI (mVar 3)) (cNm 4) (mT (mOp inAD (mVar 4) (mOp idxD (mVar 2) (mC (.int 3))))) (mVar 4))) (sNil)) (sSeq (sIf (mT (mOp eqD (mOp idxD (mVar 0) (mC (.int 0))) (mC (.str "wipe")))) (sRet (mLc [4] (seqI (mVar 3)) (cNm 4) (mT (mOp neD (mVar 4) (mOp idxD (mVar 0) (mC (.int 1))))) (mVar 4))) (sNil)) (sSeq (sIf (tOrZ (mT (mOp notInAD (mOp idxD (mVar 0) (mC (.int 0))) (mLst (aCons (mC (.str "copy")) (aCons (mC (.str "repair")) (aNil)))))) (tOrZ (mT (mOp notInAD (mOp idxD (mVar 0) (mC (.int 2))) (mVar 3))) (tOrZ (mT (mOp notInAD (mOp idxD (mVar 0) (mC (.int 2))) (mOp idxD (mVar 1) (mC (.int 3))))) (mT (mOp inAD (mOp idxD (mVar 0) (mC (.int 1))) (mVar 3)))))) (sRet (mVar 3)) (sNil)) (sRet (mIf (mT (mOp inAD (mOp idxD (mVar 0) (mC (.int 1))) (mOp idxD (mVar 1) (mIf (mT (mOp eqD (mOp idxD (mVar 0) (mC (.int 0))) (mC (.str "copy")))) (mC (.int 4)) (mC (.int 3)))))) (mOp addAll (mVar 3) (mLst (aCons (mOp idxD (mVar 0) (mC (.int 1))) (aNil)))) (mVar 3))))))
def u__law_is_lost : MD := mkD 3 10 (sSeq (sSet 3 (mCallD u__law_places (aCons (mVar 1) (aCons (mVar 2) (aNil))))) (sSeq (sFor (rngI (aCons (mCall lenD (aCons (mVar 3) (aNil))) (aNil))) (gNm 4) (sFor (seqI (mCallD u_P_law_lots (aCons (mOp idxD (mOp idxD (mVar 3) (mVar 4)) (mC (.int 1))) (aCons (mOp idxD (mOp idxD (mVar 3) (mVar 4)) (mC (.int 0))) (aNil))))) (gNm 5) (sSeq (sSet 6 (mCall listD (aCons (mVar 5) (aNil)))) (sFor (rng2I (aCons (mVar 4) (aCons (mCall lenD (aCons (mVar 3) (aNil))) (aNil)))) (gNm 7) (sSeq (sSet 8 (mOp idxD (mOp idxD (mVar 3) (mVar 7)) (mC (.int 2)))) (sSeq (sIf (mT (mOp geD (mCall lenD (aCons (mLc [9] (seqI (mVar 8)) (cNm 9) (mT (mOp notInAD (mVar 9) (mVar 6))) (mVar 9)) (aNil))) (mOp idxD (mOp idxD (mVar 3) (mVar 7)) (mC (.int 5))))) (sRet (mC (.bl true))) (sNil)) (sIf (mT (mOp ltD (mVar 7) (mCall lenD (aCons (mVar 0) (aNil))))) (sSet 6 (mCallD u__law_on (aCons (mOp idxD (mVar 0) (mVar 7)) (aCons (mOp idxD (mVar 3) (mVar 7)) (aCons (mOp idxD (mVar 3) (mOp addD (mVar 7) (mC (.int 1)))) (aCons (mVar 6) (aNil))))))) (sNil)))))))) (sRet (mC (.bl false)))))
def u_Place_answerers : MD := mkD 1 1 (sRet (mMeth "Stand" "ups" u_Stand_ups (mFld "Place" "stand" (mVar 0)) (aCons (mFld "Place" "own" (mVar 0)) (aNil))))
def u_Road_unseen : MD := mkD 3 6 (sSeq (sSet 3 (mProp "Ring" u_Ring_read_number (mFld "Stand" "now" (mFld "Place" "stand" (mOp idxD (mFld "Road" "places" (mVar 0)) (mVar 2)))))) (sSeq (sOwn 4 (mLc [5] (seqI (mMeth0 "Place" "answerers" u_Place_answerers (mOp idxD (mFld "Road" "places" (mVar 0)) (mVar 2)))) (cNm 5) (mT (mOp notInAD (mVar 5) (mVar 1))) (mVar 5))) (sFrz 4 (sRet (mIf (mT (mOp geD (mCall lenD (aCons (mVar 4) (aNil))) (mVar 3))) (mCall tupleD (aCons (mSl slL (mVar 4) (oNone) (oSome (mVar 3))) (aNil))) (mC .non))))))
def u_Road_loss_from : MD := mkD 3 5 (sSeq (sFor (rng2I (aCons (mVar 2) (aCons (mCall lenD (aCons (mFld "Road" "places" (mVar 0)) (aNil))) (aNil)))) (gNm 3) (sSeq (sSet 4 (mMeth "Road" "unseen" u_Road_unseen (mVar 0) (aCons (mVar 1) (aCons (mVar 3) (aNil))))) (sSeq (sIf (mT (mUn notND (mVar 4))) (sRet (mTup (aCons (mVar 3) (aCons (mVar 4) (aNil))))) (sNil)) (sIf (mT (mOp ltD (mVar 3) (mCall lenD (aCons (mFld "Road" "way" (mVar 0)) (aNil))))) (sSet 1 (mMeth "Road" "later" u_Road_later (mVar 0) (aCons (mVar 1) (aCons (mVar 3) (aNil))))) (sNil))))) (sRet (mC .non)))
def u_Road_loss : MD := mkD 1 7 (sSeq (sFor (enum2I (aCons (mFld "Road" "places" (mVar 0)) (aNil))) (gSeq (gsCons (gNm 1) (gsCons (gNm 2) (gsNil)))) (sSeq (sAsg (gSeq (gsCons (gNm 3) (gsCons (gNm 4) (gsNil)))) (mMeth0 "Place" "wanted" u_Place_wanted (mVar 2))) (sFor (seqI (mCallD u_lots (aCons (mVar 4) (aCons (mVar 3) (aNil))))) (gNm 5) (sSeq (sSet 6 (mMeth "Road" "loss_from" u_Road_loss_from (mVar 0) (aCons (mVar 5) (aCons (mVar 1) (aNil))))) (sIf (mT (mUn notND (mVar 6))) (sRet (mTup (aCons (mFld "Road" "point" (mVar 0)) (aCons (mVar 1) (aCons (mVar 5) (aStar (mVar 6) (aNil))))))) (sNil)))))) (sRet (mC .non)))
def u_lost_at : MD := mkD 2 2 (sSeq (sExpr (mCallD u_check_plan (aCons (mVar 0) (aNil)))) (sSeq (sExpr (mCallD u_check_point (aCons (mProp "Plan" u_Plan_ring (mVar 0)) (aCons (mVar 1) (aNil))))) (sRet (mMeth0 "Road" "loss" u_Road_loss (mCallD (mdMake "Road" u_Road___init__) (aCons (mVar 0) (aCons (mVar 1) (aNil))))))))
def u_first_of : MD := mkD 1 2 (sRet (mOp idxD (mOp addAll (mLc [1] (seqI (mVar 0)) (cNm 1) (mT (mUn notND (mVar 1))) (mVar 1)) (mLst (aCons (mC .non) (aNil)))) (mC (.int 0))))
def u_Place_like : MD := mkD 1 1 (sRet (mTup (aCons (mFld "Place" "own" (mVar 0)) (aCons (mFld "Place" "others" (mVar 0)) (aNil)))))
def u_Road_like : MD := mkD 1 2 (sRet (mCall tupleD (aCons (mLc [1] (seqI (mFld "Road" "places" (mVar 0))) (cNm 1) (yesT) (mMeth0 "Place" "like" u_Place_like (mVar 1))) (aNil))))
noncomputable def u_roads : MD := mkD 1 6 (sSeq (sSet 1 (mOp addAll (mLc [2] (seqI (mFld "Plan" "stands" (mVar 0))) (cNm 2) (yesT) (mFld "Stand" "now" (mVar 2))) (mLc [2] (seqI (mFld "Plan" "stands" (mVar 0))) (cNm 2) (mT (mUn notND (mFld "Stand" "after" (mVar 2)))) (mFld "Stand" "after" (mVar 2))))) (sKeyed 3 4 5 (seqI (mCallD u_marks_of (aCons (mVar 1) (aNil)))) (mCallD (mdMake "Road" u_Road___init__) (aCons (mVar 0) (aCons (mVar 4) (aNil)))) (mMeth0 "Road" "like" u_Road_like (mVar 5))))
noncomputable def u_loss_of : MD := mkD 1 2 (sRet (mCallD u_first_of (aCons (mLc [1] (seqI (mCallD u_roads (aCons (mVar 0) (aNil)))) (cNm 1) (yesT) (mMeth0 "Road" "loss" u_Road_loss (mVar 1))) (aNil))))
noncomputable def u_lost : MD := mkD 1 1 (sSeq (sExpr (mCallD u_check_plan (aCons (mVar 0) (aNil)))) (sRet (mCallD u_loss_of (aCons (mVar 0) (aNil)))))
noncomputable def u_is_safe : MD := mkD 1 1 (sRet (mUn isND (mCallD u_lost (aCons (mVar 0) (aNil)))))
def u__law_cannot : MD := mkD 3 6 (sSeq (sAsg (gSeq (gsCons (gNm 3) (gsCons (gNm 4) (gsCons (gNm 5) (gsNil))))) (mCallD u__law_wanted (aCons (mVar 0) (aCons (mVar 1) (aNil))))) (sRet (mIf (mT (mOp eqD (mVar 2) (mC (.str "write")))) (mOp ltD (mCall lenD (aCons (mVar 4) (aNil))) (mVar 3)) (mOp ltD (mCall lenD (aCons (mVar 5) (aNil))) (mOp idxD (mOp idxD (mVar 0) (mC (.int 0))) (mC (.int 4)))))))
def u_Road_halt : MD := mkD 1 5 (sSeq (sFor (enum2I (aCons (mFld "Road" "places" (mVar 0)) (aNil))) (gSeq (gsCons (gNm 1) (gsCons (gNm 2) (gsNil)))) (sSeq (sAsg (gSeq (gsCons (gNm 3) (gsCons (gNm 4) (gsNil)))) (mMeth0 "Place" "wanted" u_Place_wanted (mVar 2))) (sSeq (sIf (mT (mOp ltD (mCall lenD (aCons (mVar 4) (aNil))) (mVar 3))) (sRet (mTup (aCons (mFld "Road" "point" (mVar 0)) (aCons (mVar 1) (aCons (mC (.str "write")) (aNil)))))) (sNil)) (sIf (mT (mOp ltD (mCall lenD (aCons (mMeth0 "Place" "answerers" u_Place_answerers (mVar 2)) (aNil))) (mProp "Ring" u_Ring_read_number (mFld "Stand" "now" (mFld "Place" "stand" (mVar 2)))))) (sRet (mTup (aCons (mFld "Road" "point" (mVar 0)) (aCons (mVar 1) (aCons (mC (.str "read")) (aNil)))))) (sNil))))) (sRet (mC .non)))
noncomputable def u_halt_of : MD := mkD 1 2 (sRet (mCallD u_first_of (aCons (mLc [1] (seqI (mCallD u_roads (aCons (mVar 0) (aNil)))) (cNm 1) (yesT) (mMeth0 "Road" "halt" u_Road_halt (mVar 1))) (aNil))))
noncomputable def u_halted : MD := mkD 1 1 (sSeq (sExpr (mCallD u_check_plan (aCons (mVar 0) (aNil)))) (sRet (mCallD u_halt_of (aCons (mVar 0) (aNil)))))
noncomputable def u_is_able : MD := mkD 1 1 (sRet (mUn isND (mCallD u_halted (aCons (mVar 0) (aNil)))))
def u__law_is_shown : MD := mkD 2 3 (sSeq (sIf (tOrZ (tNotZ (mT (mCall (isiD isiC isiT) (aCons (mVar 1) (aCons (mC (.opq (.ty "tuple"))) (aNil)))))) (tOrZ (mT (mOp neD (mCall lenD (aCons (mVar 1) (aNil))) (mC (.int 3)))) (mT (mOp notInAD (mOp idxD (mVar 1) (mC (.int 2))) (mLst (aCons (mC (.str "write")) (aCons (mC (.str "read")) (aNil)))))))) (sRet (mC (.bl false))) (sNil)) (sSeq (sIf (tNotZ (mT (mCall allD (aCons (mLc [2] (seqI (mSl slD (mVar 1) (oNone) (oSome (mC (.int 2))))) (cNm 2) (yesT) (mAnd (mCall (isiD ["Ring", "Plan"] isiT) (aCons (mVar 2) (aCons (mC (.opq (.ty "int"))) (aNil)))) (mUn notD (mCall (isiD ["Ring", "Plan"] isiT) (aCons (mVar 2) (aCons (mC (.opq (.ty "bool"))) (aNil))))))) (aNil))))) (sRet (mC (.bl false))) (sNil)) (sSeq (sIf (tOrZ (tNotZ (mT (mChain leD ltD (mC (.int 0)) (mOp idxD (mVar 1) (mC (.int 0))) (mOp idxD (mOp idxD (mOp idxD (mVar 0) (mC (.int 0))) (mC (.int 0))) (mC (.int 0)))))) (tNotZ (mT (mChain leD ltD (mC (.int 0)) (mOp idxD (mVar 1) (mC (.int 1))) (mCall lenD (aCons (mVar 0) (aNil))))))) (sRet (mC (.bl false))) (sNil)) (sRet (mCallD u__law_cannot (aCons (mOp idxD (mVar 0) (mOp idxD (mVar 1) (mC (.int 1)))) (aCons (mOp idxD (mVar 1) (mC (.int 0))) (aCons (mOp idxD (mVar 1) (mC (.int 2))) (aNil)))))))))
def u__law_great_plan : MD := mkD 2 8 (sSeq (sSet 2 (mCallD u__law_great (aCons (mVar 0) (aNil)))) (sSeq (sPar [3, 4] (xOwn (mLst (aCons (mLst (aCons (mVar 2) (aCons (mC .non) (aCons (mLst (aNil)) (aNil))))) (aNil))) (xOwn (mLst (aNil)) (xNil)))) (sSeq (sFor (rngI (aCons (mVar 1) (aNil))) (gNm 5) (sSeq (sSet 6 (mCallD u__law_step (aCons (mVar 0) (aCons (mIxO 3 (mUn negD (mC (.int 1)))) (aNil))))) (sSeq (sSet 7 (mCallD u__law_later (aCons (mIxO 3 (mUn negD (mC (.int 1)))) (aCons (mVar 6) (aNil))))) (sIf (mT (mUn notND (mVar 7))) (sSeq (sApp 4 (mVar 6)) (sApp 3 (mVar 7))) (sNil))))) (sFrz 3 (sFrz 4 (sRet (mTup (aCons (mVar 4) (aCons (mVar 3) (aNil))))))))))
end C
end Z

set_option Elab.async false
set_option linter.all false
set_option maxRecDepth 100000
set_option maxHeartbeats 4000000
namespace Z
open PySem PySem.Spec PyProof.Rows L2
/-! ### a op1 b op2 c op3 d as a test -/
def tChain3 (r1 r2 r3 : R2) (ta tb tc td : TE) : TT := fun σ H Q => ta σ H fun x H1 => tb σ H1 fun y H2 => r1 x y H2 fun z H3 => ∃ k, z = .bl k ∧
  (if k = true then tc σ H3 fun w H4 => r2 y w H4 fun z2 H5 => ∃ k2, z2 = .bl k2 ∧ (if k2 = true then td σ H5 fun v H6 => r3 w v H6 fun z3 H7 => ∃ k3, z3 = .bl k3 ∧ Q k3 H7 else Q false H5) else Q false H3)
section
variable {X : Cx} {a b c d : Expr} {ta tb tc td : TE} {ma mb mc md : ME} {pos : Pos}
def mCh3 (f1 f2 f3 : D → D → Option D) (ma mb mc md : ME) : MT := fun e s => bnd (ma e s) fun a s => bnd (mb e s) fun b s => bnd (lft (f1 a b) s) fun k s => match k with
  | .bl true => bnd (mc e s) fun c s => bnd (lft (f2 b c) s) fun k s => match k with
    | .bl true => bnd (md e s) fun d s => bnd (lft (f3 c d) s) fun k s => match k with
      | .bl t => some (t, s)
      | _ => none
    | .bl false => some (false, s)
    | _ => none
  | .bl false => some (false, s)
  | _ => none
end
end Z

set_option linter.all false
set_option maxRecDepth 100000
namespace Z
namespace C
open PySem
def u__law_is_case : MD := mkD 3 16 (sSeq (sIf (tOrZ (tNotZ (mT (mCall (isiD isiC isiT) (aCons (mVar 2) (aCons (mC (.opq (.ty "tuple"))) (aNil)))))) (mT (mOp neD (mCall lenD (aCons (mVar 2) (aNil))) (mC (.int 5))))) (sRet (mC (.bl false))) (sNil)) (sSeq (sAsg (gSeq (gsCons (gNm 3) (gsCons (gNm 4) (gsCons (gNm 5) (gsCons (gNm 6) (gsCons (gNm 7) (gsNil))))))) (mVar 2)) (sSeq (sIf (tNotZ (mT (mCall allD (aCons (mLc [8] (seqI (mLst (aCons (mVar 3) (aCons (mVar 4) (aCons (mVar 6) (aNil)))))) (cNm 8) (yesT) (mAnd (mCall (isiD ["Ring", "Plan"] isiT) (aCons (mVar 8) (aCons (mC (.opq (.ty "int"))) (aNil)))) (mUn notD (mCall (isiD ["Ring", "Plan"] isiT) (aCons (mVar 8) (aCons (mC (.opq (.ty "bool"))) (aNil))))))) (aNil))))) (sRet (mC (.bl false))) (sNil)) (sSeq (sIf (tOrZ (tNotZ (mT (mChain leD ltD (mC (.int 0)) (mVar 3) (mOp idxD (mOp idxD (mOp idxD (mVar 1) (mC (.int 0))) (mC (.int 0))) (mC (.int 0)))))) (tNotZ (mCh3 leD leD ltD (mC (.int 0)) (mVar 4) (mVar 6) (mCall lenD (aCons (mVar 1) (aNil)))))) (sRet (mC (.bl false))) (sNil)) (sSeq (sAsg (gSeq (gsCons (gNm 9) (gsCons (gNm 10) (gsCons (gNm 11) (gsNil))))) (mCallD u__law_wanted (aCons (mOp idxD (mVar 1) (mVar 4)) (aCons (mVar 3) (aNil))))) (sSeq (sIf (mT (mOp notInAD (mVar 5) (mCallD u_P_law_lots (aCons (mVar 10) (aCons (mVar 9) (aNil)))))) (sRet (mC (.bl false))) (sNil)) (sSeq (sSet 12 (mOp idxD (mCallD u__law_wanted (aCons (mOp idxD (mVar 1) (mVar 6)) (aCons (mVar 3) (aNil)))) (mC (.int 2)))) (sSeq (sIf (mT (mOp notInAD (mVar 7) (mCallD u_P_law_lots (aCons (mVar 12) (aCons (mOp idxD (mOp idxD (mOp idxD (mVar 1) (mVar 6)) (mC (.int 0))) (mC (.int 4))) (aNil)))))) (sRet (mC (.bl false))) (sNil)) (sSeq (sSet 13 (mCall listD (aCons (mVar 5) (aNil)))) (sSeq (sFor (rng2I (aCons (mVar 4) (aCons (mVar 6) (aNil)))) (gNm 14) (sSet 13 (mCallD u__law_has (aCons (mVar 0) (aCons (mVar 1) (aCons (mVar 3) (aCons (mVar 14) (aCons (mVar 13) (aNil))))))))) (sRet (mOp eqD (mLc [15] (seqI (mVar 7)) (cNm 15) (mT (mOp inAD (mVar 15) (mVar 13))) (mVar 15)) (mLst (aNil))))))))))))))
end C
end Z

set_option Elab.async false
set_option linter.all false
set_option maxRecDepth 100000
set_option maxHeartbeats 4000000
namespace Z
open PySem PySem.Spec PyProof.Rows L2
/-! ### C(x), the last parameter of __init__ left to its default () -/
def nilTB (K : PySem.W.Frag) (a : Addr) : Bool := match K.lookup a with
  | some o => (o.cls == .type "tuple") && (match o.data with
    | .seq its _ => its.isEmpty
    | _ => false)
  | none => false
def miD (mi : MI0) : MI0 := fun ds s => mi (ds ++ [.tup []]) s
section
variable {X : Cx} {d : DefZ} {ps : List Str} {j k : Nat} {mi : MI0} {c x : Str} {p pos : Pos} {e : Expr} {es : List Expr} {ma : MA} {a : Addr}
end
end Z

set_option Elab.async false
set_option linter.all false
set_option maxRecDepth 100000
set_option maxHeartbeats 4000000
namespace Z
open PySem PySem.Spec PyProof.Rows L2 PySem.W
/-! ### a dict of tuple keys, its values all True: a cell -/
def unKy : D → Option Key
  | .int i => some (.inl i)
  | .str x => some (.inr x)
  | _ => none
def unKs : List D → Option (List Key)
  | [] => some []
  | d :: ds => match unKy d with
    | some k => (unKs ds).map (k :: ·)
    | none => none
def unKT : D → Option (List Key)
  | .tup ds => unKs ds
  | _ => none
section
variable {K : PySem.W.Frag} {g g1 : G} {H H1 : Hp} {s s1 : S} {a : Addr}
/-- tuples that stand are frozen -/
def G.addT (g : G) (H : Hp) (bs : List Addr) : G := ⟨fun a => match g.F a with
  | some u => some u
  | none => if a ∈ bs then H a else none, g.ad⟩
end
section
variable {X : Cx} {pos : Pos}
/-- {} -/
def mKtNew : ME := fun _ s => some (.cel s.length, s ++ [.tup []])
/-- d[(..)] = True -/
def ktPut (ts : List D) (k : List Key) : List D := if ts.any (fun t => decide (unKT t = some k)) then ts else ts ++ [kTupD k]
def sKtPut (i : Nat) (ma : MA) : MS := fun e s => match ma e s with
  | none => none
  | some (ds, s1) => match e[i]? with
    | some (.val (.cel n)) => match unKs ds, s1[n]? with
      | some k, some (.tup ts) => if ts.length < sizeLine ∧ ds.length ≤ 16 then some (.nx, e, s1.set n (.tup (ktPut ts k))) else none
      | _, _ => none
    | _ => none
def listKtD : MD := fun ds s => match ds with
  | [.cel n] => match s[n]? with
    | some (.tup ts) => some (.lst ts, s)
    | _ => none
  | _ => none
def sortKtD : MD := fun ds s => match ds with
  | [.cel n] => match s[n]? with
    | some (.tup ts) => if sameK ts then some (.lst (sortL ts), s) else none
    | _ => none
  | _ => none
/-- x[k] = v as one of several targets, x an owned list -/
def gPutL (i : Nat) (m1 : ME) : MG := fun d e s => match m1 e s with
  | some (.int k, s) => match e[i]? with
    | some (.own (.lst ds)) => match ixN ds.length k with
      | some j => some (e.set i (.own (.lst (ds.set j d))), s)
      | none => none
    | _ => none
  | _ => none
end
end Z

set_option Elab.async false
set_option linter.all false
set_option maxRecDepth 100000
set_option maxHeartbeats 4000000
namespace Z
open PySem PySem.Spec PyProof.Rows L2
/-! ### x is True, x is False -/
section
variable {X : Cx} {K : PySem.W.Frag} {a b : Expr} {ma mb : ME} {pos : Pos}
def plainV : V → Bool
  | .non | .bl _ | .int _ | .str _ | .ref _ => true
  | _ => false
def rIsB (n : Bool) : R2 := fun x y H Q => ∃ k, y = .bl k ∧ plainV x = true ∧ Q (.bl (n != decide (x = .bl k))) H
def isBB (n : Bool) (a b : D) : Option D := match b with
  | .bl k => match a with
    | .bl c => some (.bl (n != decide (c = k)))
    | .non | .int _ | .str _ | .tup _ | .lst _ | .dic _ | .obj _ _ | .cel _ => some (.bl n)
    | _ => none
  | _ => none
abbrev isBD := isBB false
abbrev isnBD := isBB true
/-! ### len of a dict -/
def lenDicD : List D → Option D
  | [.dic kvs] => some (.int kvs.length)
  | _ => none
/-! ### len(set(xs)), xs a list of texts -/
def lenSetD : D → Option D
  | .lst ds => match strsD ds with
    | some xs => if xs.length < 64 then some (.int (dedT xs).length) else none
    | none => none
  | _ => none
def tLenTx (K : PySem.W.Frag) (ta : TE) : TE := fun σ H Q => ta σ H fun x H1 => ∃ (l : Addr) (xs : List Str), x = .ref l ∧ SqL K H1 l (xs.map V.str) ∧ xs.length < 64 ∧ Q (.int (dedT xs).length) H1
def mLenSet (ma : ME) : ME := mUn lenSetD ma
end
end Z

set_option Elab.async false
set_option linter.all false
set_option maxRecDepth 100000
set_option maxHeartbeats 4000000
namespace Z
open PySem PySem.Spec PyProof.Rows L2
/-! ### borrowed for an expression that leaves the store alone: cells may hold lists -/
open Classical in
noncomputable def mBorP (i : Nat) (m : ME) : ME := fun e s => if h : ∃ d, noL d = true ∧ ∀ sx, m (frzE i e) sx = some (d, sx) then some (Classical.choose h, s) else none
open Classical in
noncomputable def tBorP (i : Nat) (m : MT) : MT := fun e s => if h : ∃ b, ∀ sx, m (frzE i e) sx = some (b, sx) then some (Classical.choose h, s) else none
section
variable {K : PySem.W.Frag} {g g' : G} {H H' : Hp} {s : Z.S}
/-- a cell's content with its values told as they stand -/
def Msk (K : PySem.W.Frag) (g : G) (H : Hp) (a : Addr) (c c' : D) : Prop := (c' = c ∧ noC c = true) ∨ ((∀ g1, OwnC K g1 H a c') ∧ ∀ g1 H1 g2, GLe g g2 → OwnC K g1 H1 a c' → OwnC K g2 H1 a c)
end
section
variable {X : Cx} {K : PySem.W.Frag} {m : ME} {mt : MT} {a : Expr}
end
end Z

set_option Elab.async false
set_option linter.all false
set_option maxRecDepth 100000
set_option maxHeartbeats 4000000
namespace Z
open PySem PySem.Spec PyProof.Rows L2
/-! ### a part of a list of one's own, read -/
def mSlO (i : Nat) (ml mh : MO) : ME := fun e s => bnd (ml e s) fun lo s => bnd (mh e s) fun hi s => match e[i]? with
  | some (.own (.lst ds)) => some (.lst (cutL ds lo hi), s)
  | _ => none
section
variable {X : Cx} {x : Str} {p p2 pos : Pos} {lo hi : Option Expr} {ml mh : MO}
end
end Z

set_option Elab.async false
set_option linter.all false
set_option maxRecDepth 100000
set_option maxHeartbeats 4000000
namespace Z
open PySem PySem.Spec PyProof.Rows L2
section
variable {X : Cx} {a b c d : Expr} {ma mb mc md : ME} {pos : Pos}
end
end Z

set_option Elab.async false
set_option linter.all false
set_option maxRecDepth 100000
set_option maxHeartbeats 4000000
namespace Z
open PySem PySem.Spec PyProof.Rows L2
/-! ### == and != of an own object and values of built-in kinds -/
namespace Oe
open PySem.W
/-- an instance of a class of the text at x, which is no T -/
def OwnI (prog : Program) (w : World) (x : Addr) (T : String) (s : Shared) : Prop := ∃ C dx, s.heap.get? x = some (instObj C dx) ∧ Looks (model prog w) s.heap (isSubtype (.ref C) (.type T)) false
section
variable {prog : Program} {w : World}
end
/-! ### the operators -/
section
variable {prog : Program} {w : World} {A : Around} {E : Value → Shared → Prop} {s : Shared} {K : Frag} {x C f : Addr} {ox : Obj} {od : Option Obj} {v : Value} {T id : String}
end
end Oe
/-- the built-in kind of a value -/
def knd : D → Option String
  | .non => some "NoneType"
  | .bl _ => some "bool"
  | .int _ => some "int"
  | .str _ => some "str"
  | .tup _ => some "tuple"
  | .lst _ => some "list"
  | .dic _ => some "dict"
  | _ => none
section
open PySem.W Oe
variable {X : Cx} {pins : List (Addr × Obj)} {s : Shared} {σ : L2.St} {H : Hp} {g : G} {s0 : Z.S} {x : V} {v : Value} {a : D} {T : String}
end
/-- == (neg: !=) where one side is an own object of the class c, the other one such, or a value of a built-in kind -/
def ownAny (neg : Bool) (c : Str) (md : MD) : D → D → S → Option (D × S) := fun a b s =>
  match (if ofC c a then (if ofC c b || (knd b).isSome then md [a, b] s else none) else if ofC c b && (knd a).isSome then md [b, a] s else none) with
  | some (.bl r, s') => some (.bl (r != neg), s')
  | _ => none
section
open PySem.W Oe
variable {X : Cx} {a b : Expr} {ma mb : ME} {d : DefZ} {ps : List Str} {k j : Nat} {md : MD} {c : Str} {pos : Pos}
end
end Z

set_option Elab.async false
set_option linter.all false
set_option maxRecDepth 100000
set_option maxHeartbeats 4000000
namespace Z
open PySem PySem.Spec PyProof.Rows L2
/-! ### repr, an empty dict too -/
def reprMd : MD := fun ds s => match ds with
  | [.dic []] => some (.str "{}", s)
  | _ => reprM ds s
section
variable {X : Cx}
end
end Z

set_option Elab.async false
set_option linter.all false
set_option maxRecDepth 100000
set_option maxHeartbeats 4000000
namespace Z
open PySem PySem.Spec PyProof.Rows L2
/-! ### repr of values with empty dicts in them: sys.modules is a dict of the fragment, no list -/
def modB (K : PySem.W.Frag) : Bool := match K.lookup sysModules with
  | some o => (o.cls == .type "dict")
  | none => false
mutual
def toPx : D → Option PyData
  | .non => some .none
  | .bl b => some (.bool b)
  | .int i => some (.int i)
  | .str x => some (.str x)
  | .tup ds => (toPxL ds).map .tuple
  | .lst ds => (toPxL ds).map .list
  | .dic kvs => (toPxK kvs).map .dict
  | _ => none
def toPxK : List (Key × D) → Option (List (PyData × PyData))
  | [] => some []
  | (k, d) :: r => match toPx d with
    | some p => (toPxK r).map (((match k with
      | .inl i => PyData.int i
      | .inr x => PyData.str x), p) :: ·)
    | none => none
def toPxL : List D → Option (List PyData)
  | [] => some []
  | d :: ds => match toPx d with
    | some p => (toPxL ds).map (p :: ·)
    | none => none
end
section
variable {X : Cx} {pins : List (Addr × Obj)} {σ : L2.St} {H : Hp} {st : Shared} {g : G} {s : S}
theorem mod_at (I : Inv X pins σ H st) (hm : modB X.K = true) : ∃ o, st.heap.get? sysModules = some o ∧ o.cls = .type "dict" := by
  unfold modB at hm
  split at hm
  · rename_i o h
    exact ⟨o, I.kIn _ _ h, by simpa using hm⟩
  · cases hm
theorem lst_at (I : Inv X pins σ H st) {a : Addr} {vs : List V} (h : SqL X.K H a vs) : ∃ o ws n, st.heap.get? a = some o ∧ o.cls = .type "list" ∧ o.data = .seq ws n ∧ Vals vs ws.toList := by
  have fin : ObjOk X.prog X.w H st.heap a (.lst vs) → ∃ o ws n, st.heap.get? a = some o ∧ o.cls = .type "list" ∧ o.data = .seq ws n ∧ Vals vs ws.toList := fun q => by
    obtain ⟨_, its, n, q1, q2⟩ := q
    exact ⟨_, _, _, q2, rfl, rfl, by simpa using q1⟩
  rcases h with h | ⟨o, its, n, k1, k2, k3, k4, k5, k6⟩
  · rcases h with h | ⟨o, h⟩
    · exact fin (I.hok a _ h)
    · exact fin (I.hok a _ h).2
  · exact ⟨o, its, n, I.kIn _ _ k1, k2, k4, k6⟩
theorem tup_at (I : Inv X pins σ H st) {a : Addr} {vs : List V} (h : SqT X.K H a vs) : ∃ o ws n, st.heap.get? a = some o ∧ o.cls = .type "tuple" ∧ o.data = .seq ws n ∧ Vals vs ws.toList := by
  have fin : ObjOk X.prog X.w H st.heap a (.tup vs) → ∃ o ws n, st.heap.get? a = some o ∧ o.cls = .type "tuple" ∧ o.data = .seq ws n ∧ Vals vs ws.toList := fun q => by
    obtain ⟨_, its, q1, o, q2, q3, n, q4⟩ := q
    exact ⟨o, _, n, q2, q3, q4, by simpa using q1⟩
  rcases h with h | ⟨o, its, n, k1, k2, k3, k4, k5⟩
  · rcases h with h | ⟨o, h⟩
    · exact fin (I.hok a _ h)
    · exact fin (I.hok a _ h).2
  · exact ⟨o, its, n, I.kIn _ _ k1, k2, k3, k5⟩
mutual
theorem rdx_of (I : Inv X pins σ H st) (R : SRel X.K g H s) (hm : modB X.K = true) : ∀ {v : V} {d : D} {p : PyData}, Rep X.K g v d → toPx d = some p → ∀ {u : Value}, RelV v u → ∃ as, Reads st.heap u p as ∧ sysModules ∉ as
  | _, _, _, .non, e, u, ru => by simp only [toPx] at e; cases e; obtain rfl : u = Value.none := ru; exact ⟨_, .none, by simp⟩
  | _, _, _, .bl b, e, u, ru => by simp only [toPx] at e; cases e; obtain rfl : u = Value.bool b := ru; exact ⟨_, .bool b, by simp⟩
  | _, _, _, .int b, e, u, ru => by simp only [toPx] at e; cases e; obtain ⟨t, rfl⟩ := ru; exact ⟨_, .int _ t, by simp⟩
  | _, _, _, .str b, e, u, ru => by simp only [toPx] at e; cases e; obtain ⟨t, rfl⟩ := ru; exact ⟨_, .str _ t, by simp⟩
  | _, _, _, .tup h r, e, u, ru => by
    simp only [toPx] at e
    obtain ⟨q, h1, rfl⟩ := Option.map_eq_some_iff.mp e
    obtain rfl : u = Value.ref _ := ru
    obtain ⟨o, ws, n, h2, h3, h4, h5⟩ := tup_at I (sqT_H R h)
    obtain ⟨as, h6, h7⟩ := rdxL_of I R hm r h1 h5
    exact ⟨as, .tuple h2 h3 h4 h6, h7⟩
  | _, _, _, .lst h r, e, u, ru => by
    simp only [toPx] at e
    obtain ⟨q, h1, rfl⟩ := Option.map_eq_some_iff.mp e
    obtain rfl : u = Value.ref _ := ru
    obtain ⟨o, ws, n, h2, h3, h4, h5⟩ := lst_at I (.inl (rd_H R h))
    obtain ⟨as, h6, h7⟩ := rdxL_of I R hm r h1 h5
    obtain ⟨o2, m1, m2⟩ := mod_at I hm
    refine ⟨_, .list h2 h3 h4 h6, fun z => ?_⟩
    rcases List.mem_cons.mp z with z | z
    · rw [z, h2] at m1
      cases m1
      rw [h3] at m2
      injection m2 with m2
      exact absurd m2 (by decide)
    · exact h7 z
  | _, _, _, .dic q rr, e, u, ru => by
    simp only [toPx] at e
    obtain ⟨ps, h1, rfl⟩ := Option.map_eq_some_iff.mp e
    obtain rfl : u = Value.ref _ := ru
    obtain ⟨z, lo, ws, rel, dd⟩ := dk_rd I.hok (rdK_H R q)
    obtain ⟨o, es, ep, ho, ex, hd, _, pr, _⟩ := dd
    obtain ⟨as, bs, k1, k2, k3, k4⟩ := rdxK_of I R hm rr h1 rel pr
    refine ⟨_, .dict ho ex.1 hd k1 k2, fun hm => ?_⟩
    rcases List.mem_append.mp hm with hm | hm
    · rcases List.mem_cons.mp hm with hm | hm
      · rw [← hm] at lo
        simp at lo
      · exact k3 hm
    · exact k4 hm
  | _, _, _, .obj _ _, e, u, ru => by simp only [toPx] at e; cases e
  | _, _, _, .cel _, e, u, ru => by simp only [toPx] at e; cases e
  | _, _, _, .opq _, e, u, ru => by simp only [toPx] at e; cases e
  | _, _, _, .exc _ _ _, e, u, ru => by simp only [toPx] at e; cases e
  | _, _, _, .exc0 _, e, u, ru => by simp only [toPx] at e; cases e
theorem rdxK_of (I : Inv X pins σ H st) (R : SRel X.K g H s) (hm : modB X.K = true) : ∀ {v : List (Key × V)} {d : List (Key × D)} {p : List (PyData × PyData)}, RepK X.K g v d → toPxK d = some p → ∀ {ws : List (Key × Value)} {es : List DictEntry}, KV v ws → Pairs (mixKind X.prog X.w) es ws →
    ∃ as bs, ReadsAll st.heap (es.map (·.key)) (p.map (·.1)) as ∧ ReadsAll st.heap (es.map (·.val)) (p.map (·.2)) bs ∧ sysModules ∉ as ∧ sysModules ∉ bs
  | _, _, _, .nil, e, ws, es, kv, pr => by
    simp only [toPxK] at e
    cases e
    unfold KV at kv
    cases kv
    cases pr
    exact ⟨_, _, .nil, .nil, by simp, by simp⟩
  | _, _, _, .cons h r, e, ws, es, kv, pr => by
    simp only [toPxK] at e
    unfold KV at kv
    cases kv with
    | cons v1 kv =>
      cases pr with
      | cons p1 p2 pr =>
        split at e
        · rename_i p hp
          obtain ⟨q, h1, rfl⟩ := Option.map_eq_some_iff.mp e
          obtain ⟨as, a1, a2⟩ := rdx_of I R hm h hp v1.2
          obtain ⟨bs, cs, b1, b2, b3, b4⟩ := rdxK_of I R hm r h1 kv pr
          rw [← p2] at a1
          have p1 : keyIs _ _ = true := p1
          rcases keyIs_shape p1 with ⟨i, t, e1, e2⟩ | ⟨x, t, e1, e2⟩
          · have e1 := v1.1.trans e1
            dsimp only at e1
            rw [e1]
            exact ⟨_, _, .cons (as := []) (by dsimp only; rw [e2]; exact .int i t) b1, .cons a1 b2, b3, fun z => (List.mem_append.mp z).elim a2 b4⟩
          · have e1 := v1.1.trans e1
            dsimp only at e1
            rw [e1]
            exact ⟨_, _, .cons (as := []) (by dsimp only; rw [e2]; exact .str x t) b1, .cons a1 b2, b3, fun z => (List.mem_append.mp z).elim a2 b4⟩
        · cases e
theorem rdxL_of (I : Inv X pins σ H st) (R : SRel X.K g H s) (hm : modB X.K = true) : ∀ {v : List V} {d : List D} {p : List PyData}, RepL X.K g v d → toPxL d = some p → ∀ {us : List Value}, Vals v us → ∃ as, ReadsAll st.heap us p as ∧ sysModules ∉ as
  | _, _, _, .nil, e, us, vu => by simp only [toPxL] at e; cases e; cases vu; exact ⟨_, .nil, by simp⟩
  | _, _, _, .cons h r, e, us, vu => by
    simp only [toPxL] at e
    cases vu with
    | cons v1 vu =>
      split at e
      · rename_i p hp
        obtain ⟨q, h1, rfl⟩ := Option.map_eq_some_iff.mp e
        obtain ⟨as, a1, a2⟩ := rdx_of I R hm h hp v1
        obtain ⟨bs, b1, b2⟩ := rdxL_of I R hm r h1 vu
        exact ⟨_, .cons a1 b1, fun z => (List.mem_append.mp z).elim a2 b2⟩
      · cases e
end
end
/-! ### repr -/
def reprDx (d : D) : Option D := (toPx d).bind fun p => if p.showable = true ∧ p.depth ≤ 60 ∧ p.shown.length ≤ sizeLine then some (.str p.shown) else none
def reprMx : MD := fun ds s => match ds with
  | [d] => lft (reprDx d) s
  | _ => none
section
variable {X : Cx}
theorem cr_reprx (hu : X.A.units + 64 < cLine) (hg : X.A.guards = some []) (hm : modB X.K = true) : CallR X (.builtin "repr") (rM X.K reprMx) := fun pins s σ H xs us Q I r ⟨g, s0, ds, y, s', R, rl, hmd, kk⟩ => by
  unfold reprMx at hmd
  split at hmd
  · rename_i d
    obtain ⟨h4, h5⟩ := lft_some hmd
    dsimp only at h4 h5
    subst h5
    unfold reprDx at h4
    cases e : toPx d with
    | none => rw [e] at h4; cases h4
    | some p =>
      rw [e] at h4
      dsimp only [Option.bind_some] at h4
      split at h4
      · rename_i hc
        cases h4
        obtain ⟨c1, c2, c3⟩ := hc
        cases rl with
        | cons r1 rl =>
          cases rl
          obtain ⟨u, rfl, ru⟩ := vals1 r
          have fin : ∀ h' (t : Tok) tk, (∀ b o, s.heap.get? b = some o → h'.get? b = some o) → EP X pins σ Q (.str p.shown t) { s with heap := h', toks := tk } := fun h' t tk hk => ⟨.str p.shown, H, I.kept hk, ⟨t, rfl⟩, kk _ g H (.refl R) (.str _)⟩
          obtain ⟨as, rd, nm⟩ := rdx_of I R hm r1 e ru
          cases id r1 with
          | non => obtain rfl : u = Value.none := ru; simp only [toPx] at e; cases e; exact PySem.P.repr_of_none (fin _ _ _ fun _ _ z => z)
          | bl b => obtain rfl : u = Value.bool b := ru; simp only [toPx] at e; cases e; exact PySem.P.repr_of_bool (fin _ _ _ fun _ _ z => z)
          | int i => obtain ⟨t, rfl⟩ := ru; simp only [toPx] at e; cases e; exact PySem.P.repr_of_int (by simpa [PyData.showable] using c1) (fin _ _ _ fun _ _ z => z)
          | str x => obtain ⟨t, rfl⟩ := ru; simp only [toPx] at e; cases e; exact PySem.P.repr_of_str (fin _ _ _ fun _ _ z => z) c3
          | tup q rr => obtain rfl : u = Value.ref _ := ru; exact PySem.repr_of_reads' rd c1 (fun _ => nm) hg (by omega) (fun _ _ z => z) (fun h' t tk hk => fin h' t tk hk) c3
          | lst q rr => obtain rfl : u = Value.ref _ := ru; exact PySem.repr_of_reads' rd c1 (fun _ => nm) hg (by omega) (fun _ _ z => z) (fun h' t tk hk => fin h' t tk hk) c3
          | dic q rr => obtain rfl : u = Value.ref _ := ru; exact PySem.repr_of_reads' rd c1 (fun _ => nm) hg (by omega) (fun _ _ z => z) (fun h' t tk hk => fin h' t tk hk) c3
          | obj _ _ => simp only [toPx] at e; cases e
          | cel _ => simp only [toPx] at e; cases e
          | opq _ => simp only [toPx] at e; cases e
          | exc _ _ _ => simp only [toPx] at e; cases e
          | exc0 _ => simp only [toPx] at e; cases e
          | ty _ => simp only [toPx] at e; cases e
      · cases h4
  · cases hmd
end
/-! ### where no dict stands it is the usual repr -/
end Z

set_option Elab.async false
set_option linter.all false
set_option maxRecDepth 100000
set_option maxHeartbeats 4000000
namespace PySem
namespace ErrX
open PySem.W PySem.Calls PyProof.Rows PySem.HandSPX
/-- what is known of a built-in error class at the end of an mro -/
structure Base (nw : String) (tl : List Value) : Prop where
  facts : ∃ B ini, ExcBaseFacts B nw ini tl
  pass : ∀ self, refuseLoop self "__setattr__" tl = pure ()
  obj : tl.contains (.type "object") = true
  fst : ∃ t r, tl = .type t :: r
theorem of_tail {nw : String} {tl : List Value} (h : Z.tailX nw = some tl) : Base nw tl := by
  unfold Z.tailX at h
  split at h
  · rename_i e
    subst e
    cases h
    exact ⟨⟨_, _, F.excBase_ValueError⟩, F.store_ValueError.passes, by decide +kernel, _, _, rfl⟩
  · split at h
    · rename_i e
      subst e
      cases h
      exact ⟨⟨_, _, F.excBase_LookupError⟩, F.store_LookupError.passes, by decide +kernel, _, _, rfl⟩
    · split at h
      · rename_i e
        subst e
        cases h
        exact ⟨⟨_, _, F.excBase_ArithmeticError⟩, F.store_ArithmeticError.passes, by decide +kernel, _, _, rfl⟩
      · cases h
theorem split {tl : List Value} : ∀ l : List Value, Z.refsX tl l = true → (∃ c r, l = .ref c :: r ∧ Z.refsX tl r = true) ∨ l = tl
  | [], e => .inr (beq_iff_eq.mp e)
  | .ref c :: r, e => .inl ⟨c, r, rfl, e⟩
  | .none :: _, e => .inr (beq_iff_eq.mp e)
  | .ellipsis :: _, e => .inr (beq_iff_eq.mp e)
  | .notImplemented :: _, e => .inr (beq_iff_eq.mp e)
  | .bool _ :: _, e => .inr (beq_iff_eq.mp e)
  | .int _ _ :: _, e => .inr (beq_iff_eq.mp e)
  | .float _ _ :: _, e => .inr (beq_iff_eq.mp e)
  | .str _ _ :: _, e => .inr (beq_iff_eq.mp e)
  | .bytes _ _ :: _, e => .inr (beq_iff_eq.mp e)
  | .type _ :: _, e => .inr (beq_iff_eq.mp e)
  | .builtin _ :: _, e => .inr (beq_iff_eq.mp e)
section
variable {nw : String} {tl : List Value}
theorem Base.through (b : Base nw tl) (self : Value) : ∀ l : List Value, Z.refsX tl l = true → refuseLoop self "__setattr__" l = pure () := by
  intro l
  induction l with
  | nil =>
    intro e
    rcases split [] e with ⟨_, _, q, _⟩ | q
    · cases q
    · rw [q]; exact b.pass self
  | cons a r ih =>
    intro e
    rcases split (a :: r) e with ⟨c, r', q, h⟩ | q
    · cases q
      rw [refuseLoop_ref]; exact ih h
    · rw [q]; exact b.pass self
theorem Base.has (b : Base nw tl) (Y : String) : ∀ l : List Value, Z.refsX tl l = true → l.contains (.type Y) = tl.contains (.type Y) := by
  intro l
  induction l with
  | nil =>
    intro e
    rcases split [] e with ⟨_, _, q, _⟩ | q
    · cases q
    · rw [← q]
  | cons a r ih =>
    intro e
    rcases split (a :: r) e with ⟨c, r', q, h⟩ | q
    · cases q
      rw [List.contains_cons, ih h]
      rfl
    · rw [q]
theorem Base.some (b : Base nw tl) {l : List Value} (e : Z.refsX tl l = true) : l.isEmpty = false := by
  cases l with
  | nil =>
    rcases split [] e with ⟨_, _, q, _⟩ | q
    · cases q
    · obtain ⟨t, r, z⟩ := b.fst
      rw [z] at q; cases q
  | cons _ _ => rfl
end
section
open Builtin Builtin.ObjectAttr
variable {prog : Program} {w : World} {A : Around} {R : Result → Shared → Prop} {hp : Heap} {gs : Array GenState} {dr : Drawn} {tk : Nat} {os : OsState} {nw : String} {tl : List Value}
/-- the first field of an exception that has no dict yet -/
theorem store_first {K : W.Frag} {fld : Str} {tt : Tok} {u : Value} {e C : Addr} {fv : Array Value} {cd : ClassData} (b : Base nw tl) (X : K.In hp) (he : hp.get? e = some { cls := .ref C, data := .fields fv }) (hcd : W.clsIn K C = some cd) (hm : Z.refsX tl cd.mro = true) (hd : cd.hasDict = true)
    (no : W.findIn K (.ref C) fld = some none)
    (hq : ∀ h' tk' dx, (∀ b o, b ≠ e → hp.get? b = some o → h'.get? b = some o) → hp.objs.size ≤ dx → dx ≠ e → h'.get? e = some { cls := .ref C, dict := some dx, data := .fields fv } →
      h'.Ns1 dx (fun y => if y = fld then some u else none) → R (.ok (.ret .none)) ⟨h', gs, dr, tk', os⟩) :
    codeAny (model prog w) A (.call (.builtin "object.__setattr__") ⟨[.ref e, .str fld tt, u], []⟩) R ⟨hp, gs, dr, tk, os⟩ := by
  have st := F.store_object
  have some1 := b.some hm
  have isObj : cd.mro.contains (.type "object") = true := (b.has "object" _ hm).trans b.obj
  have ne : e ≠ hp.objs.size := Nat.ne_of_lt (Heap.lt_size he)
  have at_ : W.InstAt hp e { cls := .ref C, data := .fields fv } C none := ⟨he, rfl, rfl, trivial⟩
  have inst : W.Looks (model prog w) hp (isInstance (.ref e) (.type "object")) true := at_.type.andThen (W.looks_mroIn X (by unfold W.mroIn; rw [hcd, Option.bind_some, if_neg (by rw [some1]; decide), isObj]))
  refine codeAny_call_builtin st.slot.plain st.entry (@W.check_slot (model prog w) _ _ ⟨hp, gs, dr, tk, os⟩ "object.__setattr__" "object" "__setattr__" (.ref e) [.str fld tt, u] [] _ st.kind st.split inst (st.args (.ref e) (.str fld tt) u) ?_)
  have l1 : W.Looks (model prog w) hp (mroOf (.ref C)) cd.mro := (W.looks_clsIn X hcd).andThen .now
  have l2 : W.Looks (model prog w) hp (storeTaker? none) none := .now
  have l3 : W.Looks (model prog w) hp (classData C) cd := W.looks_clsIn X hcd
  rw [W.osa_eq, refuse_eq]
  refine wpAny_bind (wpAny_bind (at_.type.at (wpAny_bind (l1.at ?_))))
  rw [b.through _ _ hm]
  refine wpAny_pure (wpAny_bind (at_.type.at (wpAny_bind ((W.looks_findIn X no).at (wpAny_bind (l2.at ?_))))))
  show wpAny _ _ (storeInOwnDict (.ref e) (.ref C) (.str fld tt) fld u false) _ _ _
  obtain ⟨n1, n2, n3, n4, n5, hasD, n7, n8, n9, n10, n11⟩ := cd
  dsimp only at hd
  subst hd
  unfold storeInOwnDict ownDictForStores
  repeat (first | with_reducible refine store_in_new ?_ ?_ | with_reducible refine wpAny_loadPart_at he ?_ | with_reducible refine l3.at ?_ | wp_step)
  · exact ⟨_, #[], _, (Heap.get?_update_ne _ _ _ _ ne.symm).trans (Heap.get?_push_at rfl rfl), rfl, fun z hz => absurd hz (by simp), fun _ => rfl⟩
  · intro h' tk' hns same
    have old : (hp.push { cls := .type "dict", data := .dict #[] }).get? e = some { cls := .ref C, data := .fields fv } := Heap.get?_push_of_some _ he
    refine hq h' tk' hp.objs.size (fun a o na ha => ?_) (Nat.le_refl _) ne.symm ?_ hns
    · exact (same.2 a (Nat.ne_of_lt (Heap.lt_size ha))).trans ((Heap.get?_update_ne _ _ _ _ na).trans (Heap.get?_push_of_some _ ha))
    · exact (same.2 e ne).trans (Heap.get?_update_self _ old rfl)
end
end ErrX
end PySem
namespace Z
open PySem PySem.Spec PyProof.Rows L2
/-- a call deeper is let -/
structure A0.dp (X : Cx) (k : Nat) : Prop where
  lt : X.A.depth + 1 < recursionLimit
/-- c(e), c an error class with one field -/
def tMkX (f : Str) (C : Addr) (ta : TA) : L2.St → Hp → XK → Prop := fun σ H Q => ta σ H fun vs H1 => ∃ v, vs = [v] ∧ ∀ d, H1 d = none → Q (.ref C) (some d) (upd H1 d (.xd [(f, v)]))
end Z
namespace PySem
namespace XLg
open PySem.W PySem.Calls PyProof.Rows PySem.HandSPX
/-! ### the text of __init__ -/
def iA (p1 p2 : Pos) : Arguments := { posonlyargs := [], args := [{ arg := "self", annotation := none, pos := p1 }, { arg := "given", annotation := none, pos := p2 }], vararg := none, kwonlyargs := [], kw_defaults := [], kwarg := none, defaults := [] }
def iB (q1 q2 q3 q4 : Pos) : List Stmt := [.Assign [.Attribute (.Name "self" q1) "given" q2] (.Name "given" q3) q4]
def iS : Scope := { kind := .function, names := [(PySem.Str.ofString "self", .local), (PySem.Str.ofString "given", .local)], isGenerator := false, isCoroutine := false, more := [] }
/-- what the written part says of the class at C and of its __init__ at fI -/
structure Txt (K : Frag) (mg : Str → Option Value) (c : Str) (C fI : Addr) : Prop where
  gC : mg c = some (.ref C)
  cls : ∃ nw tl, Z.tailX nw = some tl ∧ ∃ nm q N bs bm sn sub ab col dd k0 k1 k2 k3 k5, K.lookup C = some (excClassObj nm q C N bs bm true sn sub ab col dd k0 k1 k2 k3 k5 nw) ∧ Z.refsX tl bm = true
  sa : findIn K (.ref C) "__setattr__" = some (some (.builtin "object.__setattr__"))
  noN : findIn K (.ref C) "given" = some none
  iC : findIn K (.ref C) "__init__" = some (some (.ref fI))
  tC : typeIn K (.ref fI) = some (.type "function")
  kC : keepIn K (.ref C) = true
  exC : subIn K (.ref C) (.type "BaseException") = some true
  tyC : typeIn K (.ref C) = some (.type "type")
  fn : ∃ (oc : Value) (od : Option Addr) (dV kV doc pm : Value) (an : Option Addr) (cdv ct : Value) (osl : Array (Option Value)) (p1 p2 q1 q2 q3 q4 : Pos) (ql : Str),
    K.lookup fI = some ⟨oc, od, .func (fnOf "__init__" ql (iA p1 p2) (iB q1 q2 q3 q4) iS dV kV doc pm an cdv ct), osl⟩ ∧ codeIn K cdv ql = true ∧
      ∀ (s : Shared) (x v : Value), K.In s.heap → BindsTo s (fnOf "__init__" ql (iA p1 p2) (iB q1 q2 q3 q4) iS dV kV doc pm an cdv ct) ⟨[x, v], []⟩ [("self", x), ("given", v)]
/-- what __init__ leaves of a fresh exception at x -/
structure InitEnd (h h' : Heap) (x C dx t1 : Addr) (v : Value) : Prop where
  keep : ∀ b o, b ≠ x → h.get? b = some o → h'.get? b = some o
  obj : h'.get? x = some { cls := .ref C, dict := some dx, data := .fields #[.ref t1, .none, .none, .none, .bool false, .none] }
  dbig : h.objs.size ≤ dx
  dne : dx ≠ x
  ns : h'.Ns1 dx (fun y => if y = "given" then some v else none)
structure OwnMade (h h' : Heap) (e C d : Addr) (v : Value) : Prop where
  keep : ∀ b o, h.get? b = some o → h'.get? b = some o
  new : h.objs.size ≤ e
  obj : ∃ t1 : Addr, h'.get? e = some ({ cls := .ref C, dict := some d, data := .fields #[.ref t1, .none, .none, .none, .bool false, .none] } : Obj)
  dbig : h.objs.size ≤ d
  dne : d ≠ e
  ns : h'.Ns1 d (fun y => if y = "given" then some v else none)
section
variable {prog : Program} {w : World} {A : Around} {E : Value → Shared → Prop} {R : Result → Shared → Prop} {s : Shared} {K : Frag} {mg : Str → Option Value} {c : Str} {C fI : Addr}
theorem low_init (T : Txt K mg c C fI) {x t0 : Addr} {v : Value} (X : K.In s.heap) (hlim : s.heap.NoLimit) (hx : s.heap.get? x = some (excO C t0)) (hnx : K.lookup x = none) (hroom : A.depth < recursionLimit)
    (hq : ∀ h' tk dx, InitEnd s.heap h' x C dx t0 v → R (.ok (.ret .none)) { s with heap := h', toks := tk }) :
    codeAny (model prog w) A (.call (.ref fI) ⟨[.ref x, v], []⟩) R s := by
  obtain ⟨oc, od, dV, kV, doc, pm, an, cdv, ct, osl, p1, p2, q1, q2, q3, q4, ql, ho, hcd, bd⟩ := T.fn
  obtain ⟨nw, tl, htl, nm, q, N, bs, bm, sn, sub, ab, col, dd, k0, k1, k2, k3, k5, hC, hbm⟩ := T.cls
  have hcl : clsIn K C = some { name := nm, bases := bs, mro := .ref C :: bm, ns := N, qualname := q, hasDict := true, slotNames := sn, subclasses := sub, abstract := ab, collection := col, hasDel := false } := by unfold clsIn; rw [hC] <;> rfl
  refine Att.call_fn (binds := [("self", .ref x), ("given", v)]) X hlim ho hcd hroom (bd _ _ _ X) (by first | rfl | decide | with_unfolding_all rfl) (fun s₁ IC => ?_) rfl rfl rfl
  obtain ⟨h₁, tk₁, rfl⟩ := IC.toInCall.same
  have k : ∀ b o, s.heap.get? b = some o → h₁.get? b = some o := IC.toInCall.keep
  have hn := IC.toInCall.ns
  have hxL : s.heap.objs.size ≠ x := Nat.ne_of_gt (Heap.lt_size hx)
  have X₁ : K.In h₁ := X.keeps k
  have hx₁ := k _ _ hx
  have ld : ∀ {M : Model} {s : Shared} {name : Str} {scope : Scope} {L a : Addr} {cd : Value} {m : Str → Option Value} {x : Str} {pos : Pos} {v : Value} {Q : Value → Shared → Prop} {A : Around} {E : Value → Shared → Prop}, s.heap.Ns L m → m x = some v → Q v s →
      scope.kind = .function → (envOfC name scope L a cd).kindOf x = some .local → (x == ("__debug__" : Str)) = false → wpAny M A (eval (.Name x pos) (envOfC name scope L a cd)) Q E s := fun hn hv h hk hl hd => wpAny_Name (wpAny_loadName_local hk hl hn hv h) hd
  show wpAny _ _ (execs _ _) _ _ _
  refine wpAny_execs_cons (plainObj_wpAny_Assign_Attribute ?_)
  refine ld (v := v) hn (by first | rfl | with_unfolding_all rfl | kernel_rfl) (ld (v := .ref x) hn (by first | rfl | with_unfolding_all rfl | kernel_rfl) ?_ rfl rfl (by decide)) rfl rfl (by decide)
  refine set_plain X₁ (ox := excO C t0) (od := none) ⟨hx₁, rfl, rfl, trivial⟩ T.sa ?_
  refine ErrX.store_first (ErrX.of_tail htl) X₁ hx₁ hcl (show Z.refsX tl (.ref C :: bm) = true from hbm) rfl T.noN (fun h₃ tk₃ dx k₃ dn dne hx₃ hn₃ => ?_)
  show wpAny _ _ (execs _ _) _ _ _
  have z : s.heap.objs.size < h₁.objs.size := hn.lt
  exact wpAny_execs_nil (hq h₃ tk₃ dx ⟨fun b o hb e => k₃ b o hb (k b o e), hx₃, Nat.le_of_lt (Nat.lt_of_lt_of_le z dn), dne, hn₃⟩)
theorem low_made (T : Txt K mg c C fI) {v : Value} (X : K.In s.heap) (hlim : s.heap.NoLimit) (hroom : A.depth + 1 < recursionLimit)
    (hq : ∀ h' tk e d, OwnMade s.heap h' e C d v → R (.ok (.ret (.ref e))) { s with heap := h', toks := tk }) :
    codeAny (model prog w) A (.call (.ref C) ⟨[v], []⟩) R s := by
  obtain ⟨nw, tl, htl, nm, q, N, bs, bm, sn, sub, ab, col, dd, k0, k1, k2, k3, k5, hC, hbm⟩ := T.cls
  obtain ⟨hp, g, dr, tk, os⟩ := s
  have k : ∀ b o, hp.get? b = some o → ((hp.push (kdv_tup [v])).push (excO C hp.objs.size)).get? b = some o := fun b o e => Heap.get?_push_of_some _ (Heap.get?_push_of_some _ e)
  have hget : ((hp.push (kdv_tup [v])).push (excO C hp.objs.size)).get? (hp.objs.size + 1) = some (excO C hp.objs.size) := by heap_get
  have hnx : K.lookup (hp.objs.size + 1) = none := by
    cases e : K.lookup (hp.objs.size + 1) with
    | none => rfl
    | some o =>
      have z : hp.get? (hp.objs.size + 1) = some o := X _ _ e
      exact absurd (Nat.lt_of_succ_lt (Heap.lt_size z)) (Nat.lt_irrefl _)
  have EB := ErrX.of_tail htl
  obtain ⟨B, ini, EF⟩ := EB.facts
  refine call_own EF (fun Y => EB.has Y bm hbm) (X _ _ hC) (looks_findIn X T.iC) (fun self => bind_fn X self T.tC) (by rw [sizeLine_eq]; exact (by decide : 1 ≤ 16777216)) ?_
  refine low_init (s := ⟨(hp.push (kdv_tup [v])).push (excO C hp.objs.size), g, dr, tk, os⟩) T (X.keeps k) (hlim.keeps k) hget hnx ?_ fun h' tk' dx ⟨k', hx, dn, dne, hns⟩ => ?_
  · show A.depth + 1 < recursionLimit
    exact hroom
  · have old : ∀ b o, hp.get? b = some o → h'.get? b = some o := fun b o e => k' b o (Nat.ne_of_lt (Nat.lt_succ_of_lt (Heap.lt_size e))) (k b o e)
    have z : hp.objs.size + 1 + 1 ≤ dx := by
      first
        | (simpa only [Heap.size_push] using dn)
        | exact dn
        | (have q := dn; rw [Heap.size_push, Heap.size_push] at q; exact q)
    exact ⟨rfl, hq h' tk' (hp.objs.size + 1) dx ⟨old, Nat.le_succ _, ⟨_, hx⟩, Nat.le_trans (Nat.le_trans (Nat.le_succ _) (Nat.le_succ _)) z, dne, hns⟩⟩
end
end XLg
end PySem
namespace Z
open PySem PySem.Spec PyProof.Rows L2
theorem relO_XLg {v : V} {v' : Value} (r : RelV v v') (f : Str) : RelO (List.lookup f [(("given" : Str), v)]) (if f = "given" then some v' else none) := by
  by_cases hw : f = "given"
  · subst hw
    rw [if_pos rfl]
    have q : List.lookup ("given" : Str) [(("given" : Str), v)] = some v := by simp [List.lookup]
    rw [q]
    exact r
  · rw [if_neg hw]
    have qw : (f == ("given" : Str)) = false := by simpa using hw
    have q2 : List.lookup f [(("given" : Str), v)] = none := by simp [List.lookup, qw]
    rw [q2]
    trivial
end Z
namespace PySem
namespace XLi
open PySem.W PySem.Calls PyProof.Rows PySem.HandSPX
/-! ### the text of __init__ -/
def iA (p1 p2 : Pos) : Arguments := { posonlyargs := [], args := [{ arg := "self", annotation := none, pos := p1 }, { arg := "index", annotation := none, pos := p2 }], vararg := none, kwonlyargs := [], kw_defaults := [], kwarg := none, defaults := [] }
def iB (q1 q2 q3 q4 : Pos) : List Stmt := [.Assign [.Attribute (.Name "self" q1) "index" q2] (.Name "index" q3) q4]
def iS : Scope := { kind := .function, names := [(PySem.Str.ofString "self", .local), (PySem.Str.ofString "index", .local)], isGenerator := false, isCoroutine := false, more := [] }
/-- what the written part says of the class at C and of its __init__ at fI -/
structure Txt (K : Frag) (mg : Str → Option Value) (c : Str) (C fI : Addr) : Prop where
  gC : mg c = some (.ref C)
  cls : ∃ nw tl, Z.tailX nw = some tl ∧ ∃ nm q N bs bm sn sub ab col dd k0 k1 k2 k3 k5, K.lookup C = some (excClassObj nm q C N bs bm true sn sub ab col dd k0 k1 k2 k3 k5 nw) ∧ Z.refsX tl bm = true
  sa : findIn K (.ref C) "__setattr__" = some (some (.builtin "object.__setattr__"))
  noN : findIn K (.ref C) "index" = some none
  iC : findIn K (.ref C) "__init__" = some (some (.ref fI))
  tC : typeIn K (.ref fI) = some (.type "function")
  kC : keepIn K (.ref C) = true
  exC : subIn K (.ref C) (.type "BaseException") = some true
  tyC : typeIn K (.ref C) = some (.type "type")
  fn : ∃ (oc : Value) (od : Option Addr) (dV kV doc pm : Value) (an : Option Addr) (cdv ct : Value) (osl : Array (Option Value)) (p1 p2 q1 q2 q3 q4 : Pos) (ql : Str),
    K.lookup fI = some ⟨oc, od, .func (fnOf "__init__" ql (iA p1 p2) (iB q1 q2 q3 q4) iS dV kV doc pm an cdv ct), osl⟩ ∧ codeIn K cdv ql = true ∧
      ∀ (s : Shared) (x v : Value), K.In s.heap → BindsTo s (fnOf "__init__" ql (iA p1 p2) (iB q1 q2 q3 q4) iS dV kV doc pm an cdv ct) ⟨[x, v], []⟩ [("self", x), ("index", v)]
/-- what __init__ leaves of a fresh exception at x -/
structure InitEnd (h h' : Heap) (x C dx t1 : Addr) (v : Value) : Prop where
  keep : ∀ b o, b ≠ x → h.get? b = some o → h'.get? b = some o
  obj : h'.get? x = some { cls := .ref C, dict := some dx, data := .fields #[.ref t1, .none, .none, .none, .bool false, .none] }
  dbig : h.objs.size ≤ dx
  dne : dx ≠ x
  ns : h'.Ns1 dx (fun y => if y = "index" then some v else none)
structure OwnMade (h h' : Heap) (e C d : Addr) (v : Value) : Prop where
  keep : ∀ b o, h.get? b = some o → h'.get? b = some o
  new : h.objs.size ≤ e
  obj : ∃ t1 : Addr, h'.get? e = some ({ cls := .ref C, dict := some d, data := .fields #[.ref t1, .none, .none, .none, .bool false, .none] } : Obj)
  dbig : h.objs.size ≤ d
  dne : d ≠ e
  ns : h'.Ns1 d (fun y => if y = "index" then some v else none)
section
variable {prog : Program} {w : World} {A : Around} {E : Value → Shared → Prop} {R : Result → Shared → Prop} {s : Shared} {K : Frag} {mg : Str → Option Value} {c : Str} {C fI : Addr}
theorem low_init (T : Txt K mg c C fI) {x t0 : Addr} {v : Value} (X : K.In s.heap) (hlim : s.heap.NoLimit) (hx : s.heap.get? x = some (excO C t0)) (hnx : K.lookup x = none) (hroom : A.depth < recursionLimit)
    (hq : ∀ h' tk dx, InitEnd s.heap h' x C dx t0 v → R (.ok (.ret .none)) { s with heap := h', toks := tk }) :
    codeAny (model prog w) A (.call (.ref fI) ⟨[.ref x, v], []⟩) R s := by
  obtain ⟨oc, od, dV, kV, doc, pm, an, cdv, ct, osl, p1, p2, q1, q2, q3, q4, ql, ho, hcd, bd⟩ := T.fn
  obtain ⟨nw, tl, htl, nm, q, N, bs, bm, sn, sub, ab, col, dd, k0, k1, k2, k3, k5, hC, hbm⟩ := T.cls
  have hcl : clsIn K C = some { name := nm, bases := bs, mro := .ref C :: bm, ns := N, qualname := q, hasDict := true, slotNames := sn, subclasses := sub, abstract := ab, collection := col, hasDel := false } := by unfold clsIn; rw [hC] <;> rfl
  refine Att.call_fn (binds := [("self", .ref x), ("index", v)]) X hlim ho hcd hroom (bd _ _ _ X) (by first | rfl | decide | with_unfolding_all rfl) (fun s₁ IC => ?_) rfl rfl rfl
  obtain ⟨h₁, tk₁, rfl⟩ := IC.toInCall.same
  have k : ∀ b o, s.heap.get? b = some o → h₁.get? b = some o := IC.toInCall.keep
  have hn := IC.toInCall.ns
  have hxL : s.heap.objs.size ≠ x := Nat.ne_of_gt (Heap.lt_size hx)
  have X₁ : K.In h₁ := X.keeps k
  have hx₁ := k _ _ hx
  have ld : ∀ {M : Model} {s : Shared} {name : Str} {scope : Scope} {L a : Addr} {cd : Value} {m : Str → Option Value} {x : Str} {pos : Pos} {v : Value} {Q : Value → Shared → Prop} {A : Around} {E : Value → Shared → Prop}, s.heap.Ns L m → m x = some v → Q v s →
      scope.kind = .function → (envOfC name scope L a cd).kindOf x = some .local → (x == ("__debug__" : Str)) = false → wpAny M A (eval (.Name x pos) (envOfC name scope L a cd)) Q E s := fun hn hv h hk hl hd => wpAny_Name (wpAny_loadName_local hk hl hn hv h) hd
  show wpAny _ _ (execs _ _) _ _ _
  refine wpAny_execs_cons (plainObj_wpAny_Assign_Attribute ?_)
  refine ld (v := v) hn (by first | rfl | with_unfolding_all rfl | kernel_rfl) (ld (v := .ref x) hn (by first | rfl | with_unfolding_all rfl | kernel_rfl) ?_ rfl rfl (by decide)) rfl rfl (by decide)
  refine set_plain X₁ (ox := excO C t0) (od := none) ⟨hx₁, rfl, rfl, trivial⟩ T.sa ?_
  refine ErrX.store_first (ErrX.of_tail htl) X₁ hx₁ hcl (show Z.refsX tl (.ref C :: bm) = true from hbm) rfl T.noN (fun h₃ tk₃ dx k₃ dn dne hx₃ hn₃ => ?_)
  show wpAny _ _ (execs _ _) _ _ _
  have z : s.heap.objs.size < h₁.objs.size := hn.lt
  exact wpAny_execs_nil (hq h₃ tk₃ dx ⟨fun b o hb e => k₃ b o hb (k b o e), hx₃, Nat.le_of_lt (Nat.lt_of_lt_of_le z dn), dne, hn₃⟩)
theorem low_made (T : Txt K mg c C fI) {v : Value} (X : K.In s.heap) (hlim : s.heap.NoLimit) (hroom : A.depth + 1 < recursionLimit)
    (hq : ∀ h' tk e d, OwnMade s.heap h' e C d v → R (.ok (.ret (.ref e))) { s with heap := h', toks := tk }) :
    codeAny (model prog w) A (.call (.ref C) ⟨[v], []⟩) R s := by
  obtain ⟨nw, tl, htl, nm, q, N, bs, bm, sn, sub, ab, col, dd, k0, k1, k2, k3, k5, hC, hbm⟩ := T.cls
  obtain ⟨hp, g, dr, tk, os⟩ := s
  have k : ∀ b o, hp.get? b = some o → ((hp.push (kdv_tup [v])).push (excO C hp.objs.size)).get? b = some o := fun b o e => Heap.get?_push_of_some _ (Heap.get?_push_of_some _ e)
  have hget : ((hp.push (kdv_tup [v])).push (excO C hp.objs.size)).get? (hp.objs.size + 1) = some (excO C hp.objs.size) := by heap_get
  have hnx : K.lookup (hp.objs.size + 1) = none := by
    cases e : K.lookup (hp.objs.size + 1) with
    | none => rfl
    | some o =>
      have z : hp.get? (hp.objs.size + 1) = some o := X _ _ e
      exact absurd (Nat.lt_of_succ_lt (Heap.lt_size z)) (Nat.lt_irrefl _)
  have EB := ErrX.of_tail htl
  obtain ⟨B, ini, EF⟩ := EB.facts
  refine call_own EF (fun Y => EB.has Y bm hbm) (X _ _ hC) (looks_findIn X T.iC) (fun self => bind_fn X self T.tC) (by rw [sizeLine_eq]; exact (by decide : 1 ≤ 16777216)) ?_
  refine low_init (s := ⟨(hp.push (kdv_tup [v])).push (excO C hp.objs.size), g, dr, tk, os⟩) T (X.keeps k) (hlim.keeps k) hget hnx ?_ fun h' tk' dx ⟨k', hx, dn, dne, hns⟩ => ?_
  · show A.depth + 1 < recursionLimit
    exact hroom
  · have old : ∀ b o, hp.get? b = some o → h'.get? b = some o := fun b o e => k' b o (Nat.ne_of_lt (Nat.lt_succ_of_lt (Heap.lt_size e))) (k b o e)
    have z : hp.objs.size + 1 + 1 ≤ dx := by
      first
        | (simpa only [Heap.size_push] using dn)
        | exact dn
        | (have q := dn; rw [Heap.size_push, Heap.size_push] at q; exact q)
    exact ⟨rfl, hq h' tk' (hp.objs.size + 1) dx ⟨old, Nat.le_succ _, ⟨_, hx⟩, Nat.le_trans (Nat.le_trans (Nat.le_succ _) (Nat.le_succ _)) z, dne, hns⟩⟩
end
end XLi
end PySem
namespace Z
open PySem PySem.Spec PyProof.Rows L2
theorem relO_XLi {v : V} {v' : Value} (r : RelV v v') (f : Str) : RelO (List.lookup f [(("index" : Str), v)]) (if f = "index" then some v' else none) := by
  by_cases hw : f = "index"
  · subst hw
    rw [if_pos rfl]
    have q : List.lookup ("index" : Str) [(("index" : Str), v)] = some v := by simp [List.lookup]
    rw [q]
    exact r
  · rw [if_neg hw]
    have qw : (f == ("index" : Str)) = false := by simpa using hw
    have q2 : List.lookup f [(("index" : Str), v)] = none := by simp [List.lookup, qw]
    rw [q2]
    trivial
end Z

set_option Elab.async false
set_option linter.all false
set_option maxRecDepth 100000
set_option maxHeartbeats 4000000
namespace Z
open PySem PySem.Spec PyProof.Rows L2
/-! ### errors as ends: an error class's name, its field -/
structure Ex where
  c : Str
  f : Str
  d : D
inductive RX where | ok (d : D) | er (x : Ex)
inductive FX where | f (f : Fl) | er (x : Ex)
abbrev MEX := EnvD → S → Option (RX × S)
abbrev MDX := List D → S → Option (RX × S)
abbrev MSX := EnvD → S → Option (FX × EnvD × S)
/-- an error in the air: its class, its dict -/
def ExR (K : PySem.W.Frag) (g : G) (H : Hp) (cls : Value) (dx : Option Addr) (x : Ex) : Prop := ∃ dd v, cls = .ref (He.ga K x.c) ∧ dx = some dd ∧ g.F dd = some (.xd [(x.f, v)]) ∧ Rep K g v x.d
def trEX (K : PySem.W.Frag) (W : WX) (m : MEX) : TE := fun σ H Q => ∃ g e s r s', SRel K g H s ∧ EnvRel K g H σ e ∧ m e s = some (r, s') ∧ match r with
  | .ok d => ∀ v g' H', Step K g H g' H' s' → Rep K g' v d → Q v H'
  | .er x => ∀ g' H' cls dx, Step K g H g' H' s' → ExR K g' H' cls dx x → W cls dx σ H'
def trFX (K : PySem.W.Frag) (W : WX) (m : MEX) : TE := fun σ H Q => ∃ g e s r s', SRel K g H s ∧ EnvRel K g H σ e ∧ m e s = some (r, s') ∧ match r with
  | .ok d => ∀ a g' H', Step K g H g' H' s' → H a = none → g'.F a = none → a ∉ g'.ad → OwnAt K g' H' a d → Q (.ref a) H'
  | .er x => ∀ g' H' cls dx, Step K g H g' H' s' → ExR K g' H' cls dx x → W cls dx σ H'
def trSX (K : PySem.W.Frag) (W : WX) (m : MSX) : TS := fun Dn σ H => ∃ g e s f e' s', SRel K g H s ∧ EnvRel K g H σ e ∧ m e s = some (f, e', s') ∧ match f with
  | .f f => ∀ g' H' σ', StepS K g H σ e g' H' σ' e' s' → FlOk K Dn f H g' σ' H'
  | .er x => ∀ g' H' σ' cls dx, StepS K g H σ e g' H' σ' e' s' → ExR K g' H' cls dx x → W cls dx σ' H'
section
variable {K : PySem.W.Frag} {g : G} {H : Hp} {s : Z.S}
theorem Step.add {p : Addr} {u : HO} (R : SRel K g H s) (hp : H p = none) : Step K g H g (upd H p u) s := by
  have hk : ∀ a w, H a = some w → upd H p u a = some w := fun a w q => by rw [upd_ne (ne_of_none q hp)]; exact q
  exact ⟨⟨fun a w q => by
      rcases R.sub a w q with z | ⟨z1, o, z⟩
      · exact .inl (hk _ _ z)
      · exact .inr ⟨z1, o, hk _ _ z⟩, R.len, fun n c q => by
      obtain ⟨a, w1, w2, w3⟩ := R.cell n c q
      exact ⟨a, w1, w2, w3.mono .refl fun u hu => hk _ _ hu⟩, R.inj⟩, .refl, fun _ _ h => .inl h, fun _ h => .inl h, fun a w q _ => hk a w q⟩
theorem trFX.E {W : WX} {m : MEX} {σ : L2.St} {Q : VK} (h : trEX K W m σ H Q) : trFX K W m σ H Q := by
  obtain ⟨g, e, s, r, s', R, E, hm, k⟩ := h
  refine ⟨g, e, s, r, s', R, E, hm, ?_⟩
  cases r with
  | ok d =>
    intro a g' H' st hn hf hc o
    obtain ⟨u, h1, h2, _⟩ := o.frozen hf
    exact k _ _ _ (st.frz hn h1 hf hc) h2
  | er x => exact k
end
section
variable {X : Cx} {W : WX} {a : Expr} {m : MEX}
end
/-! ### statements that may raise -/
def liftS (m : MS) : MSX := fun e s => (m e s).map fun r => (.f r.1, r.2)
def sSeqX (m1 m2 : MSX) : MSX := fun e s => match m1 e s with
  | some (.f .nx, e, s) => m2 e s
  | r => r
def sIfX (t : MT) (m1 m2 : MSX) : MSX := fun e s => match t e s with
  | some (true, s) => m1 e s
  | some (false, s) => m2 e s
  | none => none
def sExprX (m : MEX) : MSX := fun e s => match m e s with
  | some (.ok _, s) => some (.f .nx, e, s)
  | some (.er x, s) => some (.er x, e, s)
  | none => none
def sSetX (i : Nat) (m : MEX) : MSX := fun e s => match m e s with
  | some (.ok d, s) => some (.f .nx, e.set i (.val d), s)
  | some (.er x, s) => some (.er x, e, s)
  | none => none
def sRetX (m : MEX) : MSX := fun e s => match m e s with
  | some (.ok d, s) => some (.f (.ret d), e, s)
  | some (.er x, s) => some (.er x, e, s)
  | none => none
def sRaise (c f : Str) (m : ME) : MSX := fun e s => match m e s with
  | some (d, s) => some (.er ⟨c, f, d⟩, e, s)
  | none => none
section
variable {X : Cx} {W : WX} {st : Stmt} {sts : List Stmt} {m : MS} {m1 m2 : MSX} {me : MEX} {mt : MT} {a : Expr} {pos pos2 p : Pos}
theorem RmZ.dp {k : Nat} (hr : RmZ k X.A) : A0.dp X k := ⟨by have := hr.r.dp; omega⟩
end
/-! ### for, with a body that may raise -/
def forLX (mg : MG) (mb : MSX) : List D → EnvD → S → Option (FX × EnvD × S)
  | [], e, s => some (.f .nx, e, s)
  | d :: ds, e, s => match mg d e s with
    | none => none
    | some (e1, s1) => match mb e1 s1 with
      | none => none
      | some (.f .nx, e2, s2) => forLX mg mb ds e2 s2
      | some (.f .ct, e2, s2) => forLX mg mb ds e2 s2
      | some (.f .bk, e2, s2) => some (.f .nx, e2, s2)
      | some (.f (.ret d), e2, s2) => some (.f (.ret d), e2, s2)
      | some (.f (.rto d), e2, s2) => some (.f (.rto d), e2, s2)
      | some (.er x, e2, s2) => some (.er x, e2, s2)
def sForX (mi : MI) (mg : MG) (mb : MSX) : MSX := fun e s => match mi e s with
  | some (ds, s) => forLX mg mb ds e s
  | none => none
/-- what a whole loop's end wants -/
def EndX (K : PySem.W.Frag) (W : WX) (Dn : Ends) (f : FX) (g : G) (H : Hp) (σ : L2.St) (e e' : EnvD) (s' : S) : Prop := match f with
  | .f f => ∀ g' H' σ', StepS K g H σ e g' H' σ' e' s' → FlOk K Dn f H g' σ' H'
  | .er x => ∀ g' H' σ' cls dx, StepS K g H σ e g' H' σ' e' s' → ExR K g' H' cls dx x → W cls dx σ' H'
section
variable {X : Cx} {tg a : Expr} {mi : MI} {mg : MG} {mb : MSX} {body : List Stmt} {pos : Pos} {W : WX}
end
/-! ### what a def that may raise promises -/
def rMX (K : PySem.W.Frag) (md : MDX) : Sp := fun vs H Q E => ∃ g s ds r s', SRel K g H s ∧ RepL K g vs ds ∧ md ds s = some (r, s') ∧ match r with
  | .ok d => ∀ v g' H', Step K g H g' H' s' → Rep K g' v d → Q v H'
  | .er x => ∀ g' H' cls dx, Step K g H g' H' s' → ExR K g' H' cls dx x → E cls dx H'
def outX (r : Option (FX × EnvD × S)) : Option (RX × S) := match r with
  | some (.f .nx, _, s) => some (.ok .non, s)
  | some (.f (.ret d), _, s) => some (.ok d, s)
  | some (.er x, _, s) => some (.er x, s)
  | _ => none
def mkX (n m : Nat) (b : MSX) : MDX := fun ds s => if ds.length = n then outX (b (startE n m ds) s) else none
section
variable {K : PySem.W.Frag}
end
structure DfC (CX : CXT) (P : Program) (w : World) (K : PySem.W.Frag) (mg : Str → Option Value) (base : Heap) (k : Nat) (d : DefZ) (ps : List Str) (sp : Sp) : Prop where
  ex : ∃ fd, FunD K d.name d.qual d.params d.body d.scope (d.dvs K) [] (d.ad K) fd ∧ FnZ P w K mg base CX k (d.ad K) fd ps sp ∧ Binds K fd ps []
section
variable {CX : CXT} {P : Program} {w : World} {K : PySem.W.Frag} {mg : Str → Option Value} {base : Heap} {d : DefZ} {N ps : List Str} {k n m : Nat} {b : MSX}
end
/-- what a callee lets out is taken -/
def Tk (CX : CXT) (X : Cx) (W : WX) : Prop := ∀ (σ : L2.St) (E : XK) (pins : List (Addr × Obj)) (H : Hp) (s : Shared) (e : Value) (s' : Shared), Inv X pins σ H s → (∀ cls d H', E cls d H' → W cls d σ H') → CX X.stack H s E e s' → X.xe e s'
def CallRX (X : Cx) (W : WX) (f : Value) (r : Sp) : Prop := ∀ (pins : List (Addr × Obj)) (s : Shared) (σ : L2.St) (H : Hp) (xs : List V) (us : List Value) (Q : VK), Inv X pins σ H s → Vals xs us → r xs H Q (fun cls d H' => W cls d σ H') → wpAny (model X.prog X.w) X.A (call f us) (EP X pins σ Q) X.xe s
def mCallX (md : MDX) (ma : MA) : MEX := fun e s => match ma e s with
  | some (ds, s) => md ds s
  | none => none
section
variable {CX : CXT} {X : Cx} {W : WX} {d : DefZ} {ps : List Str} {k j : Nat} {sp : Sp} {x : Str} {p pos apos : Pos} {e o : Expr} {es : List Expr} {t : TA} {md : MDX} {ma : MA} {mo : ME}
theorem DfC.kp (F : DfC CX X.prog X.w X.K X.mg X.base k d ps sp) : PySem.W.keepIn X.K (.ref (d.ad X.K)) = true := let ⟨_, F, _⟩ := F.ex; F.kp
/-- C.m(..), m a classmethod -/
def mCmX (c : Str) (md : MDX) (mo : ME) (ma : MA) : MEX := fun e s => match mo e s with
  | some (.ty c', s) => if c' = c then (match ma e s with
    | some (ds, s) => md (.ty c :: ds) s
    | none => none) else none
  | _ => none
end
/-! ### try: body / except c: suite, the suite raises nothing -/
def sTryO (cs : List Str) (mb : MSX) (ms : MS) : MS := fun e s => match mb e s with
  | some (.f f, e, s) => some (f, e, s)
  | some (.er x, e, s) => if x.c ∈ cs then ms e s else none
  | none => none
/-- the classes cs are of the class c -/
def ExmOk (K : PySem.W.Frag) (cs : List Str) (c : Str) : Prop := ∀ y ∈ cs, PySem.W.exmOne K (.ref (He.ga K y)) (.ref (He.ga K c)) = some true
section
variable {X : Cx} {c : Str} {cs : List Str} {body suite : List Stmt} {b₀ : Stmt} {np pos pos' : Pos} {mb : MSX} {ms : MS}
end
end Z

set_option Elab.async false
set_option linter.all false
set_option maxRecDepth 100000
set_option maxHeartbeats 4000000
namespace Z
open PySem PySem.Spec PyProof.Rows L2
theorem exmB_ok {K : PySem.W.Frag} {cs : List Str} {c : Str} (h : exmB K cs c = true) : ExmOk K cs c := fun y hy => of_decide_eq_true (List.all_eq_true.mp h y hy)
section
variable {K : PySem.W.Frag} {mg : Str → Option Value} {c : Str}
theorem txtG {p1 p2 q1 q2 q3 q4 : Pos} (hm : mg c = some (.ref (He.ga K c))) (h : errB K c "given" = true) (d : DefZ) (F : ∃ fd, FunZ K d fd) (ea : d.at_ = .m c "__init__") (en : d.name = "__init__") (ep : d.params = PySem.XLg.iA p1 p2) (eb : d.body = PySem.XLg.iB q1 q2 q3 q4) (es : d.scope = PySem.XLg.iS) (ed : d.dfl = [])
    (hbi : ∀ fd, FunZ K d fd → Binds K fd ["self", "given"] []) : PySem.XLg.Txt K mg c (He.ga K c) (He.ma K (He.ga K c) "__init__") := by
  obtain ⟨h1, h⟩ := He.ba h
  obtain ⟨h2, h⟩ := He.ba h
  obtain ⟨h3, h⟩ := He.ba h
  obtain ⟨h4, h⟩ := He.ba h
  obtain ⟨h5, h⟩ := He.ba h
  obtain ⟨h6, h⟩ := He.ba h
  obtain ⟨h7, h8⟩ := He.ba h
  obtain ⟨fd, F⟩ := F
  have bd := hbi fd F
  obtain ⟨oc, od, dV, kV, doc, pm, an, cdv, ct, osl, rfl, lk, hcd, _, _⟩ := F.ex
  obtain ⟨at_, name, qual, params, body, scope, dfl⟩ := d
  dsimp only at ea en ep eb es ed
  subst ea en ep eb es ed
  exact ⟨hm, excHB_ok h1, He.eqO_ok h2, He.eqO_ok h3, He.eqO_ok h4, beq_iff_eq.mp h5, h6, of_decide_eq_true h7, beq_iff_eq.mp h8, oc, od, dV, kV, doc, pm, an, cdv, ct, osl, p1, p2, q1, q2, q3, q4, qual, lk, hcd, fun s x v k => by
    have b := bd s [x, v] k rfl
    rw [List.append_nil] at b
    exact b⟩
theorem txtI {p1 p2 q1 q2 q3 q4 : Pos} (hm : mg c = some (.ref (He.ga K c))) (h : errB K c "index" = true) (d : DefZ) (F : ∃ fd, FunZ K d fd) (ea : d.at_ = .m c "__init__") (en : d.name = "__init__") (ep : d.params = PySem.XLi.iA p1 p2) (eb : d.body = PySem.XLi.iB q1 q2 q3 q4) (es : d.scope = PySem.XLi.iS) (ed : d.dfl = [])
    (hbi : ∀ fd, FunZ K d fd → Binds K fd ["self", "index"] []) : PySem.XLi.Txt K mg c (He.ga K c) (He.ma K (He.ga K c) "__init__") := by
  obtain ⟨h1, h⟩ := He.ba h
  obtain ⟨h2, h⟩ := He.ba h
  obtain ⟨h3, h⟩ := He.ba h
  obtain ⟨h4, h⟩ := He.ba h
  obtain ⟨h5, h⟩ := He.ba h
  obtain ⟨h6, h⟩ := He.ba h
  obtain ⟨h7, h8⟩ := He.ba h
  obtain ⟨fd, F⟩ := F
  have bd := hbi fd F
  obtain ⟨oc, od, dV, kV, doc, pm, an, cdv, ct, osl, rfl, lk, hcd, _, _⟩ := F.ex
  obtain ⟨at_, name, qual, params, body, scope, dfl⟩ := d
  dsimp only at ea en ep eb es ed
  subst ea en ep eb es ed
  exact ⟨hm, excHB_ok h1, He.eqO_ok h2, He.eqO_ok h3, He.eqO_ok h4, beq_iff_eq.mp h5, h6, of_decide_eq_true h7, beq_iff_eq.mp h8, oc, od, dV, kV, doc, pm, an, cdv, ct, osl, p1, p2, q1, q2, q3, q4, qual, lk, hcd, fun s x v k => by
    have b := bd s [x, v] k rfl
    rw [List.append_nil] at b
    exact b⟩
end
end Z

set_option Elab.async false
set_option linter.all false
set_option maxRecDepth 100000
set_option maxHeartbeats 4000000
namespace Z
open PySem PySem.Spec PyProof.Rows L2 L2H
/-! ### an __init__ that may raise, self a cell -/
inductive RI where | ok (fs : List (Str × D)) | er (x : Ex)
abbrev MIX := List D → S → Option (RI × S)
def popOX (k : Nat) (c : Str) (r : Option (FX × EnvD × S)) : Option (RI × S) := match r with
  | some (.f f, e, s) => (popO k c (some (f, e, s))).map fun r => (.ok r.1, r.2)
  | some (.er x, _, s) => if (s.take k).all (bel k) = true ∧ bel k x.d = true ∧ k < s.length then some (.er x, s.take k) else none
  | none => none
def mkOX (c : Str) (n m : Nat) (b : MSX) : MIX := fun ds s => if ds.length = n then popOX s.length c (b (startO n m s.length ds) (s ++ [.obj c []])) else none
def EndI (K : PySem.W.Frag) (g : G) (H : Hp) (x : Addr) (c : Str) (s' : S) (Q : VK) (E : XK) (r : RI) : Prop := match r with
  | .ok fs => ∀ g' H', StepN K g H x g' H' s' → SelfAt K g' H' x c fs → Q .non H'
  | .er ex => ∀ g' H' cls dx, StepN K g H x g' H' s' → g'.F x = none → ExR K g' H' cls dx ex → E cls dx H'
def spIX (K : PySem.W.Frag) (c : Str) (mi : MIX) : Sp := fun vs H Q E => ∃ x ws g s ds r s', vs = .ref x :: ws ∧ SelfAt K g H x c [] ∧ SRel K g H s ∧ RepL K g ws ds ∧ mi ds s = some (r, s') ∧ EndI K g H x c s' Q E r
/-- the part of a walk that raises nothing -/
def okS (b : MSX) : MS := fun e s => match b e s with
  | some (.f f, e, s) => some (f, e, s)
  | _ => none
section
variable {K : PySem.W.Frag} {g g' : G} {H H' : Hp} {s s2 : Z.S} {x : Addr} {c : Str} {fs : List (Str × D)} {ds : List D}
end
section
variable {CX : CXT} {P : Program} {w : World} {K : PySem.W.Frag} {mg : Str → Option Value} {base : Heap} {d : DefZ} {N ps : List Str} {k n m : Nat} {b : MSX} {c : Str}
end
/-! ### C(..) that may raise -/
def rFX (K : PySem.W.Frag) (md : MDX) : Sp := fun vs H Q E => ∃ g s ds r s', SRel K g H s ∧ RepL K g vs ds ∧ md ds s = some (r, s') ∧ match r with
  | .ok d => ∀ a g' H', Step K g H g' H' s' → H a = none → g'.F a = none → a ∉ g'.ad → OwnAt K g' H' a d → Q (.ref a) H'
  | .er x => ∀ g' H' cls dx, Step K g H g' H' s' → ExR K g' H' cls dx x → E cls dx H'
def mdMakeX (c : Str) (mi : MIX) : MDX := fun ds s => match mi ds s with
  | some (.ok fs, s') => some (.ok (.obj c fs), s')
  | some (.er x, s') => some (.er x, s')
  | none => none
section
variable {c : Str} {mi : MIX}
end
section
variable {CX : CXT} {X : Cx} {W : WX} {d : DefZ} {ps : List Str} {k j : Nat} {sp : Sp} {c x : Str} {p pos apos : Pos} {e o : Expr} {es : List Expr} {t : TA} {md : MDX} {ma : MA} {mi : MIX}
end
/-! ### arguments that may raise -/
inductive RA where | ok (ds : List D) | er (x : Ex)
abbrev MAX := EnvD → S → Option (RA × S)
def trAX (K : PySem.W.Frag) (W : WX) (m : MAX) : TA := fun σ H Q => ∃ g e s r s', SRel K g H s ∧ EnvRel K g H σ e ∧ m e s = some (r, s') ∧ match r with
  | .ok ds => ∀ vs g' H', Step K g H g' H' s' → RepL K g' vs ds → Q vs H'
  | .er x => ∀ g' H' cls dx, Step K g H g' H' s' → ExR K g' H' cls dx x → W cls dx σ H'
def aLift (m : MA) : MAX := fun e s => (m e s).map fun r => (.ok r.1, r.2)
def aConsX (m : MEX) (ma : MAX) : MAX := fun e s => match m e s with
  | some (.ok d, s) => (match ma e s with
    | some (.ok ds, s) => some (.ok (d :: ds), s)
    | some (.er x, s) => some (.er x, s)
    | none => none)
  | some (.er x, s) => some (.er x, s)
  | none => none
section
variable {X : Cx} {W : WX} {a : Expr} {es : List Expr} {ma : MA} {me : MEX} {max : MAX}
end
/-- cls(e, ..) that may raise, cls a local name that stands for the class c -/
def mClsX (c : Str) (i : Nat) (md : MDX) (ma : MAX) : MEX := fun e s => match e[i]? with
  | some (.val (.ty c')) => if c' = c then (match ma e s with
    | some (.ok ds, s) => md ds s
    | some (.er x, s) => some (.er x, s)
    | none => none) else none
  | _ => none
section
variable {CX : CXT} {X : Cx} {W : WX} {d : DefZ} {ps : List Str} {k j : Nat} {c x : Str} {p pos : Pos} {e : Expr} {es : List Expr} {ma : MAX} {mi : MIX}
end
/-! ### try: body / except c: suite, both may raise -/
def sTryX (cs : List Str) (mb ms : MSX) : MSX := fun e s => match mb e s with
  | some (.er x, e, s) => if x.c ∈ cs then ms e s else none
  | r => r
def liftE (m : ME) : MEX := fun e s => (m e s).map fun r => (.ok r.1, r.2)
section
variable {X : Cx} {W : WX} {c : Str} {cs : List Str} {body suite : List Stmt} {b₀ : Stmt} {np pos pos' : Pos} {mb ms : MSX}
end
end Z

set_option Elab.async false
set_option linter.all false
set_option maxRecDepth 100000
set_option maxHeartbeats 4000000
namespace Z
open PySem PySem.Spec PyProof.Rows L2
/-! ### try: body / except (a, b, c): suite -/
theorem FlyingZ.push {base h : Heap} {l : List Env} {e : Addr} {Z : Obj → Prop} (x : PySem.HandSPX.FlyingZ base l e Z h) (o : Obj) : PySem.HandSPX.FlyingZ base l e Z (h.push o) := by
  obtain ⟨f1, f2, f3, oe, vs, T, oT, ts, he, hz, hd, h1, hnT, hTe, hT, hdT, h3⟩ := x
  exact ⟨fun b o hb => Heap.get?_push_of_some _ (f1 b o hb), f2, f3.of_keeps fun b o hb hnf => ⟨o, Heap.get?_push_of_some _ hb, rfl⟩, oe, vs, T, oT, ts, Heap.get?_push_of_some _ he, hz, hd, h1, hnT, hTe, Heap.get?_push_of_some _ hT, hdT, h3⟩
def wTup (K : PySem.W.Frag) (cs : List Value) (ts : Addr → Value → Option Addr → TS) (D : Ends) : WX := fun cls d σ H =>
  PySem.W.exmAny K cls cs = some true ∧ ∀ a, H a = none → ts a cls d D σ H
section
variable {X : Cx} {x1 x2 x3 : Str} {c1 c2 c3 : Value} {body suite : List Stmt} {b₀ : Stmt} {p1 p2 p3 tp pos pos' : Pos} {kk : Nat} {tb : WX → TS} {ts : Addr → Value → Option Addr → TS}
end
/-- the classes cs are of one of the classes xs -/
theorem exmT_ok {K : PySem.W.Frag} {cs xs : List Str} (h : exmT K cs xs = true) : ∀ y ∈ cs, PySem.W.exmAny K (.ref (He.ga K y)) (xs.map fun x => .ref (He.ga K x)) = some true := fun y hy => of_decide_eq_true (List.all_eq_true.mp h y hy)
section
variable {X : Cx} {x1 x2 x3 : Str} {cs : List Str} {body suite : List Stmt} {b₀ : Stmt} {p1 p2 p3 tp pos pos' : Pos} {kk : Nat} {mb : MSX} {ms : MS}
end
end Z
namespace Z
open PySem PySem.Spec PyProof.Rows L2
/-! ### a method that may raise -/
def mMethX (c m : Str) (md : MDX) (mo : ME) (ma : MA) : MEX := fun e s => match mo e s with
  | some (.obj c' fs, s) => if c' = c ∧ lookF fs m = none then (match ma e s with
    | some (ds, s) => md (.obj c' fs :: ds) s
    | none => none) else none
  | _ => none
section
variable {CX : CXT} {X : Cx} {W : WX} {d : DefZ} {ps : List Str} {k j : Nat} {p pos apos : Pos} {e o : Expr} {es : List Expr} {md : MDX} {ma : MA} {mo : ME}
end
end Z

set_option Elab.async false
set_option linter.all false
set_option maxRecDepth 100000
set_option maxHeartbeats 4000000
namespace Z
open PySem PySem.Spec PyProof.Rows L2
/-! ### a caught error's object is known from now on -/
section
variable {X : Cx} {pins : List (Addr × Obj)} {σ : L2.St} {H : Hp} {s : Shared}
theorem inv_err {a : Addr} {oe : Obj} {vs : Array Value} {c : Str} {dx : Option Addr} (I : Inv X pins σ H s) (ha : s.heap.get? a = some oe) (hc : oe.cls = .ref (He.ga X.K c)) (hd : oe.dict = dx) (hv : oe.data = .fields vs) (na : H a = none) (nL : a ≠ X.env.locals)
    (np : ∀ p ∈ X.pn ++ pins, p.1 ≠ a) (n0 : ∀ o, X.s_0.heap.get? a = some o → X.H_0 a = none → a ∈ X.ex) : Inv X pins σ (upd H a (ErrO X.K c a dx)) s := by
  have at_ : ∀ b u, H b = some u → upd H a (ErrO X.K c a dx) b = some u := fun b u e => by rw [upd_ne (ne_of_none e na)]; exact e
  refine ⟨I.ok, I.os, I.bare, ⟨I.base.keep, I.base.slot, fun b o e n hx => ?_, I.base.there, fun b xs e => at_ _ _ (I.base.tups b xs e), fun b o u e => at_ _ _ (I.base.frzs b o u e), fun b ps e => ?_⟩, I.loc, I.cell, ?_, fun y c0 e => ?_, fun p hp => ?_, fun b u e => ?_, I.len⟩
  · by_cases q : b = a
    · subst q; exact absurd (n0 o e n) hx
    · rw [upd_ne q]; exact I.base.free b o e n hx
  · obtain ⟨more, h⟩ := I.base.tbls b ps e
    exact ⟨more, at_ _ _ h⟩
  · rw [upd_ne nL.symm]; exact I.free
  · have hn := I.freeC y c0 e
    rw [upd_ne fun q => ?_]
    · exact hn
    · subst q
      obtain ⟨v, o, h1, h2⟩ := I.cell y c0 e
      rw [ha] at h1
      cases h1
      rw [hv] at h2
      cases h2
  · obtain ⟨h1, h2, h3, h4, h5⟩ := I.pin p hp
    exact ⟨h1, by rw [upd_ne (np p hp)]; exact h2, h3, h4, h5⟩
  · by_cases q : b = a
    · subst q
      rw [upd_same] at e
      cases e
      exact ⟨⟨oe, vs, ha, hc, hd, hv⟩, ⟨oe, ha⟩, fun h1 h2 ⟨oe, vs, w1, w2, w3, w4⟩ st => ⟨oe, vs, st _ w1, w2, w3, w4⟩⟩
    · rw [upd_ne q] at e
      exact (I.hok b u e).stay (fun _ _ _ w => w) (fun d w => at_ _ _ w) fun d xs w => at_ _ _ w
end
/-! ### try: body / except c as n: .. / except (a, b, c) as n: .. -/
abbrev HdR := (Value → Bool → Prop) × Option Nat × (Addr → Str → Option Addr → TS)
def DsO (oi : Option Nat) (D : Ends) : Ends := match oi with
  | none => D
  | some i => { nx := fun σ H => D.nx (σ.set i none) H, rt := D.rt, bk := fun σ H => D.bk (σ.set i none) H, ct := fun σ H => D.ct (σ.set i none) H }
def SsO (oi : Option Nat) (a : Addr) (σ : L2.St) : L2.St := match oi with
  | none => σ
  | some i => σ.set i (some (.ref a))
def wHs (K : PySem.W.Frag) : List HdR → Ends → WX
  | [], _ => fun _ _ _ _ => False
  | h :: r, D => fun cls d σ H => ∃ c b, cls = .ref (He.ga K c) ∧ h.1 cls b ∧ (b = true → ∀ a, H a = none → h.2.2 a c d (DsO h.2.1 D) (SsO h.2.1 a σ) (upd H a (ErrO K c a d))) ∧ (b = false → wHs K r D cls d σ H)
inductive HdZ (X : Cx) : List ExceptHandler → List HdR → Prop
  | nil : HdZ X [] []
  | one {x : Str} {c : Value} {ts : Addr → Str → Option Addr → TS} {b₀ : Stmt} {suite : List Stmt} {np pos' : Pos} {hds : List ExceptHandler} {l : List HdR} (hc : Names X x c)
      (hsu : ∀ (a : Addr) (k : Str) (d : Option Addr) (pn : List (Addr × Obj)), PSs (X.suite a pn) (b₀ :: suite) (ts a k d)) (r : HdZ X hds l) :
      HdZ X (.ExceptHandler (some (.Name x np)) none (b₀ :: suite) pos' :: hds) ((fun cls b => PySem.W.exmOne X.K cls c = some b, none, ts) :: l)
  | oneAs {x n : Str} {i : Nat} {c : Value} {ts : Addr → Str → Option Addr → TS} {b₀ : Stmt} {suite : List Stmt} {np pos' : Pos} {hds : List ExceptHandler} {l : List HdR} (hc : Names X x c) (hi : X.N[i]? = some n) (hln : X.env.kindOf n = some .local)
      (hsu : ∀ (a : Addr) (k : Str) (d : Option Addr) (pn : List (Addr × Obj)), PSs (X.suite a pn) (b₀ :: suite) (ts a k d)) (r : HdZ X hds l) :
      HdZ X (.ExceptHandler (some (.Name x np)) (some n) (b₀ :: suite) pos' :: hds) ((fun cls b => PySem.W.exmOne X.K cls c = some b, some i, ts) :: l)
  | tupAs {x1 x2 x3 n : Str} {i : Nat} {c1 c2 c3 : Value} {ts : Addr → Str → Option Addr → TS} {b₀ : Stmt} {suite : List Stmt} {p1 p2 p3 tp pos' : Pos} {kk : Nat} {hds : List ExceptHandler} {l : List HdR} (hc1 : Names X x1 c1) (hc2 : Names X x2 c2) (hc3 : Names X x3 c3) (hi : X.N[i]? = some n) (hln : X.env.kindOf n = some .local)
      (hsu : ∀ (a : Addr) (k : Str) (d : Option Addr) (pn : List (Addr × Obj)), PSs (X.suite a pn) (b₀ :: suite) (ts a k d)) (r : HdZ X hds l) :
      HdZ X (.ExceptHandler (some (.Tuple [.Name x1 p1, .Name x2 p2, .Name x3 p3] kk tp)) (some n) (b₀ :: suite) pos' :: hds) ((fun cls b => PySem.W.exmAny X.K cls [c1, c2, c3] = some b ∧ b = true, some i, ts) :: l)
section
variable {X : Cx} {body : List Stmt} {h₀ : ExceptHandler} {hds : List ExceptHandler} {l : List HdR} {pos : Pos} {tb : WX → TS}
end
end Z

set_option Elab.async false
set_option linter.all false
set_option maxRecDepth 100000
set_option maxHeartbeats 4000000
namespace Z
open PySem PySem.Spec PyProof.Rows L2
/-! ### try with clauses that hold their error -/
theorem unset_slot {K : PySem.W.Frag} {g : G} {H : Hp} {σ : L2.St} {e : EnvD} {s : S} (R : SRel K g H s) (E : EnvRel K g H σ e) {i : Nat} : StepS K g H σ e g H (σ.set i none) (e.set i .unb) s := by
  have no : ∀ {j : Nat} {d : Sl}, (e.set i .unb)[j]? = some d → d ≠ .unb → i ≠ j := fun {j d} h hn z => by
    subst z
    have hl : i < e.length := by
      have := (List.getElem?_eq_some_iff.mp h).1
      simpa using this
    rw [List.getElem?_set_self hl] at h
    cases h
    exact hn rfl
  have hE : EnvRel K g H (σ.set i none) (e.set i .unb) := by
    refine ⟨by simp [E.len], fun j d' h => ?_, fun j d' h => ?_, fun j k d1 d2 a h1 h2 h3 h4 => ?_⟩
    · have n := no h (by simp)
      rw [List.getElem?_set_ne n] at h ⊢
      exact E.val j d' h
    · have n := no h (by simp)
      rw [List.getElem?_set_ne n] at h ⊢
      exact E.own j d' h
    · have n1 := no h1 (by simp)
      have n2 := no h2 (by simp)
      rw [List.getElem?_set_ne n1] at h1 h3
      rw [List.getElem?_set_ne n2] at h2 h4
      exact E.apart j k d1 d2 a h1 h2 h3 h4
  refine ⟨R, hE, .refl, fun _ _ h => .inl h, fun _ h => .inl h, fun a u h ha ho => ⟨h, fun ⟨j, d', h1, h2⟩ => ho ?_⟩, fun a u h => ⟨u, h⟩⟩
  have n1 := no h1 (by simp)
  rw [List.getElem?_set_ne n1] at h1 h2
  exact ⟨j, d', h1, h2⟩
def Ex.D (x : Ex) : D := .exc x.c x.f x.d
abbrev HdL := List (List Str × Option Nat × MS)
def hsRun : HdL → Ex → MS
  | [], _ => fun _ _ => none
  | (cs, oi, ms) :: r, x => fun e s => if x.c ∈ cs then (match oi with
    | none => ms e s
    | some i => match ms (e.set i (.val x.D)) s with
      | some (f, e', s') => some (f, e'.set i .unb, s')
      | none => none) else hsRun r x e s
def sTryH (hs : HdL) (mb : MSX) : MS := fun e s => match mb e s with
  | some (.f f, e', s') => some (f, e', s')
  | some (.er x, e', s') => hsRun hs x e' s'
  | none => none
def later (l : HdL) : List Str := l.flatMap (·.1)
/-- errors of the classes cs are not of the class c -/
def exnB (K : PySem.W.Frag) (cs : List Str) (c : Str) : Bool := cs.all fun y => decide (PySem.W.exmOne K (.ref (He.ga K y)) (.ref (He.ga K c)) = some false)
theorem exnB_ok {K : PySem.W.Frag} {cs : List Str} {c : Str} (h : exnB K cs c = true) : ∀ y ∈ cs, PySem.W.exmOne K (.ref (He.ga K y)) (.ref (He.ga K c)) = some false := fun y hy => of_decide_eq_true (List.all_eq_true.mp h y hy)
theorem hsRun_mem {x : Ex} {e : EnvD} {s : S} : ∀ {l : HdL} {r : Fl × EnvD × S}, hsRun l x e s = some r → x.c ∈ later l
  | [], _, h => by cases h
  | (cs, oi, ms) :: l, r, h => by
    unfold hsRun at h
    by_cases hc : x.c ∈ cs
    · exact List.mem_flatMap.mpr ⟨_, List.mem_cons_self, hc⟩
    · rw [if_neg hc] at h
      obtain ⟨y, hy, q⟩ := List.mem_flatMap.mp (hsRun_mem h)
      exact List.mem_flatMap.mpr ⟨y, List.mem_cons_of_mem _ hy, q⟩
inductive HdM (X : Cx) : List ExceptHandler → HdL → Prop
  | nil : HdM X [] []
  | one {x : Str} {cs : List Str} {ms : MS} {b₀ : Stmt} {suite : List Stmt} {np pos' : Pos} {hds : List ExceptHandler} {l : HdL} (hm : X.mg x = some (.ref (He.ga X.K x))) (ht : exmB X.K cs x = true) (hn : exnB X.K (later l) x = true)
      (hsu : ∀ (a : Addr) (pn : List (Addr × Obj)), PSs (X.suite a pn) (b₀ :: suite) (trS X.K ms)) (r : HdM X hds l) (hg : Gl X x := by rfl) (hd : (x == ("__debug__" : Str)) = false := by decide +kernel) :
      HdM X (.ExceptHandler (some (.Name x np)) none (b₀ :: suite) pos' :: hds) ((cs, none, ms) :: l)
  | oneAs {x n : Str} {i : Nat} {cs : List Str} {ms : MS} {b₀ : Stmt} {suite : List Stmt} {np pos' : Pos} {hds : List ExceptHandler} {l : HdL} (hm : X.mg x = some (.ref (He.ga X.K x))) (ht : exmB X.K cs x = true) (hn : exnB X.K (later l) x = true)
      (hsu : ∀ (a : Addr) (pn : List (Addr × Obj)), PSs (X.suite a pn) (b₀ :: suite) (trS X.K ms)) (r : HdM X hds l) (hi : X.N[i]? = some n := by rfl) (hln : X.env.kindOf n = some .local := by rfl) (hg : Gl X x := by rfl) (hd : (x == ("__debug__" : Str)) = false := by decide +kernel) :
      HdM X (.ExceptHandler (some (.Name x np)) (some n) (b₀ :: suite) pos' :: hds) ((cs, some i, ms) :: l)
  | tupAs {x1 x2 x3 n : Str} {i : Nat} {cs : List Str} {ms : MS} {b₀ : Stmt} {suite : List Stmt} {p1 p2 p3 tp pos' : Pos} {kk : Nat} (hm1 : X.mg x1 = some (.ref (He.ga X.K x1))) (hm2 : X.mg x2 = some (.ref (He.ga X.K x2))) (hm3 : X.mg x3 = some (.ref (He.ga X.K x3))) (ht : exmT X.K cs [x1, x2, x3] = true)
      (hsu : ∀ (a : Addr) (pn : List (Addr × Obj)), PSs (X.suite a pn) (b₀ :: suite) (trS X.K ms)) (hi : X.N[i]? = some n := by rfl) (hln : X.env.kindOf n = some .local := by rfl) (hg1 : Gl X x1 := by rfl) (hg2 : Gl X x2 := by rfl) (hg3 : Gl X x3 := by rfl)
      (hd1 : (x1 == ("__debug__" : Str)) = false := by decide +kernel) (hd2 : (x2 == ("__debug__" : Str)) = false := by decide +kernel) (hd3 : (x3 == ("__debug__" : Str)) = false := by decide +kernel) :
      HdM X [.ExceptHandler (some (.Tuple [.Name x1 p1, .Name x2 p2, .Name x3 p3] kk tp)) (some n) (b₀ :: suite) pos'] [(cs, some i, ms)]
section
variable {X : Cx} {g : G} {H : Hp} {σ : L2.St} {e : EnvD} {s : Z.S} {x : Ex} {cls : Value} {dx : Option Addr} {D : Ends} {ms : MS} {f : Fl} {e' : EnvD} {s' : Z.S}
/-- the error's object is known -/
theorem step_err {a : Addr} (R : SRel X.K g H s) (na : H a = none) : Step X.K g H (g.frz a (ErrO X.K x.c a dx)) (upd H a (ErrO X.K x.c a dx)) s := by
  obtain ⟨z1, z2⟩ := free_of R na
  exact (Step.add R na).frz na upd_same z1 z2
theorem rep_err {a : Addr} (R : SRel X.K g H s) (na : H a = none) (ex : ExR X.K g H cls dx x) : Rep X.K (g.frz a (ErrO X.K x.c a dx)) (.ref a) x.D := by
  obtain ⟨z1, z2⟩ := free_of R na
  obtain ⟨dd, v, _, rfl, hd, rv⟩ := ex
  have L : GLe g (g.frz a (ErrO X.K x.c a (some dd))) := .frz z1
  exact .exc (dd := dd) (by show upd g.F a _ a = _; rw [upd_same]) (L.F _ _ hd) (rv.mono L)
theorem suite_none {a : Addr} (R : SRel X.K g H s) (E : EnvRel X.K g H σ e) (na : H a = none) (hq : ms e s = some (f, e', s')) (k : ∀ g' H' σ', StepS X.K g H σ e g' H' σ' e' s' → FlOk X.K D f H g' σ' H') :
    trS X.K ms D σ (upd H a (ErrO X.K x.c a dx)) := by
  have st := step_err (x := x) (dx := dx) R na
  exact ⟨_, e, s, f, e', s', st.rel, E.step st, hq, fun g2 H2 σ2 st2 => (k g2 H2 σ2 ((st.S E).trans st2)).mid fun b => st.noneOf⟩
theorem suite_as {a : Addr} {i : Nat} (R : SRel X.K g H s) (E : EnvRel X.K g H σ e) (na : H a = none) (ex : ExR X.K g H cls dx x) (hq : ms (e.set i (.val x.D)) s = some (f, e', s'))
    (k : ∀ g' H' σ', StepS X.K g H σ e g' H' σ' (e'.set i .unb) s' → FlOk X.K D f H g' σ' H') : trS X.K ms (DsO (some i) D) (σ.set i (some (.ref a))) (upd H a (ErrO X.K x.c a dx)) := by
  have st := step_err (x := x) (dx := dx) R na
  have st2 := set_slot (i := i) st.rel (E.step st) (rep_err R na ex)
  refine ⟨_, _, s, f, e', s', st.rel, st2.env, hq, fun g2 H2 σ2 st3 => ?_⟩
  have all := ((st.S E).trans st2).trans st3
  have un := all.trans (unset_slot (i := i) st3.rel st3.env)
  have kk := (k g2 H2 _ un).mid (H1 := upd H a (ErrO X.K x.c a dx)) fun b => st.noneOf
  cases f with
  | nx => exact kk
  | bk => exact kk
  | ct => exact kk
  | ret d => exact kk
  | rto d => exact kk
theorem HdM.z {hds : List ExceptHandler} {l : HdL} (h : HdM X hds l) : ∃ lz, HdZ X hds lz ∧ ∀ {D : Ends} {g : G} {H : Hp} {σ : L2.St} {e : EnvD} {s : Z.S} {x : Ex} {cls : Value} {dx : Option Addr} {f : Fl} {e' : EnvD} {s' : Z.S}, SRel X.K g H s → EnvRel X.K g H σ e → ExR X.K g H cls dx x → hsRun l x e s = some (f, e', s') →
    (∀ g' H' σ', StepS X.K g H σ e g' H' σ' e' s' → FlOk X.K D f H g' σ' H') → wHs X.K lz D cls dx σ H := by
  induction h with
  | nil => exact ⟨[], .nil, fun _ _ _ h _ => by cases h⟩
  | @one x cs ms b₀ suite np pos' hds l hm ht hn hsu r hg hd ih =>
    obtain ⟨lz, hz, w⟩ := ih
    refine ⟨_, .one (ts := fun _ _ _ => trS X.K ms) ⟨hg, hd, .inl hm⟩ (fun a _ _ pn => hsu a pn) hz, fun {D g H σ e s y cls dx f e' s'} R E ex hq k => ?_⟩
    obtain ⟨dd, v, ec, _, _, _⟩ := id ex
    unfold hsRun at hq
    by_cases hc : y.c ∈ cs
    · rw [if_pos hc] at hq
      exact ⟨y.c, true, ec, by rw [ec]; exact exmB_ok ht y.c hc, fun _ a na => suite_none R E na hq k, fun z => nomatch z⟩
    · rw [if_neg hc] at hq
      exact ⟨y.c, false, ec, by rw [ec]; exact exnB_ok hn y.c (hsRun_mem hq), (fun z => nomatch z), fun _ => w R E ex hq k⟩
  | @oneAs x n i cs ms b₀ suite np pos' hds l hm ht hn hsu r hi hln hg hd ih =>
    obtain ⟨lz, hz, w⟩ := ih
    refine ⟨_, .oneAs (ts := fun _ _ _ => trS X.K ms) ⟨hg, hd, .inl hm⟩ hi hln (fun a _ _ pn => hsu a pn) hz, fun {D g H σ e s y cls dx f e' s'} R E ex hq k => ?_⟩
    obtain ⟨dd, v, ec, _, _, _⟩ := id ex
    unfold hsRun at hq
    by_cases hc : y.c ∈ cs
    · rw [if_pos hc] at hq
      dsimp only at hq
      split at hq
      · rename_i f1 e1 s1 h1
        cases hq
        exact ⟨y.c, true, ec, by rw [ec]; exact exmB_ok ht y.c hc, fun _ a na => suite_as R E na ex h1 k, fun z => nomatch z⟩
      · cases hq
    · rw [if_neg hc] at hq
      exact ⟨y.c, false, ec, by rw [ec]; exact exnB_ok hn y.c (hsRun_mem hq), (fun z => nomatch z), fun _ => w R E ex hq k⟩
  | @tupAs x1 x2 x3 n i cs ms b₀ suite p1 p2 p3 tp pos' kk hm1 hm2 hm3 ht hsu hi hln hg1 hg2 hg3 hd1 hd2 hd3 =>
    refine ⟨_, .tupAs (ts := fun _ _ _ => trS X.K ms) ⟨hg1, hd1, .inl hm1⟩ ⟨hg2, hd2, .inl hm2⟩ ⟨hg3, hd3, .inl hm3⟩ hi hln (fun a _ _ pn => hsu a pn) .nil, fun {D g H σ e s y cls dx f e' s'} R E ex hq k => ?_⟩
    obtain ⟨dd, v, ec, _, _, _⟩ := id ex
    unfold hsRun at hq
    by_cases hc : y.c ∈ cs
    · rw [if_pos hc] at hq
      dsimp only at hq
      split at hq
      · rename_i f1 e1 s1 h1
        cases hq
        exact ⟨y.c, true, ec, ⟨by rw [ec]; exact exmT_ok ht y.c hc, rfl⟩, fun _ a na => suite_as R E na ex h1 k, fun z => nomatch z⟩
      · cases hq
    · rw [if_neg hc] at hq
      cases hq
end
end Z

set_option Elab.async false
set_option linter.all false
set_option maxRecDepth 100000
set_option maxHeartbeats 4000000
namespace Z
open PySem PySem.Spec PyProof.Rows L2 PySem.W
/-! ### a caught error read -/
structure ErrG (K : PySem.W.Frag) (c : Str) : Prop where
  cl : (clsIn K (He.ga K c)).isSome = true
  ga : findIn K (.ref (He.ga K c)) "__getattribute__" = some (some (.builtin "BaseException.__getattribute__"))
  gg : findIn K (.ref (He.ga K c)) "__getattr__" = some none
  ex : subIn K (.ref (He.ga K c)) (.type "BaseException") = some true
  dict : hasDictIn K (He.ga K c) = true
  ha : findIn K (.ref (He.ga K c)) "__class__" = some (some (.builtin "object.__class__"))
  hn : specialIn K (.builtin "object.__class__") "__get__" = some (some (.builtin "getset_descriptor.__get__"))
  tk : takesIn K (.builtin "object.__class__") = some true
  mr : mroIn K (He.ga K c) (.type "object") = some true
theorem errg_ok {K : PySem.W.Frag} {c : Str} (h : errG K c = true) : ErrG K c := by
  obtain ⟨h1, h⟩ := He.ba h
  obtain ⟨h2, h⟩ := He.ba h
  obtain ⟨h3, h⟩ := He.ba h
  obtain ⟨h4, h⟩ := He.ba h
  obtain ⟨h5, h⟩ := He.ba h
  obtain ⟨h6, h⟩ := He.ba h
  obtain ⟨h7, h⟩ := He.ba h
  obtain ⟨h8, h9⟩ := He.ba h
  exact ⟨h1, He.eqO_ok h2, He.eqO_ok h3, of_decide_eq_true h4, h5, He.eqO_ok h6, He.eqO_ok h7, of_decide_eq_true h8, of_decide_eq_true h9⟩
/-- errors of the classes cs are read at f -/
theorem errf_ok {K : PySem.W.Frag} {cs : List Str} {f : Str} (h : errF K cs f = true) : ∀ c ∈ cs, ErrG K c ∧ findIn K (.ref (He.ga K c)) f = some none := fun c hc => by
  obtain ⟨h1, h2⟩ := He.ba (List.all_eq_true.mp h c hc)
  exact ⟨errg_ok h1, He.eqO_ok h2⟩
def mExF (f : Str) (cs : List Str) (me : ME) : ME := fun e s => match me e s with
  | some (.exc c f' d, s1) => if f' = f ∧ c ∈ cs ∧ f' ≠ "" then some (d, s1) else none
  | _ => none
section
variable {X : Cx} {o : Expr} {pos : Pos} {mo : ME} {pins : List (Addr × Obj)} {σ : L2.St} {H : Hp} {s : Shared}
/-- a known error's object as the heap has it -/
theorem err_at {a : Addr} {c : Str} {dx : Option Addr} (I : Inv X pins σ H s) (h : H a = some (ErrO X.K c a dx)) : ∃ oe vs, s.heap.get? a = some oe ∧ oe.cls = .ref (He.ga X.K c) ∧ oe.dict = dx ∧ oe.data = .fields vs := (I.hok a _ h).1
theorem frz_at {K : PySem.W.Frag} {g : G} {H : Hp} {s : Z.S} {a : Addr} {u : HO} (R : SRel K g H s) (h : g.F a = some u) (hu : ∀ kvs, u ≠ .dK kvs) : H a = some u := by
  rcases R.sub _ _ h with z | ⟨⟨kvs, z⟩, _⟩
  · exact z
  · exact absurd z (hu kvs)
theorem d_exf {f : Str} {cs : List Str} (hF : errF X.K cs f = true) (ho : PE X o (trE X.K mo)) (hb : attributeBase o f X.env (eval o X.env) = eval o X.env := by rfl) : PE X (.Attribute o f pos) (trE X.K (mExF f cs mo)) := ⟨fun pins s σ H Q I ⟨g, e, s0, d0, s', R, E, hm, k⟩ => by
  unfold mExF at hm
  split at hm
  · rename_i c f' d s1 h1
    split at hm
    · rename_i hcc
      obtain ⟨rfl, hc, hne⟩ := hcc
      cases hm
      obtain ⟨T, noN⟩ := errf_ok hF c hc
      refine attr_of hb (thn (ho.run pins s σ H (fun x H1 => ∃ a dd v, x = .ref a ∧ H1 a = some (ErrO X.K c a (some dd)) ∧ H1 dd = some (.xd [(f', v)]) ∧ Q v H1) I ⟨g, e, s0, _, _, R, E, h1, fun v g1 H1 st1 rv => ?_⟩) fun u s2 ⟨x, H1, I1, rx, a, dd, v, ex, ea, ed, q⟩ => ?_)
      · cases rv with
        | exc q1 q2 r => exact ⟨_, _, _, rfl, frz_at st1.rel q1 (fun _ z => by unfold ErrO at z; cases z), frz_at st1.rel q2 (fun _ z => by cases z), k _ _ _ st1 r⟩
        | exc0 q1 => exact absurd rfl hne
      · subst ex
        obtain rfl : u = Value.ref a := rx
        obtain ⟨oe, vs, w1, w2, w3, w4⟩ := err_at I1 ea
        obtain ⟨mA, hns, hr⟩ := (show ObjOk X.prog X.w H1 s2.heap dd (.xd [(f', v)]) from I1.hok dd _ ed)
        obtain ⟨od, ho', hl⟩ := lookIn_ns hns
        have l : List.lookup f' [(f', v)] = some v := by simp [List.lookup]
        obtain ⟨u, hu, ru⟩ := RelO.some_of (v := v) (o := mA f') (by rw [← l]; exact hr f')
        have J : InstAt s2.heap a oe (He.ga X.K c) (some od) := ⟨w1, w2, by unfold notCls; rw [w4] <;> rfl, by rw [w3]; exact ho'⟩
        exact HandSPX.exc_get I1.kIn J T.ga T.gg T.ex (findObj_own T.dict noN rfl (by rw [hl, hu])) (handed_of ru) ⟨v, H1, I1.tok _, ru, q⟩
    · cases hm
  · cases hm⟩
/-- isinstance(e, C), e a caught error -/
def isxD (prs : List (Str × Str)) (cs ts : List Str) : MD := fun ds s => match ds with
  | [.exc c _ _, .ty T] => if c ∈ cs ∧ T ∈ ts then some (.bl (decide ((c, T) ∈ prs)), s) else none
  | _ => none
theorem cr_isx {prs : List (Str × Str)} {cs ts : List Str} (hB : isxB X.K prs cs ts = true) : CallR X (.builtin "isinstance") (rM X.K (isxD prs cs ts)) := fun pins s σ H xs us Q I r ⟨g, s0, ds, y, s', R, rl, hmd, kk⟩ => by
  obtain ⟨hG, hT⟩ := He.ba hB
  unfold isxD at hmd
  split at hmd
  · rename_i c f d T
    split at hmd
    · rename_i hcc
      cases hmd
      have G := errg_ok (List.all_eq_true.mp hG c hcc.1)
      have kt := of_decide_eq_true (List.all_eq_true.mp (List.all_eq_true.mp hT c hcc.1) T hcc.2)
      have key : ∀ {a : Addr} {oe : Obj} {od : Option Obj}, InstAt s.heap a oe (He.ga X.K c) od → wpAny (model X.prog X.w) X.A (call (.builtin "isinstance") [.ref a, .ref (He.ga X.K T)]) (EP X pins σ Q) X.xe s := fun {a oe od} J =>
        kia_one (kitx_exc G.cl G.ga G.gg G.ex G.ha G.hn G.tk G.mr) I.kIn J kt (by intro z; cases z) fun tk => ⟨.bl _, H, I.tok tk, rfl, kk _ g H (.refl R) (.bl _)⟩
      cases rl with
      | cons r1 rl =>
        cases rl with
        | cons r2 rl =>
          cases rl
          cases r2
          obtain ⟨u1, u2, rfl, ru1, ru2⟩ := vals2 r
          obtain rfl : u2 = Value.ref (He.ga X.K T) := ru2
          cases r1 with
          | exc q1 q2 rr =>
            obtain rfl : u1 = Value.ref _ := ru1
            obtain ⟨oe, vs, w1, w2, w3, w4⟩ := err_at I (frz_at R q1 (fun _ z => by unfold ErrO at z; cases z))
            obtain ⟨mA, hns, hr⟩ := (show ObjOk X.prog X.w H s.heap _ (.xd _) from I.hok _ _ (frz_at R q2 (fun _ z => by cases z)))
            obtain ⟨od, ho', hl⟩ := lookIn_ns hns
            exact key (oe := oe) (od := some od) ⟨w1, w2, by unfold notCls; rw [w4] <;> rfl, by rw [w3]; exact ho'⟩
          | exc0 q1 =>
            obtain rfl : u1 = Value.ref _ := ru1
            obtain ⟨oe, vs, w1, w2, w3, w4⟩ := err_at I (frz_at R q1 (fun _ z => by unfold ErrO at z; cases z))
            exact key (oe := oe) (od := none) ⟨w1, w2, by unfold notCls; rw [w4] <;> rfl, by rw [w3]; trivial⟩
    · cases hmd
  · cases hmd
end
end Z

set_option Elab.async false
set_option linter.all false
set_option maxRecDepth 100000
set_option maxHeartbeats 4000000
namespace Z
open PySem PySem.Spec PyProof.Rows L2
/-! ### a part that may raise, then what is done with its value -/
def mUnX (f : D → S → Option (D × S)) (me : MEX) : MEX := fun e s => match me e s with
  | some (.ok d, s1) => (f d s1).map fun r => (.ok r.1, r.2)
  | some (.er x, s1) => some (.er x, s1)
  | none => none
def UnM (K : PySem.W.Frag) (r : V → Hp → VK → Prop) (f : D → S → Option (D × S)) : Prop := ∀ (g : G) (H : Hp) (s : S) (x : V) (a d : D) (s' : S) (Q : VK), SRel K g H s → Rep K g x a → f a s = some (d, s') → (∀ v g' H', Step K g H g' H' s' → Rep K g' v d → Q v H') → r x H Q
section
variable {X : Cx} {W : WX} {o a : Expr} {f : Str} {pos pos' : Pos} {me : MEX} {d : DefZ} {ps : List Str} {k j : Nat} {md : MD}
def fldD (c f : Str) : D → S → Option (D × S) := fun d s => match d with
  | .obj c' fs => if c' = c then lft (lookF fs f) s else none
  | _ => none
def propD (c : Str) (md : MD) : D → S → Option (D × S) := fun d s => match d with
  | .obj c' fs => if c' = c then md [.obj c' fs] s else none
  | _ => none
def liftD (f : D → Option D) : D → S → Option (D × S) := fun d s => lft (f d) s
end
/-- calls with arguments that may raise -/
def mCallA (md : MD) (ma : MAX) : MEX := fun e s => match ma e s with
  | some (.ok ds, s1) => (md ds s1).map fun r => (.ok r.1, r.2)
  | some (.er x, s1) => some (.er x, s1)
  | none => none
def mCallAX (md : MDX) (ma : MAX) : MEX := fun e s => match ma e s with
  | some (.ok ds, s1) => md ds s1
  | some (.er x, s1) => some (.er x, s1)
  | none => none
section
variable {CX : CXT} {X : Cx} {W : WX} {d : DefZ} {ps : List Str} {k j : Nat} {x T id : String} {n : Str} {p pos : Pos} {e a : Expr} {es : List Expr} {md : MD} {mx : MDX} {ma : MAX}
end
/-- keywords bound where the fragment holds; a default may stand behind them -/
structure KwD (K : PySem.W.Frag) (fd : FuncData) (ps ks : List Str) (n : Nat) (ix : List Nat) : Prop where
  to : ∀ (s : Shared) (us ws : List Value), K.In s.heap → us.length = n → ws.length = ks.length → BindsTo s fd ⟨us, ks.zip ws⟩ (ps.zip (us ++ pick ix ws))
theorem KwZ.D {K : PySem.W.Frag} {fd : FuncData} {ps ks : List Str} {n : Nat} {ix : List Nat} (h : KwZ fd ps ks n ix) : KwD K fd ps ks n ix := ⟨fun s us ws _ l1 l2 => h.to s us ws l1 l2⟩
/-- keywords -/
def mdPickX (ix : List Nat) (md : MDX) : MDX := fun ds s => md (pick ix ds) s
def CallRKX (X : Cx) (W : WX) (f : Value) (ks : List Str) (r : List V → List V → Hp → VK → XK → Prop) : Prop := ∀ (pins : List (Addr × Obj)) (s : Shared) (σ : L2.St) (H : Hp) (as vs : List V) (bs us : List Value) (Q : VK), Inv X pins σ H s → Vals as bs → Vals vs us → us.length = ks.length → r as vs H Q (fun cls d H' => W cls d σ H') →
  wpAny (model X.prog X.w) X.A (call f bs (ks.zip us)) (EP X pins σ Q) X.xe s
section
variable {CX : CXT} {X : Cx} {W : WX} {d : DefZ} {ps ks : List Str} {k j n : Nat} {ix : List Nat} {sp : Sp} {x m c : Str} {p pos apos kpos : Pos} {e o : Expr} {kws : List Keyword} {t : TA} {md : MDX} {ma : MA} {mo : ME} {mi : MIX}
/-- o.m(k = v, ..) that may raise -/
def mMethKX (c m : Str) (ix : List Nat) (md : MDX) (mo : ME) (ma : MA) : MEX := fun e s => match mo e s with
  | some (.obj c' fs, s) => if c' = c ∧ lookF fs m = none then (match ma e s with
    | some (ds, s) => md (.obj c' fs :: pick ix ds) s
    | none => none) else none
  | _ => none
/-- C.m(k = v, ..) that may raise, m a classmethod -/
def mCmKX (c : Str) (ix : List Nat) (md : MDX) (mo : ME) (ma : MA) : MEX := fun e s => match mo e s with
  | some (.ty c', s) => if c' = c then (match ma e s with
    | some (ds, s) => md (.ty c :: pick ix ds) s
    | none => none) else none
  | _ => none
/-- o[i] that may raise, o an instance of c -/
def mSubX (c : Str) (md : MDX) (ma mb : ME) : MEX := fun e s => match ma e s with
  | some (a, s1) => (match mb e s1 with
    | some (b, s2) => if ofC c a = true then md [a, b] s2 else none
    | none => none)
  | none => none
end
end Z

set_option Elab.async false
set_option linter.all false
set_option maxRecDepth 100000
set_option maxHeartbeats 4000000
namespace PySem
namespace XKw
open PySem.W PySem.Calls PyProof.Rows PySem.HandSPX Builtin Builtin.ObjectAttr
/-! ### type.__call__ on an error class, with keywords -/
section
variable {prog : Program} {w : World} {M : Model} {A : Around} {E : Value → Shared → Prop} {R : Result → Shared → Prop} {h : Heap} {g : Array GenState} {d : Drawn} {t : Nat} {os : OsState} {ql nme : Str} {C N : Addr} {bs bm bmB : List Value} {hdct : Bool} {sn : List Str} {sub : List Value} {ab : Bool} {col : Option Bool} {dd : Option Addr} {k0 k1 k2 k3 k5 : Option Value} {B nw ini : String} {kw : List (Str × Value)}
theorem chk_new (F : ExcBaseFacts B nw ini bmB) (has : ∀ Y : String, bm.contains (.type Y) = bmB.contains (.type Y)) {Q : Unit → Shared → Prop} (oC : h.get? C = some (excClassObj nme ql C N bs bm hdct sn sub ab col dd k0 k1 k2 k3 k5 nw)) (z : Q () ⟨h, g, d, t, os⟩) : wpAny M A (checkBuiltinCall nw ⟨[.ref C], kw⟩) Q E ⟨h, g, d, t, os⟩ := by
  have isB : (Value.ref C :: bm).contains (.type B) = true := by rw [List.contains_cons, has, F.hasB, Bool.or_true]
  have star := F.noStar
  simp only [checkBuiltinCall, F.newKind, F.newSplit, F.newRow]
  repeat (first | refine wpAny_loadPart_at oC ?_ | (refine wpAny_isSubtype_exc oC ?_; rw [isB]) | refine wpAny_staticBase_exc oC ?_ | refine wpAny_madeBy_exc oC ?_ | simp only [bne_self_eq_false, Bool.false_eq_true, if_false] | wp_step)
  all_goals exact z
theorem run_new (F : ExcBaseFacts B nw ini bmB) (has : ∀ Y : String, bm.contains (.type Y) = bmB.contains (.type Y)) (oC : h.get? C = some (excClassObj nme ql C N bs bm hdct sn sub ab col dd k0 k1 k2 k3 k5 nw))
    (z : R (.ok (.ret (.ref (h.objs.size + 1)))) ⟨(h.push (kdv_tup [])).push (excO C h.objs.size), g, d, t, os⟩) : codeAny (model prog w) A (.builtin nw ⟨[.ref C], kw⟩) R ⟨h, g, d, t, os⟩ := by
  have ends := F.ends
  have isB : (Value.ref C :: bm).contains (.type B) = true := by rw [List.contains_cons, has, F.hasB, Bool.or_true]
  have isA : (Value.ref C :: bm).contains (.type "AttributeError") = false := by rw [List.contains_cons, has, F.noAttr]; rfl
  have isN : (Value.ref C :: bm).contains (.type "NameError") = false := by rw [List.contains_cons, has, F.noName]; rfl
  refine codeAny_builtinAt F.entry ?_
  unfold Builtin.«BaseException.__new__»
  refine wpAt_bind ?_
  show wpAt _ _ _ (stack >>= _) _ _ _
  refine wpAt_bind (wpAt_stack fun p below => wpAt_of_wpAny ?_)
  wp_walk
  refine wpAt_of_wpAny ?_
  rw [F.owner]
  repeat (first | with_reducible refine wpAny_madeHere_exc F.canon oC ?_ | with_reducible refine wpAny_loadPart_at oC ?_ | (with_reducible refine wpAny_isSubtype_exc oC ?_; first | rw [isB] | rw [isA] | rw [isN]) | wp_step)
  show R _ _
  rw [Heap.size_push]
  exact z
theorem run_type (F : ExcBaseFacts B nw ini bmB) (has : ∀ Y : String, bm.contains (.type Y) = bmB.contains (.type Y)) {fV : Value} {Q : Fin → Shared → Prop} (oC : h.get? C = some (excClassObj nme ql C N bs bm hdct sn sub ab col dd k0 k1 k2 k3 k5 nw))
    (hi : W.Looks (model prog w) h (typeLookup (.ref C) "__init__") (some fV)) (hb : ∀ self, W.Looks (model prog w) h (bindSpecial fV self) (fV, [self]))
    (z : codeAny (model prog w) A (.call fV ⟨[.ref (h.objs.size + 1)], kw⟩) (fun r s' => match r with | .ok (.ret v) => v = .none ∧ Q (.done (.ret (.ref (h.objs.size + 1)))) s' | .ok _ => False | .error e => E e s') ⟨(h.push (kdv_tup [])).push (excO C h.objs.size), g, d, t, os⟩) :
    wpAny (model prog w) A (Builtin.«type.__call__» ⟨[.ref C], kw⟩) Q E ⟨h, g, d, t, os⟩ := by
  repeat (first | with_reducible refine wpAny_loadPart_at oC ?_ | with_reducible refine wpAny_madeBy_exc oC ?_ | wp_step)
  refine codeAny_call_builtin_code (Code.quiet_builtin _ F.quiet) (chk_new F has oC ?_)
  refine run_new F has oC ?_
  show wpAny _ _ _ _ _ _
  have kp : ∀ b o, h.get? b = some o → ((h.push (kdv_tup [])).push (excO C h.objs.size)).get? b = some o := fun b o e => Heap.get?_push_of_some _ (Heap.get?_push_of_some _ e)
  have oC1 := kp _ _ oC
  have oE : ((h.push (kdv_tup [])).push (excO C h.objs.size)).get? (h.objs.size + 1) = some (excO C h.objs.size) := by heap_get
  have own : (Value.ref C :: bm).contains (.ref C) = true := by simp
  have i1 := hi.keeps kp
  have b1 := (hb (.ref (h.objs.size + 1))).keeps kp
  unfold isInstance
  repeat (first | with_reducible refine wpAny_loadPart_at oE ?_ | (with_reducible refine wpAny_isSubtype_exc oC1 ?_; rw [own]) | wp_step)
  show wpAny _ _ (typeLookup (.ref C) _) _ _ _
  refine i1.at (wpAny_holding (wpAny_bind (b1.at (wpAny_bind (wpAny_call (codeAny_mono z fun r s' y => ?_))))))
  rcases r with e | (v | _ | _ | _) <;> first | exact y | exact y.elim | skip
  obtain ⟨rfl, y⟩ := y
  first
    | exact wpAny_pure (wpAny_pure y)
    | (wp_walk; exact y)
theorem chk_type {Q : Unit → Shared → Prop} (oC : h.get? C = some (excClassObj nme ql C N bs bm hdct sn sub ab col dd k0 k1 k2 k3 k5 nw)) (z : Q () ⟨h, g, d, t, os⟩) : wpAny M A (checkBuiltinCall "type.__call__" ⟨[.ref C], kw⟩) Q E ⟨h, g, d, t, os⟩ := by
  have f3 := tc_sub
  have ty : (⟨h, g, d, t, os⟩ : Shared).TypeIs (.ref C) "type" := ⟨_, oC, rfl⟩
  simp only [checkBuiltinCall, tc_kind, tc_split]
  repeat (any_goals (first | assumption | with_reducible refine wpAny_loadPart_at oC ?_ | with_reducible refine wpAny_onRaise ?_ | with_reducible refine wpAny_map ?_ | wp_step))
theorem run_call (F : ExcBaseFacts B nw ini bmB) (has : ∀ Y : String, bm.contains (.type Y) = bmB.contains (.type Y)) {fV : Value} (oC : h.get? C = some (excClassObj nme ql C N bs bm hdct sn sub ab col dd k0 k1 k2 k3 k5 nw))
    (hi : W.Looks (model prog w) h (typeLookup (.ref C) "__init__") (some fV)) (hb : ∀ self, W.Looks (model prog w) h (bindSpecial fV self) (fV, [self]))
    (z : codeAny (model prog w) (A.under (.builtin "type.__call__" ⟨[.ref C], kw⟩)) (.call fV ⟨[.ref (h.objs.size + 1)], kw⟩) (W.InitBack (h.objs.size + 1) R) ⟨(h.push (kdv_tup [])).push (excO C h.objs.size), g, d, t, os⟩) :
    codeAny (model prog w) A (.call (.ref C) ⟨[], kw⟩) R ⟨h, g, d, t, os⟩ := by
  have f1 := tc_lookup
  have f2 := tc_bind (.ref C)
  have ty : (⟨h, g, d, t, os⟩ : Shared).TypeIs (.ref C) "type" := ⟨_, oC, rfl⟩
  refine codeAny_of_tree ?_
  show wpAny _ _ (callAny (.ref C) _) _ _ _
  repeat (any_goals (first | assumption | with_reducible refine wpAny_loadPart_at oC ?_ | wp_step))
  refine ⟨rfl, ?_⟩
  refine codeAny_call_builtin_at (Code.quiet_builtin _ (by decide +kernel)) entry_typeCall (chk_type oC (run_type F has oC hi hb ?_))
  refine codeAny_mono z fun r s' y => ?_
  rcases r with e | (v | _ | _ | _) <;> exact y
end
end XKw
end PySem
namespace PySem
namespace XLg
open PySem.W PySem.Calls PyProof.Rows PySem.HandSPX
section
variable {prog : Program} {w : World} {A : Around} {E : Value → Shared → Prop} {R : Result → Shared → Prop} {s : Shared} {K : Frag} {mg : Str → Option Value} {c : Str} {C fI : Addr}
/-- its __init__ has no defaults -/
structure TxtW (K : Frag) (fI : Addr) : Prop where
  fn : ∃ (oc : Value) (od : Option Addr) (kV doc pm : Value) (an : Option Addr) (cdv ct : Value) (osl : Array (Option Value)) (p1 p2 q1 q2 q3 q4 : Pos) (ql : Str), K.lookup fI = some ⟨oc, od, .func (fnOf "__init__" ql (iA p1 p2) (iB q1 q2 q3 q4) iS .none kV doc pm an cdv ct), osl⟩ ∧ codeIn K cdv ql = true
theorem kw_init (T : Txt K mg c C fI) (W : TxtW K fI) {x t0 : Addr} {v : Value} (X : K.In s.heap) (lim : s.heap.NoLimit) (ox : s.heap.get? x = some (excO C t0)) (room : A.depth < recursionLimit)
    (hq : ∀ h' tk dx, InitEnd s.heap h' x C dx t0 v → R (.ok (.ret .none)) { s with heap := h', toks := tk }) :
    codeAny (model prog w) A (.call (.ref fI) ⟨[.ref x], [("given", v)]⟩) R s := by
  obtain ⟨oc, od, kV, doc, pm, an, cdv, ct, osl, p1, p2, q1, q2, q3, q4, ql, ho, hcd⟩ := W.fn
  obtain ⟨nw, tl, htl, nm, q, N, bs, bm, sn, sub, ab, col, dd, k0, k1, k2, k3, k5, oC, hbm⟩ := T.cls
  have cl : clsIn K C = some { name := nm, bases := bs, mro := .ref C :: bm, ns := N, qualname := q, hasDict := true, slotNames := sn, subclasses := sub, abstract := ab, collection := col, hasDel := false } := by unfold clsIn; rw [oC] <;> rfl
  refine Att.call_fn (binds := [("self", .ref x), ("given", v)]) X lim ho hcd room (.of_eq (by with_unfolding_all rfl)) (by first | rfl | decide | with_unfolding_all rfl) (fun s₁ IC => ?_) rfl rfl rfl
  obtain ⟨h₁, tk₁, rfl⟩ := IC.toInCall.same
  have k : ∀ b o, s.heap.get? b = some o → h₁.get? b = some o := IC.toInCall.keep
  have hn := IC.toInCall.ns
  have X₁ : K.In h₁ := X.keeps k
  have ox1 := k _ _ ox
  have ld : ∀ {M : Model} {s : Shared} {name : Str} {scope : Scope} {L a : Addr} {cd : Value} {m : Str → Option Value} {x : Str} {pos : Pos} {v : Value} {Q : Value → Shared → Prop} {A : Around} {E : Value → Shared → Prop}, s.heap.Ns L m → m x = some v → Q v s → scope.kind = .function → (envOfC name scope L a cd).kindOf x = some .local → (x == ("__debug__" : Str)) = false → wpAny M A (eval (.Name x pos) (envOfC name scope L a cd)) Q E s := fun hn hv h hk hl hd => wpAny_Name (wpAny_loadName_local hk hl hn hv h) hd
  show wpAny _ _ (execs _ _) _ _ _
  refine wpAny_execs_cons (plainObj_wpAny_Assign_Attribute (ld (v := v) hn (by first | rfl | with_unfolding_all rfl | kernel_rfl) (ld (v := .ref x) hn (by first | rfl | with_unfolding_all rfl | kernel_rfl) ?_ rfl rfl (by decide)) rfl rfl (by decide)))
  refine set_plain X₁ (ox := excO C t0) (od := none) ⟨ox1, rfl, rfl, trivial⟩ T.sa ?_
  refine ErrX.store_first (ErrX.of_tail htl) X₁ ox1 cl (show Z.refsX tl (.ref C :: bm) = true from hbm) rfl T.noN (fun h₃ tk₃ dx k₃ dn dne ox3 hn₃ => ?_)
  show wpAny _ _ (execs _ _) _ _ _
  have z : s.heap.objs.size < h₁.objs.size := hn.lt
  exact wpAny_execs_nil (hq h₃ tk₃ dx ⟨fun b o hb e => k₃ b o hb (k b o e), ox3, Nat.le_of_lt (Nat.lt_of_lt_of_le z dn), dne, hn₃⟩)
theorem kw_made (T : Txt K mg c C fI) (W : TxtW K fI) {v : Value} (X : K.In s.heap) (lim : s.heap.NoLimit) (room : A.depth + 1 < recursionLimit)
    (hq : ∀ h' tk e d, OwnMade s.heap h' e C d v → R (.ok (.ret (.ref e))) { s with heap := h', toks := tk }) :
    codeAny (model prog w) A (.call (.ref C) ⟨[], [("given", v)]⟩) R s := by
  obtain ⟨nw, tl, htl, nm, q, N, bs, bm, sn, sub, ab, col, dd, k0, k1, k2, k3, k5, oC, hbm⟩ := T.cls
  obtain ⟨hp, g, dr, tk, os⟩ := s
  have k : ∀ b o, hp.get? b = some o → ((hp.push (kdv_tup [])).push (excO C hp.objs.size)).get? b = some o := fun b o e => Heap.get?_push_of_some _ (Heap.get?_push_of_some _ e)
  have at1 : ((hp.push (kdv_tup [])).push (excO C hp.objs.size)).get? (hp.objs.size + 1) = some (excO C hp.objs.size) := by heap_get
  have EB := ErrX.of_tail htl
  obtain ⟨B, ini, EF⟩ := EB.facts
  refine XKw.run_call EF (fun Y => EB.has Y bm hbm) (X _ _ oC) (looks_findIn X T.iC) (fun self => bind_fn X self T.tC) ?_
  refine kw_init (s := ⟨(hp.push (kdv_tup [])).push (excO C hp.objs.size), g, dr, tk, os⟩) T W (X.keeps k) (lim.keeps k) at1 ?_ fun h' tk' dx ⟨k', hx, dn, dne, hns⟩ => ?_
  · show A.depth + 1 < recursionLimit
    exact room
  · have old : ∀ b o, hp.get? b = some o → h'.get? b = some o := fun b o e => k' b o (Nat.ne_of_lt (Nat.lt_succ_of_lt (Heap.lt_size e))) (k b o e)
    have z : hp.objs.size + 1 + 1 ≤ dx := by
      first
        | (simpa only [Heap.size_push] using dn)
        | exact dn
        | (have q := dn; rw [Heap.size_push, Heap.size_push] at q; exact q)
    exact ⟨rfl, hq h' tk' (hp.objs.size + 1) dx ⟨old, Nat.le_succ _, ⟨_, hx⟩, Nat.le_trans (Nat.le_trans (Nat.le_succ _) (Nat.le_succ _)) z, dne, hns⟩⟩
end
end XLg
end PySem
namespace PySem
namespace XLi
open PySem.W PySem.Calls PyProof.Rows PySem.HandSPX
section
variable {prog : Program} {w : World} {A : Around} {E : Value → Shared → Prop} {R : Result → Shared → Prop} {s : Shared} {K : Frag} {mg : Str → Option Value} {c : Str} {C fI : Addr}
/-- its __init__ has no defaults -/
structure TxtW (K : Frag) (fI : Addr) : Prop where
  fn : ∃ (oc : Value) (od : Option Addr) (kV doc pm : Value) (an : Option Addr) (cdv ct : Value) (osl : Array (Option Value)) (p1 p2 q1 q2 q3 q4 : Pos) (ql : Str), K.lookup fI = some ⟨oc, od, .func (fnOf "__init__" ql (iA p1 p2) (iB q1 q2 q3 q4) iS .none kV doc pm an cdv ct), osl⟩ ∧ codeIn K cdv ql = true
theorem kw_init (T : Txt K mg c C fI) (W : TxtW K fI) {x t0 : Addr} {v : Value} (X : K.In s.heap) (lim : s.heap.NoLimit) (ox : s.heap.get? x = some (excO C t0)) (room : A.depth < recursionLimit)
    (hq : ∀ h' tk dx, InitEnd s.heap h' x C dx t0 v → R (.ok (.ret .none)) { s with heap := h', toks := tk }) :
    codeAny (model prog w) A (.call (.ref fI) ⟨[.ref x], [("index", v)]⟩) R s := by
  obtain ⟨oc, od, kV, doc, pm, an, cdv, ct, osl, p1, p2, q1, q2, q3, q4, ql, ho, hcd⟩ := W.fn
  obtain ⟨nw, tl, htl, nm, q, N, bs, bm, sn, sub, ab, col, dd, k0, k1, k2, k3, k5, oC, hbm⟩ := T.cls
  have cl : clsIn K C = some { name := nm, bases := bs, mro := .ref C :: bm, ns := N, qualname := q, hasDict := true, slotNames := sn, subclasses := sub, abstract := ab, collection := col, hasDel := false } := by unfold clsIn; rw [oC] <;> rfl
  refine Att.call_fn (binds := [("self", .ref x), ("index", v)]) X lim ho hcd room (.of_eq (by with_unfolding_all rfl)) (by first | rfl | decide | with_unfolding_all rfl) (fun s₁ IC => ?_) rfl rfl rfl
  obtain ⟨h₁, tk₁, rfl⟩ := IC.toInCall.same
  have k : ∀ b o, s.heap.get? b = some o → h₁.get? b = some o := IC.toInCall.keep
  have hn := IC.toInCall.ns
  have X₁ : K.In h₁ := X.keeps k
  have ox1 := k _ _ ox
  have ld : ∀ {M : Model} {s : Shared} {name : Str} {scope : Scope} {L a : Addr} {cd : Value} {m : Str → Option Value} {x : Str} {pos : Pos} {v : Value} {Q : Value → Shared → Prop} {A : Around} {E : Value → Shared → Prop}, s.heap.Ns L m → m x = some v → Q v s → scope.kind = .function → (envOfC name scope L a cd).kindOf x = some .local → (x == ("__debug__" : Str)) = false → wpAny M A (eval (.Name x pos) (envOfC name scope L a cd)) Q E s := fun hn hv h hk hl hd => wpAny_Name (wpAny_loadName_local hk hl hn hv h) hd
  show wpAny _ _ (execs _ _) _ _ _
  refine wpAny_execs_cons (plainObj_wpAny_Assign_Attribute (ld (v := v) hn (by first | rfl | with_unfolding_all rfl | kernel_rfl) (ld (v := .ref x) hn (by first | rfl | with_unfolding_all rfl | kernel_rfl) ?_ rfl rfl (by decide)) rfl rfl (by decide)))
  refine set_plain X₁ (ox := excO C t0) (od := none) ⟨ox1, rfl, rfl, trivial⟩ T.sa ?_
  refine ErrX.store_first (ErrX.of_tail htl) X₁ ox1 cl (show Z.refsX tl (.ref C :: bm) = true from hbm) rfl T.noN (fun h₃ tk₃ dx k₃ dn dne ox3 hn₃ => ?_)
  show wpAny _ _ (execs _ _) _ _ _
  have z : s.heap.objs.size < h₁.objs.size := hn.lt
  exact wpAny_execs_nil (hq h₃ tk₃ dx ⟨fun b o hb e => k₃ b o hb (k b o e), ox3, Nat.le_of_lt (Nat.lt_of_lt_of_le z dn), dne, hn₃⟩)
theorem kw_made (T : Txt K mg c C fI) (W : TxtW K fI) {v : Value} (X : K.In s.heap) (lim : s.heap.NoLimit) (room : A.depth + 1 < recursionLimit)
    (hq : ∀ h' tk e d, OwnMade s.heap h' e C d v → R (.ok (.ret (.ref e))) { s with heap := h', toks := tk }) :
    codeAny (model prog w) A (.call (.ref C) ⟨[], [("index", v)]⟩) R s := by
  obtain ⟨nw, tl, htl, nm, q, N, bs, bm, sn, sub, ab, col, dd, k0, k1, k2, k3, k5, oC, hbm⟩ := T.cls
  obtain ⟨hp, g, dr, tk, os⟩ := s
  have k : ∀ b o, hp.get? b = some o → ((hp.push (kdv_tup [])).push (excO C hp.objs.size)).get? b = some o := fun b o e => Heap.get?_push_of_some _ (Heap.get?_push_of_some _ e)
  have at1 : ((hp.push (kdv_tup [])).push (excO C hp.objs.size)).get? (hp.objs.size + 1) = some (excO C hp.objs.size) := by heap_get
  have EB := ErrX.of_tail htl
  obtain ⟨B, ini, EF⟩ := EB.facts
  refine XKw.run_call EF (fun Y => EB.has Y bm hbm) (X _ _ oC) (looks_findIn X T.iC) (fun self => bind_fn X self T.tC) ?_
  refine kw_init (s := ⟨(hp.push (kdv_tup [])).push (excO C hp.objs.size), g, dr, tk, os⟩) T W (X.keeps k) (lim.keeps k) at1 ?_ fun h' tk' dx ⟨k', hx, dn, dne, hns⟩ => ?_
  · show A.depth + 1 < recursionLimit
    exact room
  · have old : ∀ b o, hp.get? b = some o → h'.get? b = some o := fun b o e => k' b o (Nat.ne_of_lt (Nat.lt_succ_of_lt (Heap.lt_size e))) (k b o e)
    have z : hp.objs.size + 1 + 1 ≤ dx := by
      first
        | (simpa only [Heap.size_push] using dn)
        | exact dn
        | (have q := dn; rw [Heap.size_push, Heap.size_push] at q; exact q)
    exact ⟨rfl, hq h' tk' (hp.objs.size + 1) dx ⟨old, Nat.le_succ _, ⟨_, hx⟩, Nat.le_trans (Nat.le_trans (Nat.le_succ _) (Nat.le_succ _)) z, dne, hns⟩⟩
end
end XLi
end PySem
namespace Z
open PySem PySem.Spec PyProof.Rows L2
/-! ### a made error as a value -/
def mMkE (c f : Str) (m : ME) : ME := fun e s => match m e s with
  | some (d, s1) => some (.exc c f d, s1)
  | none => none
def mMkE0 (c : Str) : ME := fun _ s => some (.exc c "" .non, s)
section
variable {X : Cx} {pins : List (Addr × Obj)} {σ : L2.St} {H : Hp} {s : Shared}
/-- a fresh error's object is known from now on -/
theorem inv_new {h0 : Heap} {a : Addr} {oe : Obj} {vs : Array Value} {c : Str} {dx : Option Addr} (old : Inv X pins σ H s) {H1 : Hp} {s1 : Shared} (I : Inv X pins σ H1 s1) (big : s.heap.objs.size ≤ a) (ha : s1.heap.get? a = some oe) (hc : oe.cls = .ref (He.ga X.K c)) (hd : oe.dict = dx) (hv : oe.data = .fields vs) (na : H1 a = none) : Inv X pins σ (upd H1 a (ErrO X.K c a dx)) s1 := by
  have no : ∀ o, s.heap.get? a ≠ some o := fun o e => Nat.lt_irrefl _ (Nat.lt_of_lt_of_le (Heap.lt_size e) big)
  refine inv_err I ha hc hd hv na (fun z => ?_) (fun p hp z => ?_) fun o e _ => ?_
  · have h1 := old.lt
    rw [← z] at h1
    exact Nat.lt_irrefl _ (Nat.lt_of_lt_of_le h1 big)
  · obtain ⟨q1, _⟩ := old.pin p hp
    rw [z] at q1
    exact no _ q1
  · refine Classical.byContradiction fun hx => ?_
    obtain ⟨o', q⟩ := old.base.there a o e hx
    exact no _ q
theorem rep_new {a dd : Addr} {c f : Str} {v : V} {d : D} {g : G} {S : Z.S} (R : SRel X.K g H S) (r : Rep X.K g v d) (nd : H dd = none) (na : (upd H dd (.xd [(f, v)])) a = none) :
    ∃ g2, Step X.K g H g2 (upd (upd H dd (.xd [(f, v)])) a (ErrO X.K c a (some dd))) S ∧ Rep X.K g2 (.ref a) (.exc c f d) := by
  obtain ⟨z1, z2⟩ := free_of R nd
  have s1 := (Step.add R nd (u := .xd [(f, v)])).frz nd upd_same z1 z2
  obtain ⟨y1, y2⟩ := free_of s1.rel na
  have s2 := (Step.add s1.rel na (u := ErrO X.K c a (some dd))).frz na upd_same y1 y2
  have L1 : GLe g (g.frz dd (.xd [(f, v)])) := .frz z1
  have L2 : GLe (g.frz dd (.xd [(f, v)])) ((g.frz dd (.xd [(f, v)])).frz a (ErrO X.K c a (some dd))) := .frz y1
  refine ⟨_, s1.trans s2, .exc (dd := dd) (v := v) (by show upd (upd g.F dd _) a _ a = _; rw [upd_same]) (L2.F _ _ (by show upd g.F dd _ dd = _; rw [upd_same])) ((r.mono L1).mono L2)⟩
theorem rep_new0 {a : Addr} {c : Str} {g : G} {S : Z.S} (R : SRel X.K g H S) (na : H a = none) : ∃ g2, Step X.K g H g2 (upd H a (ErrO X.K c a none)) S ∧ Rep X.K g2 (.ref a) (.exc c "" .non) := by
  obtain ⟨y1, y2⟩ := free_of R na
  exact ⟨_, (Step.add R na (u := ErrO X.K c a none)).frz na upd_same y1 y2, .exc0 (by show upd g.F a _ a = _; rw [upd_same])⟩
end
end Z
namespace Z
open PySem PySem.Spec PyProof.Rows L2
theorem txt_XLg {K : PySem.W.Frag} {c : Str} {p1 p2 q1 q2 q3 q4 : Pos} (d : DefZ) (F : ∃ fd, FunZ K d fd) (ea : d.at_ = .m c "__init__") (en : d.name = "__init__") (ep : d.params = PySem.XLg.iA p1 p2) (eb : d.body = PySem.XLg.iB q1 q2 q3 q4) (es : d.scope = PySem.XLg.iS) (ed : d.dfl = []) : PySem.XLg.TxtW K (He.ma K (He.ga K c) "__init__") := by
  obtain ⟨fd, F⟩ := F
  obtain ⟨oc, od, dV, kV, doc, pm, an, cdv, ct, osl, rfl, lk, hcd, hD, _⟩ := F.ex
  obtain ⟨at_, name, qual, params, body, scope, dfl⟩ := d
  dsimp only at ea en ep eb es ed
  subst ea en ep eb es ed
  rcases hD with ⟨_, rfl⟩ | ⟨e, _⟩
  · exact ⟨oc, od, kV, doc, pm, an, cdv, ct, osl, p1, p2, q1, q2, q3, q4, qual, lk, hcd⟩
  · exact absurd rfl e
section
variable {X : Cx}
theorem end_XLg {pins : List (Addr × Obj)} {σ : L2.St} {H : Hp} {hp h' : Heap} {gs : Array GenState} {dr : Drawn} {tk tk' : Nat} {os : OsState} {c : Str} {e d : Addr} {v : V} {v' : Value} {dd : D} {g : G} {S : Z.S} {Q : V → Hp → Prop} (I1 : Inv X pins σ H ⟨hp, gs, dr, tk, os⟩) (M : PySem.XLg.OwnMade hp h' e (He.ga X.K c) d v') (rv : RelV v v') (R : SRel X.K g H S) (r : Rep X.K g v dd)
    (k : ∀ w g1 H1, Step X.K g H g1 H1 S → Rep X.K g1 w (.exc c "given" dd) → Q w H1) : EP X pins σ Q (.ref e) ⟨h', gs, dr, tk', os⟩ := by
  obtain ⟨t1, hoe⟩ := M.obj
  have ob : ObjOk X.prog X.w (upd H d (.xd [(("given" : Str), v)])) h' d (.xd [(("given" : Str), v)]) := ⟨_, M.ns, fun f => relO_XLg rv f⟩
  have J : Inv X pins σ (upd H d (.xd [(("given" : Str), v)])) ⟨h', gs, dr, tk', os⟩ := I1.laid (t' := tk') M.keep M.dbig ob
  have nd : H d = none := I1.hok.fresh M.dbig
  have na : (upd H d (.xd [(("given" : Str), v)])) e = none := by rw [upd_ne (Ne.symm M.dne)]; exact I1.hok.fresh M.new
  have J2 := inv_new (h0 := hp) (c := c) I1 J M.new hoe rfl rfl rfl na
  obtain ⟨g2, st, rp⟩ := rep_new (c := c) R r nd na
  exact ⟨.ref e, _, J2, rfl, k _ _ _ st rp⟩
theorem d_mkE_XLg {c : Str} {fI : Addr} {a : Expr} {p pos : Pos} {k : Nat} {mx : ME} (T : PySem.XLg.Txt X.K X.mg c (He.ga X.K c) fI) (hr : RmZ k X.A) (ha : PE X a (trE X.K mx)) (hg : Gl X c := by rfl) (hdb : (c == ("__debug__" : Str)) = false := by decide +kernel)
    (he : starEach (a :: []) X.env = (false, eval a X.env) :: starEach [] X.env := by rfl) (hpl : (backTo pos (starEach [] X.env)).any (·.1) = false := by rfl) : PE X (.Call (.Name c p) [a] [] pos) (trE X.K (mMkE c "given" mx)) := ⟨fun pins s σ H Q I ⟨g, e, s0, d0, s', R, E, hm, kk⟩ => by
  unfold mMkE at hm
  split at hm
  · rename_i d s1 h1
    cases hm
    refine wpAny_Call_Name_kw (ld_glob I hg T.gC ?_ hdb)
    refine PySem.W.callWith_K (h₀ := X.base) I.ok.mod.kin T.kC (thn ((a_cons ha a_nil he).run pos pins s σ H (fun vs H1 => ∃ v g1, vs = [v] ∧ Step X.K g H g1 H1 s' ∧ Rep X.K g1 v d) I ⟨g, e, s0, [d], _, R, E, by unfold aCons aNil bnd; rw [h1], fun vs g1 H1 st1 rv => ?_⟩) fun us t1 hh => ?_) he hpl
    · cases rv with
      | cons r rr =>
        cases rr
        exact ⟨_, _, rfl, st1, r⟩
    · obtain ⟨vs, H1, I1, r1, v, g1, rfl, st1, r⟩ := hh
      refine ⟨I1.kIn, ?_⟩
      cases r1 with
      | cons rv rn =>
        rename_i v' us'
        cases rn
        show wpAny _ _ (call (.ref _) [v']) _ _ _
        have lim := I1.nolimit
        obtain ⟨hp, gs, dr, tk, os⟩ := t1
        exact wpAny_call (PySem.XLg.low_made T I1.kIn lim hr.dp.lt fun h' tk' e d M => end_XLg I1 M rv st1.rel r fun w g2 H2 st2 rp => kk _ _ _ (st1.trans st2) rp)
  · cases hm⟩
theorem d_mkK_XLg {c : Str} {fI : Addr} {a : Expr} {p pos kp : Pos} {k : Nat} {mx : ME} (T : PySem.XLg.Txt X.K X.mg c (He.ga X.K c) fI) (TW : PySem.XLg.TxtW X.K fI) (hr : RmZ k X.A) (ha : PK X [⟨some "given", a, kp⟩] (trA X.K (aCons mx aNil))) (hg : Gl X c := by rfl) (hdb : (c == ("__debug__" : Str)) = false := by decide +kernel)
    (hall : (backToKw pos (keywordEach [⟨some "given", a, kp⟩] X.env)).all (·.1.isSome) = true := by rfl) (hks : (backToKw pos (keywordEach [⟨some "given", a, kp⟩] X.env)).filterMap (·.1) = [("given" : Str)] := by rfl)
    (hpl : ((backTo pos (starEach [] X.env)).any (·.1) || (backToKw pos (keywordEach [⟨some "given", a, kp⟩] X.env)).any (·.1.isNone)) = false := by rfl) : PE X (.Call (.Name c p) [] [⟨some "given", a, kp⟩] pos) (trE X.K (mMkE c "given" mx)) := ⟨fun pins s σ H Q I ⟨g, e, s0, d0, s', R, E, hm, kk⟩ => by
  unfold mMkE at hm
  split at hm
  · rename_i d s1 h1
    cases hm
    refine wpAny_Call_Name_kw (ld_glob I hg T.gC (PySem.W.callWith_KW0 (first := []) (h₀ := X.base) I.ok.mod.kin T.kC hall (thn (ha.run pos pins s σ H (fun vs H1 => ∃ v g1, vs = [v] ∧ Step X.K g H g1 H1 s' ∧ Rep X.K g1 v d) I ⟨g, e, s0, [d], _, R, E, by unfold aCons aNil bnd; rw [h1], fun vs g1 H1 st1 rv => ?_⟩) fun us t1 hh => ?_) hpl) hdb)
    · cases rv with
      | cons r rr =>
        cases rr
        exact ⟨_, _, rfl, st1, r⟩
    · obtain ⟨vs, H1, I1, r1, v, g1, rfl, st1, r⟩ := hh
      refine ⟨I1.kIn, ?_⟩
      cases r1 with
      | cons rv rn =>
        rename_i v' us'
        cases rn
        rw [hks]
        have lim := I1.nolimit
        obtain ⟨hp, gs, dr, tk, os⟩ := t1
        exact wpAny_call (PySem.XLg.kw_made T TW I1.kIn lim hr.dp.lt fun h' tk' e d M => end_XLg I1 M rv st1.rel r fun w g2 H2 st2 rp => kk _ _ _ (st1.trans st2) rp)
  · cases hm⟩
end
end Z
namespace Z
open PySem PySem.Spec PyProof.Rows L2
theorem txt_XLi {K : PySem.W.Frag} {c : Str} {p1 p2 q1 q2 q3 q4 : Pos} (d : DefZ) (F : ∃ fd, FunZ K d fd) (ea : d.at_ = .m c "__init__") (en : d.name = "__init__") (ep : d.params = PySem.XLi.iA p1 p2) (eb : d.body = PySem.XLi.iB q1 q2 q3 q4) (es : d.scope = PySem.XLi.iS) (ed : d.dfl = []) : PySem.XLi.TxtW K (He.ma K (He.ga K c) "__init__") := by
  obtain ⟨fd, F⟩ := F
  obtain ⟨oc, od, dV, kV, doc, pm, an, cdv, ct, osl, rfl, lk, hcd, hD, _⟩ := F.ex
  obtain ⟨at_, name, qual, params, body, scope, dfl⟩ := d
  dsimp only at ea en ep eb es ed
  subst ea en ep eb es ed
  rcases hD with ⟨_, rfl⟩ | ⟨e, _⟩
  · exact ⟨oc, od, kV, doc, pm, an, cdv, ct, osl, p1, p2, q1, q2, q3, q4, qual, lk, hcd⟩
  · exact absurd rfl e
section
variable {X : Cx}
theorem end_XLi {pins : List (Addr × Obj)} {σ : L2.St} {H : Hp} {hp h' : Heap} {gs : Array GenState} {dr : Drawn} {tk tk' : Nat} {os : OsState} {c : Str} {e d : Addr} {v : V} {v' : Value} {dd : D} {g : G} {S : Z.S} {Q : V → Hp → Prop} (I1 : Inv X pins σ H ⟨hp, gs, dr, tk, os⟩) (M : PySem.XLi.OwnMade hp h' e (He.ga X.K c) d v') (rv : RelV v v') (R : SRel X.K g H S) (r : Rep X.K g v dd)
    (k : ∀ w g1 H1, Step X.K g H g1 H1 S → Rep X.K g1 w (.exc c "index" dd) → Q w H1) : EP X pins σ Q (.ref e) ⟨h', gs, dr, tk', os⟩ := by
  obtain ⟨t1, hoe⟩ := M.obj
  have ob : ObjOk X.prog X.w (upd H d (.xd [(("index" : Str), v)])) h' d (.xd [(("index" : Str), v)]) := ⟨_, M.ns, fun f => relO_XLi rv f⟩
  have J : Inv X pins σ (upd H d (.xd [(("index" : Str), v)])) ⟨h', gs, dr, tk', os⟩ := I1.laid (t' := tk') M.keep M.dbig ob
  have nd : H d = none := I1.hok.fresh M.dbig
  have na : (upd H d (.xd [(("index" : Str), v)])) e = none := by rw [upd_ne (Ne.symm M.dne)]; exact I1.hok.fresh M.new
  have J2 := inv_new (h0 := hp) (c := c) I1 J M.new hoe rfl rfl rfl na
  obtain ⟨g2, st, rp⟩ := rep_new (c := c) R r nd na
  exact ⟨.ref e, _, J2, rfl, k _ _ _ st rp⟩
theorem d_mkE_XLi {c : Str} {fI : Addr} {a : Expr} {p pos : Pos} {k : Nat} {mx : ME} (T : PySem.XLi.Txt X.K X.mg c (He.ga X.K c) fI) (hr : RmZ k X.A) (ha : PE X a (trE X.K mx)) (hg : Gl X c := by rfl) (hdb : (c == ("__debug__" : Str)) = false := by decide +kernel)
    (he : starEach (a :: []) X.env = (false, eval a X.env) :: starEach [] X.env := by rfl) (hpl : (backTo pos (starEach [] X.env)).any (·.1) = false := by rfl) : PE X (.Call (.Name c p) [a] [] pos) (trE X.K (mMkE c "index" mx)) := ⟨fun pins s σ H Q I ⟨g, e, s0, d0, s', R, E, hm, kk⟩ => by
  unfold mMkE at hm
  split at hm
  · rename_i d s1 h1
    cases hm
    refine wpAny_Call_Name_kw (ld_glob I hg T.gC ?_ hdb)
    refine PySem.W.callWith_K (h₀ := X.base) I.ok.mod.kin T.kC (thn ((a_cons ha a_nil he).run pos pins s σ H (fun vs H1 => ∃ v g1, vs = [v] ∧ Step X.K g H g1 H1 s' ∧ Rep X.K g1 v d) I ⟨g, e, s0, [d], _, R, E, by unfold aCons aNil bnd; rw [h1], fun vs g1 H1 st1 rv => ?_⟩) fun us t1 hh => ?_) he hpl
    · cases rv with
      | cons r rr =>
        cases rr
        exact ⟨_, _, rfl, st1, r⟩
    · obtain ⟨vs, H1, I1, r1, v, g1, rfl, st1, r⟩ := hh
      refine ⟨I1.kIn, ?_⟩
      cases r1 with
      | cons rv rn =>
        rename_i v' us'
        cases rn
        show wpAny _ _ (call (.ref _) [v']) _ _ _
        have lim := I1.nolimit
        obtain ⟨hp, gs, dr, tk, os⟩ := t1
        exact wpAny_call (PySem.XLi.low_made T I1.kIn lim hr.dp.lt fun h' tk' e d M => end_XLi I1 M rv st1.rel r fun w g2 H2 st2 rp => kk _ _ _ (st1.trans st2) rp)
  · cases hm⟩
theorem d_mkK_XLi {c : Str} {fI : Addr} {a : Expr} {p pos kp : Pos} {k : Nat} {mx : ME} (T : PySem.XLi.Txt X.K X.mg c (He.ga X.K c) fI) (TW : PySem.XLi.TxtW X.K fI) (hr : RmZ k X.A) (ha : PK X [⟨some "index", a, kp⟩] (trA X.K (aCons mx aNil))) (hg : Gl X c := by rfl) (hdb : (c == ("__debug__" : Str)) = false := by decide +kernel)
    (hall : (backToKw pos (keywordEach [⟨some "index", a, kp⟩] X.env)).all (·.1.isSome) = true := by rfl) (hks : (backToKw pos (keywordEach [⟨some "index", a, kp⟩] X.env)).filterMap (·.1) = [("index" : Str)] := by rfl)
    (hpl : ((backTo pos (starEach [] X.env)).any (·.1) || (backToKw pos (keywordEach [⟨some "index", a, kp⟩] X.env)).any (·.1.isNone)) = false := by rfl) : PE X (.Call (.Name c p) [] [⟨some "index", a, kp⟩] pos) (trE X.K (mMkE c "index" mx)) := ⟨fun pins s σ H Q I ⟨g, e, s0, d0, s', R, E, hm, kk⟩ => by
  unfold mMkE at hm
  split at hm
  · rename_i d s1 h1
    cases hm
    refine wpAny_Call_Name_kw (ld_glob I hg T.gC (PySem.W.callWith_KW0 (first := []) (h₀ := X.base) I.ok.mod.kin T.kC hall (thn (ha.run pos pins s σ H (fun vs H1 => ∃ v g1, vs = [v] ∧ Step X.K g H g1 H1 s' ∧ Rep X.K g1 v d) I ⟨g, e, s0, [d], _, R, E, by unfold aCons aNil bnd; rw [h1], fun vs g1 H1 st1 rv => ?_⟩) fun us t1 hh => ?_) hpl) hdb)
    · cases rv with
      | cons r rr =>
        cases rr
        exact ⟨_, _, rfl, st1, r⟩
    · obtain ⟨vs, H1, I1, r1, v, g1, rfl, st1, r⟩ := hh
      refine ⟨I1.kIn, ?_⟩
      cases r1 with
      | cons rv rn =>
        rename_i v' us'
        cases rn
        rw [hks]
        have lim := I1.nolimit
        obtain ⟨hp, gs, dr, tk, os⟩ := t1
        exact wpAny_call (PySem.XLi.kw_made T TW I1.kIn lim hr.dp.lt fun h' tk' e d M => end_XLi I1 M rv st1.rel r fun w g2 H2 st2 rp => kk _ _ _ (st1.trans st2) rp)
  · cases hm⟩
end
end Z
namespace PySem
namespace XL0
open PySem.W PySem.Calls PyProof.Rows PySem.HandSPX
/-! ### errors without a field -/
def iniX (n : String) : String := if n = "ValueError.__new__" then "ValueError.__init__" else if n = "LookupError.__new__" then "LookupError.__init__" else "ArithmeticError.__init__"
theorem of_tailI {nw : String} {tl : List Value} (h : Z.tailX nw = some tl) : ∃ B, ExcBaseFacts B nw (iniX nw) tl := by
  unfold Z.tailX at h
  split at h
  · rename_i e
    subst e
    cases h
    exact ⟨_, F.excBase_ValueError⟩
  · split at h
    · rename_i e
      subst e
      cases h
      exact ⟨_, F.excBase_LookupError⟩
    · split at h
      · rename_i e
        subst e
        cases h
        exact ⟨_, F.excBase_ArithmeticError⟩
      · cases h
def iA (p1 : Pos) : Arguments := { posonlyargs := [], args := [{ arg := "self", annotation := none, pos := p1 }], vararg := none, kwonlyargs := [], kw_defaults := [], kwarg := none, defaults := [] }
def iB (q1 : Pos) : List Stmt := [.Pass q1]
def iS : Scope := { kind := .function, names := [(PySem.Str.ofString "self", .local)], isGenerator := false, isCoroutine := false, more := [] }
structure Cls (K : Frag) (mg : Str → Option Value) (c : Str) (C : Addr) : Prop where
  gC : mg c = some (.ref C)
  cls : ∃ nw tl, Z.tailX nw = some tl ∧ ∃ nm q N bs bm sn sub ab col dd k0 k1 k2 k3 k5, K.lookup C = some (excClassObj nm q C N bs bm true sn sub ab col dd k0 k1 k2 k3 k5 nw) ∧ Z.refsX tl bm = true
  kC : keepIn K (.ref C) = true
/-- its __init__ passes -/
structure TxtN (K : Frag) (mg : Str → Option Value) (c : Str) (C fI : Addr) : Prop extends Cls K mg c C where
  iC : findIn K (.ref C) "__init__" = some (some (.ref fI))
  tC : typeIn K (.ref fI) = some (.type "function")
  fn : ∃ (oc : Value) (od : Option Addr) (kV doc pm : Value) (an : Option Addr) (cdv ct : Value) (osl : Array (Option Value)) (p1 q1 : Pos) (ql : Str), K.lookup fI = some ⟨oc, od, .func (fnOf "__init__" ql (iA p1) (iB q1) iS .none kV doc pm an cdv ct), osl⟩ ∧ codeIn K cdv ql = true
/-- it has no __init__ of its own -/
structure TxtB (K : Frag) (mg : Str → Option Value) (c : Str) (C : Addr) : Prop extends Cls K mg c C where
  iC : ∀ nw tl nm q N bs bm sn sub ab col dd k0 k1 k2 k3 k5, Z.tailX nw = some tl → K.lookup C = some (excClassObj nm q C N bs bm true sn sub ab col dd k0 k1 k2 k3 k5 nw) → findIn K (.ref C) "__init__" = some (some (.builtin (iniX nw)))
structure Made0 (h h' : Heap) (e C : Addr) : Prop where
  keep : ∀ b o, h.get? b = some o → h'.get? b = some o
  new : h.objs.size ≤ e
  obj : ∃ t1 : Addr, h'.get? e = some (excO C t1)
section
variable {prog : Program} {w : World} {A : Around} {R : Result → Shared → Prop} {s : Shared} {K : Frag} {mg : Str → Option Value} {c : Str} {C fI : Addr}
theorem made_pass (T : TxtN K mg c C fI) (X : K.In s.heap) (lim : s.heap.NoLimit) (room : A.depth + 1 < recursionLimit) (hq : ∀ h' tk e, Made0 s.heap h' e C → R (.ok (.ret (.ref e))) { s with heap := h', toks := tk }) : codeAny (model prog w) A (.call (.ref C) ⟨[], []⟩) R s := by
  obtain ⟨nw, tl, htl, nm, q, N, bs, bm, sn, sub, ab, col, dd, k0, k1, k2, k3, k5, oC, hbm⟩ := T.cls
  obtain ⟨oc, od, kV, doc, pm, an, cdv, ct, osl, p1, q1, ql, ho, hcd⟩ := T.fn
  obtain ⟨hp, g, dr, tk, os⟩ := s
  have k : ∀ b o, hp.get? b = some o → ((hp.push (kdv_tup [])).push (excO C hp.objs.size)).get? b = some o := fun b o e => Heap.get?_push_of_some _ (Heap.get?_push_of_some _ e)
  have at1 : ((hp.push (kdv_tup [])).push (excO C hp.objs.size)).get? (hp.objs.size + 1) = some (excO C hp.objs.size) := by heap_get
  obtain ⟨B, EF⟩ := of_tailI htl
  refine XKw.run_call EF (fun Y => (ErrX.of_tail htl).has Y bm hbm) (X _ _ oC) (looks_findIn X T.iC) (fun self => bind_fn X self T.tC) ?_
  refine Att.call_fn (s := ⟨(hp.push (kdv_tup [])).push (excO C hp.objs.size), g, dr, tk, os⟩) (binds := [("self", .ref (hp.objs.size + 1))]) (X.keeps k) (lim.keeps k) ho hcd ?_ (.of_eq (by with_unfolding_all rfl)) (by first | rfl | decide | with_unfolding_all rfl) (fun s₁ IC => ?_) rfl rfl rfl
  · show A.depth + 1 < recursionLimit
    exact room
  · obtain ⟨h₁, tk₁, rfl⟩ := IC.toInCall.same
    have kp : ∀ b o, ((hp.push (kdv_tup [])).push (excO C hp.objs.size)).get? b = some o → h₁.get? b = some o := IC.toInCall.keep
    show wpAny _ _ (execs _ _) _ _ _
    refine wpAny_execs_cons (wpAny_Pass ?_)
    show wpAny _ _ (execs _ _) _ _ _
    exact wpAny_execs_nil ⟨rfl, hq h₁ tk₁ (hp.objs.size + 1) ⟨fun b o e => kp b o (k b o e), Nat.le_succ _, _, kp _ _ at1⟩⟩
theorem made_bare (T : TxtB K mg c C) (X : K.In s.heap) (hq : ∀ h' tk e, Made0 s.heap h' e C → R (.ok (.ret (.ref e))) { s with heap := h', toks := tk }) : codeAny (model prog w) A (.call (.ref C) ⟨[], []⟩) R s := by
  obtain ⟨nw, tl, htl, nm, q, N, bs, bm, sn, sub, ab, col, dd, k0, k1, k2, k3, k5, oC, hbm⟩ := T.cls
  have ic := T.iC _ _ _ _ _ _ _ _ _ _ _ _ _ _ _ _ _ htl oC
  obtain ⟨hp, g, dr, tk, os⟩ := s
  have k : ∀ b o, hp.get? b = some o → ((hp.push (kdv_tup [])).push (excO C hp.objs.size)).get? b = some o := fun b o e => Heap.get?_push_of_some _ (Heap.get?_push_of_some _ e)
  have at1 : ((hp.push (kdv_tup [])).push (excO C hp.objs.size)).get? (hp.objs.size + 1) = some (excO C hp.objs.size) := by heap_get
  obtain ⟨B, EF⟩ := of_tailI htl
  have has : ∀ Y : String, bm.contains (.type Y) = tl.contains (.type Y) := fun Y => (ErrX.of_tail htl).has Y bm hbm
  refine XKw.run_call EF has (X _ _ oC) (looks_findIn X ic) (fun self => by rw [EF.init.bind]; exact .now) ?_
  refine init_base EF has (k _ _ (X _ _ oC)) at1 (by rw [sizeLine_eq]; exact Nat.zero_le _) fun h' t1 keep there => ?_
  refine ⟨rfl, hq h' tk (hp.objs.size + 1) ⟨fun b o e => keep b o (Nat.ne_of_lt (Nat.lt_succ_of_lt (Heap.lt_size e))) (k b o e), Nat.le_succ _, t1, there⟩⟩
end
end XL0
end PySem
namespace Z
open PySem PySem.Spec PyProof.Rows L2
section
variable {X : Cx}
theorem end0 {pins : List (Addr × Obj)} {σ : L2.St} {H : Hp} {hp h' : Heap} {gs : Array GenState} {dr : Drawn} {tk tk' : Nat} {os : OsState} {c : Str} {e : Addr} {g : G} {S : Z.S} {Q : V → Hp → Prop} (I1 : Inv X pins σ H ⟨hp, gs, dr, tk, os⟩) (M : PySem.XL0.Made0 hp h' e (He.ga X.K c)) (R : SRel X.K g H S)
    (k : ∀ w g1 H1, Step X.K g H g1 H1 S → Rep X.K g1 w (.exc c "" .non) → Q w H1) : EP X pins σ Q (.ref e) ⟨h', gs, dr, tk', os⟩ := by
  obtain ⟨t1, hoe⟩ := M.obj
  have J : Inv X pins σ H ⟨h', gs, dr, tk', os⟩ := I1.kept (t' := tk') M.keep
  have na : H e = none := I1.hok.fresh M.new
  have J2 := inv_new (h0 := hp) (c := c) I1 J M.new hoe rfl rfl rfl na
  obtain ⟨g2, st, rp⟩ := rep_new0 (c := c) R na
  exact ⟨.ref e, _, J2, rfl, k _ _ _ st rp⟩
theorem d_mkN {c : Str} {fI : Addr} {p pos : Pos} {k : Nat} (T : PySem.XL0.TxtN X.K X.mg c (He.ga X.K c) fI) (hr : RmZ k X.A) (hg : Gl X c := by rfl) (hdb : (c == ("__debug__" : Str)) = false := by decide +kernel) : PE X (.Call (.Name c p) [] [] pos) (trE X.K (mMkE0 c)) := ⟨fun pins s σ H Q I ⟨g, e, s0, d0, s', R, E, hm, kk⟩ => by
  cases hm
  refine wpAny_Call_Name_kw (ld_glob I hg T.gC (PySem.W.callWith_K0 I.kIn T.kC ?_) hdb)
  have lim := I.nolimit
  obtain ⟨hp, gs, dr, tk, os⟩ := s
  exact wpAny_call (PySem.XL0.made_pass T I.kIn lim hr.dp.lt fun h' tk' e M => end0 I M R kk)⟩
theorem d_mkB {c : Str} {p pos : Pos} (T : PySem.XL0.TxtB X.K X.mg c (He.ga X.K c)) (hg : Gl X c := by rfl) (hdb : (c == ("__debug__" : Str)) = false := by decide +kernel) : PE X (.Call (.Name c p) [] [] pos) (trE X.K (mMkE0 c)) := ⟨fun pins s σ H Q I ⟨g, e, s0, d0, s', R, E, hm, kk⟩ => by
  cases hm
  refine wpAny_Call_Name_kw (ld_glob I hg T.gC (PySem.W.callWith_K0 I.kIn T.kC ?_) hdb)
  obtain ⟨hp, gs, dr, tk, os⟩ := s
  exact wpAny_call (PySem.XL0.made_bare T I.kIn fun h' tk' e M => end0 I M R kk)⟩
end
section
variable {K : PySem.W.Frag} {mg : Str → Option Value} {c : Str}
theorem txtN {p1 q1 : Pos} (hm : mg c = some (.ref (He.ga K c))) (h : errN K c = true) (d : DefZ) (F : ∃ fd, FunZ K d fd) (ea : d.at_ = .m c "__init__") (en : d.name = "__init__") (ep : d.params = PySem.XL0.iA p1) (eb : d.body = PySem.XL0.iB q1) (es : d.scope = PySem.XL0.iS) (ed : d.dfl = []) : PySem.XL0.TxtN K mg c (He.ga K c) (He.ma K (He.ga K c) "__init__") := by
  obtain ⟨h1, h⟩ := He.ba h
  obtain ⟨h2, h⟩ := He.ba h
  obtain ⟨h3, h4⟩ := He.ba h
  obtain ⟨fd, F⟩ := F
  obtain ⟨oc, od, dV, kV, doc, pm, an, cdv, ct, osl, rfl, lk, hcd, hD, _⟩ := F.ex
  obtain ⟨at_, name, qual, params, body, scope, dfl⟩ := d
  dsimp only at ea en ep eb es ed
  subst ea en ep eb es ed
  rcases hD with ⟨_, rfl⟩ | ⟨e, _⟩
  · exact ⟨⟨hm, excHB_ok h1, h4⟩, He.eqO_ok h2, beq_iff_eq.mp h3, oc, od, kV, doc, pm, an, cdv, ct, osl, p1, q1, qual, lk, hcd⟩
  · exact absurd rfl e
theorem txtB (hm : mg c = some (.ref (He.ga K c))) (h : errB0 K c = true) : PySem.XL0.TxtB K mg c (He.ga K c) := by
  obtain ⟨h1, h⟩ := He.ba h
  obtain ⟨h2, h3⟩ := He.ba h
  refine ⟨⟨hm, excHB_ok h1, h3⟩, fun nw tl nm q N bs bm sn sub ab col dd k0 k1 k2 k3 k5 ht ho => ?_⟩
  unfold nwB at h2
  rw [ho] at h2
  dsimp only [excClassObj] at h2
  have h2 := He.eqO_ok h2
  rw [h2]
  rfl
end
end Z
namespace Z
open PySem PySem.Spec PyProof.Rows L2 PySem.W
theorem bt_ValueError : bootBuiltins "ValueError" = some (.type "ValueError") := by decide +kernel
theorem bt_LookupError : bootBuiltins "LookupError" = some (.type "LookupError") := by decide +kernel
theorem bt_ArithmeticError : bootBuiltins "ArithmeticError" = some (.type "ArithmeticError") := by decide +kernel
/-- isinstance(e, C), C a built-in class -/
def isyD (prs : List (Str × String)) (cs : List Str) (ts : List String) : MD := fun ds s => match ds with
  | [.exc c _ _, .opq (.ty T)] => if c ∈ cs ∧ T ∈ ts then some (.bl (decide ((c, T) ∈ prs)), s) else none
  | _ => none
section
variable {X : Cx}
theorem cr_isy {prs : List (Str × String)} {cs : List Str} {ts : List String} (hB : isyB X.K prs cs ts = true) : CallR X (.builtin "isinstance") (rM X.K (isyD prs cs ts)) := fun pins s σ H xs us Q I r ⟨g, s0, ds, y, s', R, rl, hmd, kk⟩ => by
  obtain ⟨hG, hT⟩ := He.ba hB
  unfold isyD at hmd
  split at hmd
  · rename_i c f d T
    split at hmd
    · rename_i hcc
      cases hmd
      have G := errg_ok (List.all_eq_true.mp hG c hcc.1)
      have kt := of_decide_eq_true (List.all_eq_true.mp (List.all_eq_true.mp hT c hcc.1) T hcc.2)
      have key : ∀ {a : Addr} {oe : Obj} {od : Option Obj}, InstAt s.heap a oe (He.ga X.K c) od → wpAny (model X.prog X.w) X.A (call (.builtin "isinstance") [.ref a, .type T]) (EP X pins σ Q) X.xe s := fun {a oe od} J =>
        kia_one (kitx_exc G.cl G.ga G.gg G.ex G.ha G.hn G.tk G.mr) I.kIn J kt (by intro z; cases z) fun tk => ⟨.bl _, H, I.tok tk, rfl, kk _ g H (.refl R) (.bl _)⟩
      cases rl with
      | cons r1 rl =>
        cases rl with
        | cons r2 rl =>
          cases rl
          cases r2
          obtain ⟨u1, u2, rfl, ru1, ru2⟩ := vals2 r
          obtain rfl : u2 = Value.type T := ru2
          cases r1 with
          | exc q1 q2 rr =>
            obtain rfl : u1 = Value.ref _ := ru1
            obtain ⟨oe, vs, w1, w2, w3, w4⟩ := err_at I (frz_at R q1 (fun _ z => by unfold ErrO at z; cases z))
            obtain ⟨mA, hns, hr⟩ := (show ObjOk X.prog X.w H s.heap _ (.xd _) from I.hok _ _ (frz_at R q2 (fun _ z => by cases z)))
            obtain ⟨od, ho', hl⟩ := lookIn_ns hns
            exact key (oe := oe) (od := some od) ⟨w1, w2, by unfold notCls; rw [w4] <;> rfl, by rw [w3]; exact ho'⟩
          | exc0 q1 =>
            obtain rfl : u1 = Value.ref _ := ru1
            obtain ⟨oe, vs, w1, w2, w3, w4⟩ := err_at I (frz_at R q1 (fun _ z => by unfold ErrO at z; cases z))
            exact key (oe := oe) (od := none) ⟨w1, w2, by unfold notCls; rw [w4] <;> rfl, by rw [w3]; trivial⟩
    · cases hmd
  · cases hmd
end
end Z

set_option Elab.async false
set_option linter.all false
set_option maxRecDepth 100000
set_option maxHeartbeats 4000000
namespace Z
open PySem PySem.Spec PyProof.Rows L2
/-! ### in a suite -/
/-! ### a list whose elements may raise -/
def mLstX (ma : MAX) : MEX := fun e s => match ma e s with
  | some (.ok ds, s) => if ds.length ≤ sizeLine then some (.ok (.lst ds), s) else none
  | some (.er x, s) => some (.er x, s)
  | none => none
end Z

set_option Elab.async false
set_option linter.all false
set_option maxRecDepth 100000
set_option maxHeartbeats 4000000
namespace SrtK
open PySem PyProof.Rows PySem.W Calls
section
variable {prog : Program} {w : World} {A : Around} {E : Value → Shared → Prop} {s : Shared}
end
end SrtK
namespace Z
open PySem PySem.Spec PyProof.Rows L2 PySem.W
section
variable {X : Cx} {pins : List (Addr × Obj)} {σ : L2.St} {H : Hp} {s : Shared} {g : G} {S : Z.S}
end
end Z
namespace Z
open PySem PySem.Spec PyProof.Rows L2 PySem.W
/-- the items of what is sorted -/
def itemsK : D → Option (List D)
  | .lst ds => some ds
  | .dic kvs => some (keysVD kvs)
  | _ => none
def leK (kf : D → Option PyData) : D → D → Bool := dataLe false fun d => (kf d).getD .none
/-- sorted(e, key=lambda x: ..): kf, an item's key by the slots -/
def mSortK (kf : EnvD → D → Option PyData) (ma : ME) : ME := fun e s => match ma e s with
  | some (d, s1) => match itemsK d with
    | some ds => if ds.length ≤ sizeLine ∧ ds.all (fun d => (kf e d).isSome) = true then some (.lst (ds.mergeSort (leK (kf e))), s1) else none
    | none => none
  | none => none
/-- the lambda's body gives the key -/
structure LamB (X : Cx) (x : Str) (params : Arguments) (body : Expr) (scope : Scope) (kf : EnvD → D → Option PyData) : Prop where
  defs : defaultsOf params X.env = ([], [])
  free : X.Ok → ∀ y ∈ scope.names, y.2 = .free → ∃ c, X.env.cells.lookup y.1 = some c
  bind : ∀ (q : Str) (cl : List (Str × Addr)) (pm cdv ctv v : Value), bindArgs (kla_fn "<lambda>" q params body scope cl pm cdv ctv) ⟨[v], []⟩ = pure [(x, v)]
  par : scope.names.lookup x = some .local
  nc : ∀ y ∈ scope.names, y.2 ≠ .cell
  kind : scope.kind = .function
  co : scope.isCoroutine = false
  gen : scope.isGenerator = false
  key : ∀ e d k, kf e d = some k → ∃ a r, k = .tuple (a :: r) ∧ k.depth ≤ 2
  like : ∀ e d d' k k', kf e d = some k → kf e d' = some k' → alike k k' = true
  run : ∀ {pins : List (Addr × Obj)} {σ : L2.St} {H : Hp} {s : Shared} {g : G} {S : Z.S} {e : EnvD} {d : D} {k : PyData} {v : V} {u : Value}, Inv X pins σ H s → SRel X.K g H S → EnvRel X.K g H σ e → Rep X.K g v d → RelV v u → kf e d = some k →
    ∀ (A : Around) (h₁ : Heap) (tk : Nat) (q : Str) (L f c' : Addr), A.units + 64 < cLine → (∀ b o, s.heap.get? b = some o → h₁.get? b = some o) → h₁.Ns L (fun y => ([(x, u)] : List (Str × Value)).reverse.lookup y) →
      wpAny (model X.prog X.w) A (eval body (envX q scope L f (.ref c') (cloFrom X.env.cells scope.names []))) (KeyPure k { s with heap := h₁, toks := tk }) (fun _ _ => False) { s with heap := h₁, toks := tk }
section
variable {X : Cx} {pins : List (Addr × Obj)} {σ : L2.St} {H : Hp} {s : Shared} {g : G} {S : Z.S}
end
end Z
namespace Z
open PySem PySem.Spec PyProof.Rows L2 PySem.W
/-- lambda x: (0 - d[x], x), d captured -/
def kfDic (j : Nat) : EnvD → D → Option PyData := fun e d => match e[j]?, d with
  | some (.val (.dic kvs)), .str z => match lookD kvs (.inr z) with
    | some (.int n) => some (.tuple [.int (0 - n), .str z])
    | _ => none
  | _, _ => none
def intsK : List D → Option (List PyData)
  | [] => some []
  | .int i :: r => (intsK r).map fun l => .int i :: l
  | _ :: _ => none
/-- lambda x: (len(x), x), x a tuple of ints -/
def kfLen : EnvD → D → Option PyData := fun _ d => match d with
  | .tup ds => (intsK ds).map fun l => .tuple [.int (l.length : Int), .tuple l]
  | _ => none
section
variable {X : Cx}
end
end Z

set_option Elab.async false
set_option linter.all false
set_option maxRecDepth 100000
set_option maxHeartbeats 4000000
namespace Z
open PySem PySem.Spec PyProof.Rows L2
/-! ### defs that make lambdas: their code object is known -/
section
variable {P : Program} {w : World} {K : PySem.W.Frag} {mg : Str → Option Value} {base : Heap} {d : DefZ} {N ps : List Str} {n m k : Nat} {b : MS}
end
/-- what a text with lambdas knows: over the base, the code tables -/
structure TxB (ex : List (PySem.W.Frag → Bool)) (fn : List DefZ) (ts : List TabZ) (tf : List Str) (w : World) (K : PySem.W.Frag) (mg : Str → Option Value) (base : Heap) : Prop extends TxG ex fn ts w K mg where
  lams : ∀ q ∈ tf, LamX.TabB base mg (He.codeOf K (q, none)) (lamT K q)
  tq : tabsOf K = tf
end Z

set_option Elab.async false
set_option linter.all false
set_option maxRecDepth 100000
set_option maxHeartbeats 4000000
namespace Z
open PySem PySem.Spec PyProof.Rows L2 PySem.W
/-! ### f(lambda: e), f a def that first of all calls what it got, within a try -/
section
variable {X : Cx} {pins : List (Addr × Obj)} {σ : L2.St} {H : Hp} {s : Shared} {g : G} {S : Z.S}
end
/-- the mirror of such a def: by what the lambda's call ends with -/
def mkL (m : Nat) (b : MS) : S → Option (D × S) := fun s => outM (b (List.replicate m .unb) s)
def mActM (act : S → Option (RX × S)) : MEX := fun _ s => act s
def mLam (u : (S → Option (RX × S)) → S → Option (D × S)) (mb : MEX) : ME := fun e s => u (fun s1 => mb e s1) s
/-- where the call's value goes: a slot, or nowhere -/
def updS (oi : Option Nat) (σ : L2.St) (v : V) : L2.St := match oi with
  | some i => σ.set i (some v)
  | none => σ
def updE (oi : Option Nat) (e : EnvD) (d : D) : EnvD := match oi with
  | some i => e.set i (.val d)
  | none => e
def sResX (oi : Option Nat) (m : MEX) : MSX := match oi with
  | some i => sSetX i m
  | none => sExprX m
/-- what the try and the rest of such a def make of the call's end -/
def bodyL (l : HdL) (oi : Option Nat) (mr : MS) (act : S → Option (RX × S)) : MS := sSeq (sTryH l (sResX oi (mActM act))) mr
section
variable {X : Cx} {d : DefZ} {Ng : List Str} {a x q : Str} {tab mE k : Nat} {oi : Option Nat} {c : Addr} {l : HdL} {mr : MS} {mb : MEX} {params : Arguments} {body : Expr} {scope : Scope} {st : Stmt} {h₀ : ExceptHandler} {hds : List ExceptHandler} {rest : List Stmt} {p lpos pos tpos p1 p2 : Pos}
end
end Z

set_option Elab.async false
set_option linter.all false
set_option maxRecDepth 100000
set_option maxHeartbeats 4000000
namespace Z
open PySem PySem.Spec PyProof.Rows L2 PySem.W
/-! ### a catcher and its calls, told once -/
def hsOf (d : DefZ) : List ExceptHandler := match d.body with
  | .Try _ hs _ _ _ :: _ => hs
  | _ => []
def restOf (d : DefZ) : List Stmt := d.body.tail
/-- what is shown once of a def that calls its argument at once -/
structure CatZ (P : Program) (w : World) (K : PySem.W.Frag) (mg : Str → Option Value) (base : Heap) (kk : Nat) (d : DefZ) (Ng : List Str) (l : HdL) (mr : MS) : Prop where
  hh : ∀ (cdv : Value) (A : Around) (outer : List Env) (s : Shared) (H : Hp) (E : XK), RmZ kk (A.deeper (envOfC d.qual d.scope s.heap.objs.size (d.ad K) cdv)) → HdM (cxOf NoX P w K mg base Ng d.qual d.scope (d.ad K) cdv A outer s H E) (hsOf d) l
  rest : ∀ (cdv : Value) (A : Around) (outer : List Env) (s : Shared) (H : Hp) (E : XK), RmZ kk (A.deeper (envOfC d.qual d.scope s.heap.objs.size (d.ad K) cdv)) → PSs (cxOf NoX P w K mg base Ng d.qual d.scope (d.ad K) cdv A outer s H E) (restOf d) (trS K mr)
section
variable {X : Cx} {d : DefZ} {Ng : List Str} {a x q : Str} {tab mE k kk : Nat} {oi : Option Nat} {c : Addr} {l : HdL} {mr : MS} {mb : MEX} {params : Arguments} {body : Expr} {scope : Scope} {st : Stmt} {h₀ : ExceptHandler} {hds : List ExceptHandler} {rest : List Stmt} {p lpos pos tpos p1 p2 : Pos}
end
end Z

set_option linter.all false
set_option maxRecDepth 100000
namespace Z
open PySem PySem.Spec PyProof.Rows L2
theorem isx_at {prs : List (Str × Str)} {cs ts : List Str} {c f T : Str} {d : D} {s : S} {b : Bool} (hc : c ∈ cs) (hT : T ∈ ts) (hb : decide ((c, T) ∈ prs) = b) : isxD prs cs ts [.exc c f d, .ty T] s = some (.bl b, s) := by
  unfold isxD
  dsimp only
  rw [if_pos ⟨hc, hT⟩, hb]
theorem wp_exF {f : Str} {cs : List Str} {me : ME} {e : EnvD} {s : S} {Q : D → S → Prop} (h : On (me e s) fun x s1 => ∃ c d, x = .exc c f d ∧ c ∈ cs ∧ f ≠ "" ∧ Q d s1) : On (mExF f cs me e s) Q := by
  obtain ⟨x, s1, h1, c, d, rfl, hc, hf, q⟩ := h
  refine ⟨d, s1, ?_, q⟩
  unfold mExF
  rw [h1]
  dsimp only
  rw [if_pos ⟨rfl, hc, hf⟩]
/-! ### a catcher's answer, backwards -/
section
variable {m i : Nat} {oi : Option Nat} {cs : List Str} {ms mr : MS} {act : S → Option (RX × S)} {s s' : S} {x : Ex} {d : D} {Q : D → S → Prop}
end
end Z

set_option Elab.async false
set_option linter.all false
set_option maxRecDepth 100000
namespace Z
open PySem PySem.Spec PyProof.Rows L2
/-! ### runs of mirrors that may end with an error, backwards -/
def OnX (o : Option (RX × S)) (Q : D → S → Prop) (Er : Ex → S → Prop) : Prop := ∃ r s, o = some (r, s) ∧ match r with
  | .ok d => Q d s
  | .er x => Er x s
def OnSX (o : Option (FX × EnvD × S)) (N : EnvD → S → Prop) (Rt : D → S → Prop) (B C : EnvD → S → Prop) (T : D → S → Prop) (Er : Ex → EnvD → S → Prop) : Prop := ∃ f e s, o = some (f, e, s) ∧ match f with
  | .f .nx => N e s
  | .f (.ret d) => Rt d s
  | .f .bk => B e s
  | .f .ct => C e s
  | .f (.rto d) => T d s
  | .er x => Er x e s
section
variable {N B C : EnvD → S → Prop} {Rt T : D → S → Prop} {Er : Ex → EnvD → S → Prop} {Q : D → S → Prop} {Ex0 : Ex → S → Prop} {m : MS} {m1 m2 : MSX} {me : ME} {mx : MEX} {mt : MT} {ma : MA} {e : EnvD} {s s1 : S} {d : D} {x : Ex} {ds : List D} {n k i : Nat}
theorem onx_ok {o : Option (RX × S)} (h : o = some (.ok d, s)) (q : Q d s) : OnX o Q Ex0 := ⟨_, _, h, q⟩
theorem onx_er {o : Option (RX × S)} (h : o = some (.er x, s)) (q : Ex0 x s) : OnX o Q Ex0 := ⟨_, _, h, q⟩
theorem wpx_lift (h : OnS (m e s) N Rt B C T) : OnSX (liftS m e s) N Rt B C T Er := by
  obtain ⟨f, e1, s1, h1, h2⟩ := h
  refine ⟨.f f, e1, s1, by unfold liftS; rw [h1]; rfl, ?_⟩
  cases f <;> exact h2
theorem wpx_seq (h : OnSX (m1 e s) (fun e1 s1 => OnSX (m2 e1 s1) N Rt B C T Er) Rt B C T Er) : OnSX (sSeqX m1 m2 e s) N Rt B C T Er := by
  obtain ⟨f, e1, s1, h1, h2⟩ := h
  unfold sSeqX
  rw [h1]
  cases f with
  | er x => exact ⟨_, _, _, rfl, h2⟩
  | f f => cases f with
    | nx => exact h2
    | ret d => exact ⟨_, _, _, rfl, h2⟩
    | bk => exact ⟨_, _, _, rfl, h2⟩
    | ct => exact ⟨_, _, _, rfl, h2⟩
    | rto d => exact ⟨_, _, _, rfl, h2⟩
theorem wpx_if (h : On (mt e s) fun k s1 => (k = true → OnSX (m1 e s1) N Rt B C T Er) ∧ (k = false → OnSX (m2 e s1) N Rt B C T Er)) : OnSX (sIfX mt m1 m2 e s) N Rt B C T Er := by
  obtain ⟨k, s1, h1, h2, h3⟩ := h
  unfold sIfX
  rw [h1]
  cases k with
  | true => exact h2 rfl
  | false => exact h3 rfl
theorem wpx_raise {c f : Str} (h : On (me e s) fun d s1 => Er ⟨c, f, d⟩ e s1) : OnSX (sRaise c f me e s) N Rt B C T Er := by
  obtain ⟨d, s1, h1, h2⟩ := h
  exact ⟨_, _, _, by unfold sRaise; rw [h1], h2⟩
theorem wpx_set (h : OnX (mx e s) (fun d s1 => N (e.set i (.val d)) s1) fun x s1 => Er x e s1) : OnSX (sSetX i mx e s) N Rt B C T Er := by
  obtain ⟨r, s1, h1, h2⟩ := h
  unfold sSetX
  rw [h1]
  cases r with
  | ok d => exact ⟨_, _, _, rfl, h2⟩
  | er x => exact ⟨_, _, _, rfl, h2⟩
theorem wpx_expr (h : OnX (mx e s) (fun _ s1 => N e s1) fun x s1 => Er x e s1) : OnSX (sExprX mx e s) N Rt B C T Er := by
  obtain ⟨r, s1, h1, h2⟩ := h
  unfold sExprX
  rw [h1]
  cases r with
  | ok d => exact ⟨_, _, _, rfl, h2⟩
  | er x => exact ⟨_, _, _, rfl, h2⟩
theorem wpx_ret (h : OnX (mx e s) Rt fun x s1 => Er x e s1) : OnSX (sRetX mx e s) N Rt B C T Er := by
  obtain ⟨r, s1, h1, h2⟩ := h
  unfold sRetX
  rw [h1]
  cases r with
  | ok d => exact ⟨_, _, _, rfl, h2⟩
  | er x => exact ⟨_, _, _, rfl, h2⟩
theorem wpx_call {md : MDX} (h : On (ma e s) fun ds s1 => OnX (md ds s1) Q Ex0) : OnX (mCallX md ma e s) Q Ex0 := by
  obtain ⟨ds, s1, h1, h2⟩ := h
  unfold mCallX
  rw [h1]
  exact h2
theorem wpx_cm {md : MDX} {c : Str} (h : On (me e s) fun d s1 => d = .ty c ∧ On (ma e s1) fun ds s2 => OnX (md (.ty c :: ds) s2) Q Ex0) : OnX (mCmX c md me ma e s) Q Ex0 := by
  obtain ⟨d, s1, h1, rfl, ds, s2, h2, h3⟩ := h
  unfold mCmX
  rw [h1]
  dsimp only
  rw [if_pos rfl, h2]
  exact h3
theorem wpx_try {cs : List Str} (h : OnSX (m1 e s) N Rt B C T fun x e1 s1 => x.c ∈ cs ∧ OnS (m e1 s1) N Rt B C T) : OnS (sTryO cs m1 m e s) N Rt B C T := by
  obtain ⟨f, e1, s1, h1, h2⟩ := h
  unfold sTryO
  rw [h1]
  cases f with
  | er x =>
    dsimp only
    rw [if_pos h2.1]
    exact h2.2
  | f f => cases f <;> exact ⟨_, _, _, rfl, h2⟩
/-! ### what runs without errors runs so where errors are seen -/
def LeX (m : MS) (mx : MSX) : Prop := ∀ e s f e' s', m e s = some (f, e', s') → mx e s = some (.f f, e', s')
def LeE (m : ME) (mx : MEX) : Prop := ∀ e s d s', m e s = some (d, s') → mx e s = some (.ok d, s')
def LeD (m : MD) (mx : MDX) : Prop := ∀ ds s d s', m ds s = some (d, s') → mx ds s = some (.ok d, s')
end
end Z

set_option Elab.async false
set_option linter.all false
set_option maxRecDepth 100000
namespace Z
open PySem PySem.Spec PyProof.Rows L2
/-! ### loops and an __init__ that may end with an error, backwards -/
section
variable {N B C : EnvD → S → Prop} {Rt T : D → S → Prop} {Er : Ex → EnvD → S → Prop} {mi : MI} {mg : MG} {mb : MSX} {e : EnvD} {s : S} {ds : List D}
end
end Z
namespace Z
open PySem PySem.Spec PyProof.Rows L2
/-! ### arguments, classes and clauses that may end with an error, backwards -/
def OnA (o : Option (RA × S)) (Q : List D → S → Prop) (Er : Ex → S → Prop) : Prop := ∃ r s, o = some (r, s) ∧ match r with
  | .ok ds => Q ds s
  | .er x => Er x s
section
variable {N B C : EnvD → S → Prop} {Rt T : D → S → Prop} {Er : Ex → EnvD → S → Prop} {Er0 : Ex → S → Prop} {Q : List D → S → Prop} {Qd : D → S → Prop} {e : EnvD} {s : S} {ds : List D}
end
end Z

set_option Elab.async false
set_option linter.all false
set_option maxRecDepth 100000
namespace Z
/-! ### arcs, plainly -/
structure IsArc (z : Int) (U : Int → Bool) (p k : Int) : Prop where
  p0 : 0 ≤ p
  p1 : p < z
  here : U p = true
  ahead : U ((p - 1) % z) = false
  k0 : 1 ≤ k
  k1 : k < z
  all : ∀ i, 0 ≤ i → i < k → U ((p + i) % z) = true
  stop : U ((p + k) % z) = false
structure Cut (z : Int) (n st : Nat) (F M : Nat → Int) (mkd : Nat → Bool) (U : Int → Bool) : Prop where
  z0 : 0 < z
  s1 : st < n
  un : mkd st = false
  f0 : ∀ j, j < n → 0 ≤ F j ∧ F j < z
  m1 : ∀ j, j < n → 1 ≤ M j
  sum : ((List.range n).map M).sum = z
  next : ∀ j, j < n → (F j + M j) % z = F ((j + 1) % n)
  eq : ∀ j, j < n → ∀ i, 0 ≤ i → i < M j → U ((F j + i) % z) = mkd j
def ordC (n st t : Nat) : Nat := (st + t) % n
def offC (n st : Nat) (M : Nat → Int) : Nat → Int
  | 0 => 0
  | t + 1 => offC n st M t + M (ordC n st t)
section
variable {z : Int} {n st : Nat} {F M : Nat → Int} {mkd : Nat → Bool} {U : Int → Bool}
/-- the point behind so many -/
def atC' (z f x : Int) : Int := (f + x) % z
/-- runs up to X -/
structure Runs (V : Int → Bool) (X : Int) (R : List (Int × Int)) : Prop where
  up : R.Pairwise fun a b => a.1 + a.2 < b.1
  ok : ∀ r ∈ R, 0 ≤ r.1 ∧ 1 ≤ r.2 ∧ r.1 + r.2 ≤ X ∧ ∀ x, r.1 ≤ x → x < r.1 + r.2 → V x = true
  cov : ∀ x, 0 ≤ x → x < X → V x = true → ∃ r ∈ R, r.1 ≤ x ∧ x < r.1 + r.2
theorem Runs.nil (V : Int → Bool) : Runs V 0 [] := ⟨.nil, (fun r h => by cases h), fun x h0 h1 => by omega⟩
theorem Runs.skip {V : Int → Bool} {X Y : Int} {R : List (Int × Int)} (h : Runs V X R) (hxy : X ≤ Y) (no : ∀ x, X ≤ x → x < Y → V x = false) : Runs V Y R :=
  ⟨h.up, fun r hr => let ⟨a, b, c, d⟩ := h.ok r hr; ⟨a, b, by omega, d⟩, fun x h0 h1 hv => by
    by_cases hx : x < X
    · exact h.cov x h0 hx hv
    · rw [no x (by omega) h1] at hv; cases hv⟩
theorem Runs.more {V : Int → Bool} {X Y : Int} {R : List (Int × Int)} (h : Runs V X R) (hx : 0 ≤ X) (hxy : X < Y) (yes : ∀ x, X ≤ x → x < Y → V x = true) (no : X = 0 ∨ V (X - 1) = false) : Runs V Y (R ++ [(X, Y - X)]) := by
  have strict : ∀ r ∈ R, r.1 + r.2 < X := fun r hr => by
    obtain ⟨a, b, c, d⟩ := h.ok r hr
    rcases no with no | no
    · omega
    · refine Classical.byContradiction fun q => ?_
      have := d (X - 1) (by omega) (by omega)
      rw [no] at this; cases this
  refine ⟨?_, fun r hr => ?_, fun x h0 h1 hv => ?_⟩
  · rw [List.pairwise_append]
    exact ⟨h.up, by simp, fun a ha b hb => by rw [List.mem_singleton.mp hb]; exact strict a ha⟩
  · rcases List.mem_append.mp hr with q | q
    · obtain ⟨a, b, c, d⟩ := h.ok r q
      exact ⟨a, b, by omega, d⟩
    · rw [List.mem_singleton.mp q]
      exact ⟨hx, by show 1 ≤ Y - X; omega, by show X + (Y - X) ≤ Y; omega, fun x h1 h2 => yes x h1 (by have : x < X + (Y - X) := h2; omega)⟩
  · by_cases hxx : x < X
    · obtain ⟨r, hr, q⟩ := h.cov x h0 hxx hv
      exact ⟨r, List.mem_append_left _ hr, q⟩
    · exact ⟨(X, Y - X), by simp, by show X ≤ x; omega, by show x < X + (Y - X); omega⟩
/-- the arcs found behind t cells -/
def ArcsAt (z : Int) (n st : Nat) (F M : Nat → Int) (U : Int → Bool) (t : Nat) (fs : List (Int × Int)) : Prop :=
  ∃ R, fs = R.map (fun r => (atC' z (F st) r.1, r.2)) ∧ Runs (fun x => U (atC' z (F st) x)) (offC n st M t) R
def prevC (n j : Nat) : Nat := if j = 0 then n - 1 else j - 1
/-- two lists of arcs, both ascending, are the same -/
theorem arcs_same {U : Int → Bool} : ∀ {as bs : List (Int × Int)}, as.Pairwise (fun a b => a.1 < b.1) → bs.Pairwise (fun a b => a.1 < b.1) → (∀ p, p ∈ as ↔ p ∈ bs) → as = bs := by
  intro as
  induction as with
  | nil => intro bs _ _ h; cases bs with
    | nil => rfl
    | cons b bs => have := (h b).mpr (by simp); cases this
  | cons a as ih =>
    intro bs ha hb h
    cases bs with
    | nil => have := (h a).mp (by simp); cases this
    | cons b bs =>
      obtain ⟨a1, a2⟩ := List.pairwise_cons.mp ha
      obtain ⟨b1, b2⟩ := List.pairwise_cons.mp hb
      have e : a = b := by
        rcases List.mem_cons.mp ((h a).mp (by simp)) with q | q
        · exact q
        · rcases List.mem_cons.mp ((h b).mpr (by simp)) with q' | q'
          · exact q'.symm
          · have := b1 _ q
            have := a1 _ q'
            omega
      subst e
      rw [ih a2 b2 fun p => ?_]
      refine ⟨fun q => ?_, fun q => ?_⟩
      · rcases List.mem_cons.mp ((h p).mp (by simp [q])) with q' | q'
        · subst q'; have := a1 _ q; omega
        · exact q'
      · rcases List.mem_cons.mp ((h p).mpr (by simp [q])) with q' | q'
        · subst q'; have := b1 _ q; omega
        · exact q'
end
end Z

namespace Z
namespace C
open PySem PySem.Spec PyProof.Rows L2
/-! ### rings joined, left, ruled, compared -/
abbrev Frame.wh (f : Frame) (hs : List Host) : Frame := { f with hs := hs }
def less (hs : List Host) (x : Str) : List Host := hs.filter fun h => !decide (h.nm = x)
theorem eq_ok {f g : Frame} (s : S) (F : FrOk 12 16 f) (G : FrOk 12 16 g) : u_Ring___eq__ [ringD f, ringD g] s = some (.bl (decide (textOf f = textOf g)), s) := by
  have a := str_ok s F
  have b := str_ok s G
  refine eq_of_on ?_
  unfold u_Ring___eq__
  refine wp_mkD rfl ?_
  unfold ringD at *
  repeat bv_omega
  refine on_some a ⟨rfl, ?_⟩
  repeat bv_omega
  refine on_some b ⟨rfl, ?_⟩
  repeat bv_omega
  exact ⟨rfl, rfl⟩
abbrev Frame.wr (f : Frame) (a b : Int) (y : Str) : Frame := { f with a := a, b := b, y := y }
end C
end Z

namespace Z
namespace C
open PySem PySem.Spec PyProof.Rows L2
/-! ### a host that can join -/
def nkL : List Str := (List.range 12).map fun k : Nat => ("n" : Str) ++ numS k
def hostOfD (h : Host) : D := h.D
end C
end Z

namespace Z
namespace C
open PySem PySem.Spec PyProof.Rows L2
end C
end Z

namespace Z
namespace C
open PySem PySem.Spec PyProof.Rows L2
/-! ### plans: stands, steps -/
structure Std where
  now : Frame
  after : Option Frame
  downs : List Str
def ringO : Option Frame → D
  | some g => ringD g
  | none => .non
def nmsO : Option Frame → List Str
  | some g => nmsOf g.hs
  | none => []
def strsT (l : List Str) : D := .tup (l.map .str)
def stdF (st : Std) : List (Str × D) := [("now", ringD st.now), ("after", ringO st.after), ("downs", strsT st.downs)]
def Std.D (st : Std) : D := .obj "Stand" (stdF st)
inductive Deed where
  | join (h : Host) | leave (x : Str) | settle | copy (t g : Str) | repair (t g : Str) | down (x : Str) | up (x : Str) | wipe (x : Str)
def Deed.D : Deed → D
  | .join h => .tup [.str "join", .str h.nm, .str h.rk, .tup (h.ms.map .int)]
  | .leave x => .tup [.str "leave", .str x]
  | .settle => .tup [.str "settle"]
  | .copy t g => .tup [.str "copy", .str t, .str g]
  | .repair t g => .tup [.str "repair", .str t, .str g]
  | .down x => .tup [.str "down", .str x]
  | .up x => .tup [.str "up", .str x]
  | .wipe x => .tup [.str "wipe", .str x]
def unS : D → Str
  | .str x => x
  | _ => ""
/-- texts, ascending -/
def sortS (l : List Str) : List Str := (sortL (l.map .str)).map unS
def there (st : Std) (x : Str) : Prop := x ∈ nmsOf st.now.hs ∨ x ∈ nmsO st.after
instance (st : Std) (x : Str) : Decidable (there st x) := inferInstanceAs (Decidable (_ ∨ _))
abbrev marksIn (f : Frame) : List Int := f.hs.flatMap (·.ms)
def stepN (st : Std) : Deed → Option Std
  | .join h => if st.after.isNone ∧ h.nm ∉ nmsOf st.now.hs ∧ st.now.hs.length ≠ 12 ∧ (∀ m ∈ h.ms, m ∉ marksIn st.now) then some ⟨st.now, some (st.now.wh (st.now.hs ++ [h])), st.downs⟩ else none
  | .leave x => if st.after.isNone ∧ x ∈ nmsOf st.now.hs ∧ less st.now.hs x ≠ [] then some ⟨st.now, some (st.now.wh (less st.now.hs x)), st.downs⟩ else none
  | .settle => st.after.map fun g => ⟨g, none, st.downs.filter fun x => decide (x ∈ nmsOf g.hs)⟩
  | .copy t g => if t ∈ nmsO st.after ∧ g ∈ nmsOf st.now.hs ∧ t ≠ g ∧ t ∉ st.downs ∧ g ∉ st.downs then some st else none
  | .repair t g => if t ∈ nmsOf st.now.hs ∧ g ∈ nmsOf st.now.hs ∧ t ≠ g ∧ t ∉ st.downs ∧ g ∉ st.downs then some st else none
  | .down x => if there st x ∧ x ∉ st.downs then some ⟨st.now, st.after, sortS (st.downs ++ [x])⟩ else none
  | .up x => if there st x ∧ x ∈ st.downs then some ⟨st.now, st.after, st.downs.filter fun y => decide (y ≠ x)⟩ else none
  | .wipe x => if there st x then some st else none
/-- a deed's form is right on z points -/
def DeedOk (z : Int) : Deed → Prop
  | .join h => Nm h.nm ∧ Nm h.rk ∧ h.ms ≠ [] ∧ h.ms.length ≤ 16 ∧ h.ms.Pairwise (· < ·) ∧ ∀ m ∈ h.ms, 0 ≤ m ∧ m < z
  | .leave x => Nm x
  | .settle => True
  | .copy t g => Nm t ∧ Nm g
  | .repair t g => Nm t ∧ Nm g
  | .down x => Nm x
  | .up x => Nm x
  | .wipe x => Nm x
structure StdOk (st : Std) (k : Nat) : Prop where
  n : FrOk 12 16 st.now
  a : ∀ g, st.after = some g → FrOk 12 16 g ∧ g = st.now.wh g.hs
  d : ∀ x ∈ st.downs, Nm x
  l : st.downs.length ≤ k
end C
end Z

namespace Z
namespace C
open PySem PySem.Spec PyProof.Rows L2
/-! ### what the program makes of stands and steps -/
abbrev LENS : List (Str × Int) := [("join", 4), ("leave", 2), ("copy", 3), ("settle", 1), ("down", 2), ("up", 2), ("wipe", 2), ("repair", 3)]
end C
end Z

namespace Z
namespace C
open PySem PySem.Spec PyProof.Rows L2
/-! ### marks in order -/
/-- names and marks, the marks ascending -/
structure Mk (hs : List Host) (mk : List (Int × Str)) : Prop where
  perm : mk.Perm (pairsOf hs)
  up : mk.Pairwise fun p q => p.1 < q.1
/-! ### first met -/
def addK (acc : List Str) (x : Str) : List Str := if x ∈ acc then acc else acc ++ [x]
def ded (l : List Str) : List Str := l.foldl addK []
def keysD (l : List Str) : List (Key × D) := l.map fun x => (Sum.inr x, D.bl true)
/-! ### the walk -/
def walkN (mk : List (Int × Str)) (p : Int) : List Str := ded ((mk.filter fun q => decide (p ≤ q.1)).map (·.2) ++ (mk.filter fun q => decide (q.1 < p)).map (·.2))
end C
end Z

namespace Z
namespace C
open PySem PySem.Spec PyProof.Rows L2
/-! ### whose a point is -/
def ownN (mk : List (Int × Str)) (m : Int) : Option Str := (mk.find? fun q => decide (q.1 = m)).map (·.2)
def ownKV (ps : List (Int × Str)) : List (Key × D) := ps.map fun q => (Sum.inl q.1, D.str q.2)
/-! ### points in a row -/
end C
end Z

namespace Z
namespace C
open PySem PySem.Spec PyProof.Rows L2
/-! ### the first of each rack -/
def addF (rk : Str → Str) (acc : List Str) (x : Str) : List Str := if rk x ∈ acc.map rk then acc else acc ++ [x]
def firsts (rk : Str → Str) (w : List Str) : List Str := w.foldl (addF rk) []
/-- who keeps, of a walk -/
def keepR (rk : Str → Str) (n : Nat) (w : List Str) : List Str := (((firsts rk w).take n) ++ w.filter fun x => decide (x ∉ (firsts rk w).take n)).take n
def firstKV (rk : Str → Str) (l : List Str) : List (Key × D) := l.map fun x => (Sum.inr (rk x), D.str x)
end C
end Z

namespace Z
namespace C
open PySem PySem.Spec PyProof.Rows L2
def rkOf (hs : List Host) (x : Str) : Str := ((hs.find? fun h => decide (h.nm = x)).map (·.rk)).getD (Str.ofString "")
def keepN (f : Frame) (w : List Str) : List Str := if f.x = Str.ofString "hosts" then w.take f.w.toNat else keepR (rkOf f.hs) f.w.toNat w
end C
end Z

namespace Z
namespace C
open PySem PySem.Spec PyProof.Rows L2
end C
end Z

namespace Z
namespace C
open PySem PySem.Spec PyProof.Rows L2
/-! ### walks point by point -/
def stepsN (mk : List (Int × Str)) (z p n : Nat) : List Str := (List.range n).filterMap fun k : Nat => ownN mk (((p : Int) + k) % z)
/-- laws whose cases are at most c -/
abbrev lawN (c : Int) (ur : MD) : MD := mkD 1 2 (sRet (mCall allD (aCons (mLc [1] (rngI (aCons (mCall max2D (aCons (mC (.int 2)) (aCons (mCall min2D (aCons (mCall lenD (aCons (mVar 0) (aNil))) (aCons (mC (.int c)) (aNil)))) (aNil)))) (aNil))) (cNm 1) (yesT) (mCallD ur (aCons (mCel (mCallD u__law_filled (aCons (mVar 0) (aCons (mVar 1) (aNil))))) (aNil)))) (aNil))))
end C
end Z

namespace Z
namespace C
open PySem PySem.Spec PyProof.Rows L2
/-- the walks of all keys of a small ring -/
def metsD (mk : List (Int × Str)) (z : Nat) : List D := (List.range z).map fun p : Nat => .lst ((walkN mk p).map .str)
end C
end Z

namespace Z
namespace C
open PySem PySem.Spec PyProof.Rows L2
/-! ### the least ways -/
def wayI (z p m : Int) : Int := (m - p) % z
def ordL (z p : Int) (mk : List (Int × Str)) : List (Int × Str) := ((mk.filter fun q => decide (p ≤ q.1)) ++ mk.filter fun q => decide (q.1 < p)).map fun q => (wayI z p q.1, q.2)
def wayH (z p : Int) (h : Host) : Int := match h.ms with
  | [] => 0
  | m :: ms => leastI (wayI z p m) (ms.map (wayI z p))
def wayN (z p : Int) (hs : List Host) (x : Str) : Int := ((hs.find? fun h => decide (h.nm = x)).map (wayH z p)).getD 0
end C
end Z

namespace Z
namespace C
open PySem PySem.Spec PyProof.Rows L2
/-- the marks, ascending -/
def edgesN (mk : List (Int × Str)) : List Int := mk.map (·.1)
end C
end Z

namespace Z
namespace C
open PySem PySem.Spec PyProof.Rows L2
end C
end Z

namespace Z
namespace C
open PySem PySem.Spec PyProof.Rows L2
/-! ### cells -/
def atN (es : List Int) (j : Nat) : Int := es.getD j 0
def prevE (es : List Int) (j : Nat) : Int := if j = 0 then atN es (es.length - 1) else atN es (j - 1)
def manyE (z : Int) (es : List Int) (j : Nat) : Int := (atN es j - prevE es j - 1) % z + 1
def firstE (z : Int) (es : List Int) (j : Nat) : Int := (prevE es j + 1) % z
/-- so many are below -/
def cntE (es : List Int) (p : Int) : Nat := es.countP fun e => decide (e < p)
end C
end Z

namespace Z
namespace C
open PySem PySem.Spec PyProof.Rows L2
def cellFs (a b c : D) : List (Str × D) := [("first", a), ("many", b), ("last", c)]
def cellD (z : Int) (es : List Int) (j : Nat) : D := .obj "Cell" (cellFs (.int (firstE z es j)) (.int (manyE z es j)) (.int (atN es j)))
/-- a cell with its keepers -/
def partD (f : Frame) (mk : List (Int × Str)) (j : Nat) : D := .tup [.int (firstE f.z (edgesN mk) j), .int (manyE f.z (edgesN mk) j), .tup ((keepN f (walkN mk (atN (edgesN mk) j))).map .str)]
def partsD (f : Frame) (mk : List (Int × Str)) : List D := (List.range mk.length).map (partD f mk)
end C
end Z

namespace Z
namespace C
open PySem PySem.Spec PyProof.Rows L2
/-! ### a plan is made -/
section
variable {e : EnvD} {s : S} {c f : Str} {m mo : ME}
end
structure RunN (f : Frame) (ds : List Deed) (sts : List Std) : Prop where
  len : sts.length = ds.length + 1
  h0 : sts[0]? = some ⟨f, none, []⟩
  st : ∀ (i : Nat) (d : Deed) (a b : Std), ds[i]? = some d → sts[i]? = some a → sts[i + 1]? = some b → stepN a d = some b
  ok : ∀ (i : Nat) (a : Std), sts[i]? = some a → StdOk a i ∧ a.now.z = f.z
  dk : ∀ d ∈ ds, DeedOk f.z d
theorem RunN.start {f : Frame} (F : FrOk 12 16 f) : RunN f [] [⟨f, none, []⟩] where
  len := rfl
  h0 := rfl
  st := fun i d a b h => by simp at h
  ok := fun i a h => by
    match i with
    | 0 =>
      cases h
      exact ⟨⟨F, (fun g h => nomatch h), (fun x h => nomatch h), Nat.le_refl _⟩, rfl⟩
    | i + 1 => simp at h
  dk := fun d h => nomatch h
theorem RunN.get {f : Frame} {ds : List Deed} {sts : List Std} (R : RunN f ds sts) {i : Nat} (h : i ≤ ds.length) : ∃ a, sts[i]? = some a ∧ StdOk a i ∧ a.now.z = f.z := by
  have : i < sts.length := by rw [R.len]; omega
  exact ⟨sts[i], List.getElem?_eq_getElem this, R.ok i _ (List.getElem?_eq_getElem this)⟩
def planF (f : Frame) (ds : List Deed) (sts : List Std) : List (Str × D) := [("stands", .lst (sts.map Std.D)), ("held_ring", ringD f), ("held_steps", .tup (ds.map Deed.D))]
def planD (f : Frame) (ds : List Deed) (sts : List Std) : D := .obj "Plan" (planF f ds sts)
end C
end Z

namespace Z
namespace C
open PySem PySem.Spec PyProof.Rows L2
/-! ### the purse -/
abbrev lawP (c : Int) (ur : MD) : MD := mkD 1 2 (sSeq (sFor (rngI (aCons (mCall max2D (aCons (mC (.int 2)) (aCons (mCall min2D (aCons (mCall lenD (aCons (mVar 0) (aNil))) (aCons (mC (.int c)) (aNil)))) (aNil)))) (aNil))) (gNm 1) (sIf (tNotZ (mT (mCallD ur (aCons (mCel (mCallD u__law_purse (aCons (mVar 0) (aCons (mVar 1) (aNil))))) (aNil))))) (sRet (mC (.bl false))) (sNil))) (sRet (mC (.bl true))))
end C
end Z

namespace Z
namespace C
open PySem PySem.Spec PyProof.Rows L2
end C
end Z

namespace Z
namespace C
open PySem PySem.Spec PyProof.Rows L2
/-! ### dicts of keys that come again -/
def addI (acc : List Int) (x : Int) : List Int := if x ∈ acc then acc else acc ++ [x]
def keysI (l : List Int) : List (Key × D) := l.map fun x => (Sum.inl x, D.bl true)
/-! ### the cells of two rings -/
/-- the marks of two rings -/
def comE (mf mg : List (Int × Str)) : List Int := sdI (edgesN mf ++ edgesN mg)
end C
end Z

namespace Z
namespace C
open PySem PySem.Spec PyProof.Rows L2
/-- a common cell with both keepers -/
def comD (f g : Frame) (mf mg : List (Int × Str)) (j : Nat) : D := .tup [.int (firstE f.z (comE mf mg) j), .int (manyE f.z (comE mf mg) j), .tup ((keepN f (walkN mf (atN (comE mf mg) j))).map .str), .tup ((keepN g (walkN mg (atN (comE mf mg) j))).map .str)]
def comsD (f g : Frame) (mf mg : List (Int × Str)) : List D := (List.range (comE mf mg).length).map (comD f g mf mg)
end C
end Z

namespace Z
namespace C
open PySem PySem.Spec PyProof.Rows L2
/-! ### rings alike -/
end C
end Z

namespace Z
namespace C
open PySem PySem.Spec PyProof.Rows L2
theorem FrOk.other {f : Frame} {hs : List Host} (F : FrOk 12 16 f) (H : HsOk f.z 16 hs) (h0 : 1 ≤ hs.length) (h1 : hs.length ≤ 12) : FrOk 12 16 (f.wh hs) := ⟨F.z0, F.z1, F.w0, F.w1, F.a0, F.a1, F.b0, F.b1, F.x, F.y, H, h0, h1⟩
def sortI (l : List Int) : List Int := l.mergeSort fun a b => decide (a ≤ b)
/-! moved on -/
def moveM (z t m : Int) : Int := (m + t) % z
def moveH (z t : Int) (h : Host) : Host := ⟨h.nm, h.rk, sortI (h.ms.map (moveM z t))⟩
/-! stretched -/
def strM (t m : Int) : Int := m * t + t - 1
def strH (t : Int) (h : Host) : Host := ⟨h.nm, h.rk, h.ms.map (strM t)⟩
abbrev Frame.str (f : Frame) (t : Int) : Frame := { f with z := f.z * t, hs := f.hs.map (strH t) }
end C
end Z

namespace Z
namespace C
open PySem PySem.Spec PyProof.Rows L2
end C
end Z

namespace Z
namespace C
open PySem PySem.Spec PyProof.Rows L2
/-! ### the drawn ring of the purse family -/
end C
end Z

namespace Z
namespace C
open PySem PySem.Spec PyProof.Rows L2
def nmK (k : Nat) : Str := ⟨#[97 + k]⟩
/-- a crew that is drawn by the purse -/
structure PHs (z : Int) (k : Nat) (hs : List Host) : Prop where
  ok : HsOk z k hs
  nms : hs.map (·.nm) = (List.range hs.length).map nmK
  rks : ∀ h ∈ hs, h.rk ∈ (["r1", "r1", "r2", "r3"] : List Str)
end C
end Z

namespace Z
namespace C
open PySem PySem.Spec PyProof.Rows L2
def arcD (a : Int × Int) : D := .tup [.int a.1, .int a.2]
end C
end Z

namespace Z
namespace C
open PySem PySem.Spec PyProof.Rows L2
end C
end Z

namespace Z
namespace C
open PySem PySem.Spec PyProof.Rows L2
end C
end Z

namespace Z
open PySem PySem.Spec PyProof.Rows L2
/-! ### what repr writes is a text of code points -/
def lowS (x : Str) : Prop := ∀ c ∈ x.cps.toList, c < 1114112
end Z

namespace Z
namespace C
open PySem PySem.Spec PyProof.Rows L2
/-- the arcs of a predicate on the points -/
structure ArcsOf (z : Int) (U : Int → Bool) (A : List (Int × Int)) : Prop where
  all : (∀ p, 0 ≤ p → p < z → U p = true) → A = [(0, z)]
  up : ¬ (∀ p, 0 ≤ p → p < z → U p = true) → A.Pairwise fun a b => a.1 < b.1
  mem : ¬ (∀ p, 0 ≤ p → p < z → U p = true) → ∀ p k, (p, k) ∈ A ↔ IsArc z U p k
theorem ArcsOf.same {z : Int} {U : Int → Bool} {A B : List (Int × Int)} (a : ArcsOf z U A) (b : ArcsOf z U B) : A = B := by
  by_cases h : ∀ p, 0 ≤ p → p < z → U p = true
  · rw [a.all h, b.all h]
  · exact arcs_same (U := U) (a.up h) (b.up h) fun ⟨p, k⟩ => by rw [a.mem h, b.mem h]
theorem ArcsOf.congr {z : Int} {U V : Int → Bool} {A : List (Int × Int)} (a : ArcsOf z U A) (h : U = V) : ArcsOf z V A := h ▸ a
theorem ArcsOf.bnd {z : Int} {U : Int → Bool} {A : List (Int × Int)} (a : ArcsOf z U A) (z0 : 0 < z) : ∀ x ∈ A, 0 ≤ x.1 ∧ x.1 < z ∧ 1 ≤ x.2 ∧ x.2 ≤ z := by
  intro x hx
  by_cases h : ∀ p, 0 ≤ p → p < z → U p = true
  · rw [a.all h] at hx
    rw [List.mem_singleton.mp hx]
    exact ⟨by simp, z0, by show 1 ≤ z; omega, by simp⟩
  · have := (a.mem h x.1 x.2).mp hx
    exact ⟨this.p0, this.p1, this.k0, by have := this.k1; omega⟩
/-! ### keepers that are unlike -/
def unlB (a b : List Str) : Bool := !decide (a = b)
def aliB (a b : List Str) : Bool := match eqB (.lst (sortL (a.map .str))) (.lst (sortL (b.map .str))) with
  | some c => !c
  | none => false
/-- the two of a key -/
abbrev KP (f : Frame) (mk : List (Int × Str)) (p : Int) : List Str := keepN f (walkN mk p)
structure Two (f g : Frame) (mf mg : List (Int × Str)) : Prop where
  F : FrOk 12 16 f
  G : FrOk 12 16 g
  hf : Mk f.hs mf
  hg : Mk g.hs mg
  sf : sortL ((pairsOf f.hs).map markD) = mf.map markD
  sg : sortL ((pairsOf g.hs).map markD) = mg.map markD
  z : g.z = f.z
theorem Two.self {f : Frame} {mf : List (Int × Str)} (F : FrOk 12 16 f) (hf : Mk f.hs mf) (sf : sortL ((pairsOf f.hs).map markD) = mf.map markD) : Two f f mf mf := ⟨F, F, hf, hf, sf, sf, rfl⟩
/-! ### arcs, point by point -/
def ptsI (z : Nat) (U : Int → Bool) : List Int := ((List.range z).filter fun i : Nat => U i).map fun i : Nat => (i : Int)
/-- how far it goes on -/
def offK (z : Nat) (U : Int → Bool) (p : Int) : List Int := ((List.range (z - 1)).filter fun i : Nat => !decide ((p + (1 + i)) % z ∈ ptsI z U)).map fun i : Nat => (1 + i : Int)
def beg (z : Nat) (U : Int → Bool) (p : Int) : Bool := !decide ((p - 1) % (z : Int) ∈ ptsI z U)
end C
end Z

namespace Z
namespace C
open PySem PySem.Spec PyProof.Rows L2
/-! ### texts are plain texts -/
end C
end Z

set_option linter.all false
set_option maxRecDepth 100000
namespace Z
namespace K01
open PySem
open C
/-! ### mirrors -/
def prsM : List (PySem.Str × PySem.Str) := [(("BadName" : PySem.Str), ("BadName" : PySem.Str)), (("BadValue" : PySem.Str), ("BadValue" : PySem.Str)), (("Broken" : PySem.Str), ("NoAnswer" : PySem.Str)), (("Broken" : PySem.Str), ("Broken" : PySem.Str)), (("InUse" : PySem.Str), ("BadName" : PySem.Str)), (("InUse" : PySem.Str), ("InUse" : PySem.Str)), (("InvalidFurther" : PySem.Str), ("BadValue" : PySem.Str)), (("InvalidFurther" : PySem.Str), ("InvalidFurther" : PySem.Str)), (("InvalidHosts" : PySem.Str), ("BadValue" : PySem.Str)), (("InvalidHosts" : PySem.Str), ("InvalidHosts" : PySem.Str)), (("InvalidIndex" : PySem.Str), ("BadValue" : PySem.Str)), (("InvalidIndex" : PySem.Str), ("InvalidIndex" : PySem.Str)), (("InvalidKind" : PySem.Str), ("BadValue" : PySem.Str)), (("InvalidKind" : PySem.Str), ("InvalidKind" : PySem.Str)), (("InvalidMarks" : PySem.Str), ("BadValue" : PySem.Str)), (("InvalidMarks" : PySem.Str), ("InvalidMarks" : PySem.Str)), (("InvalidMoment" : PySem.Str), ("BadValue" : PySem.Str)), (("InvalidMoment" : PySem.Str), ("InvalidMoment" : PySem.Str)), (("InvalidName" : PySem.Str), ("BadValue" : PySem.Str)), (("InvalidName" : PySem.Str), ("InvalidName" : PySem.Str)), (("InvalidNumber" : PySem.Str), ("BadValue" : PySem.Str)), (("InvalidNumber" : PySem.Str), ("InvalidNumber" : PySem.Str)), (("InvalidPending" : PySem.Str), ("BadValue" : PySem.Str)), (("InvalidPending" : PySem.Str), ("InvalidPending" : PySem.Str)), (("InvalidPoint" : PySem.Str), ("BadValue" : PySem.Str)), (("InvalidPoint" : PySem.Str), ("InvalidPoint" : PySem.Str)), (("InvalidSpread" : PySem.Str), ("BadValue" : PySem.Str)), (("InvalidSpread" : PySem.Str), ("InvalidSpread" : PySem.Str)), (("InvalidStep" : PySem.Str), ("BadValue" : PySem.Str)), (("InvalidStep" : PySem.Str), ("InvalidStep" : PySem.Str)), (("InvalidSteps" : PySem.Str), ("BadValue" : PySem.Str)), (("InvalidSteps" : PySem.Str), ("InvalidSteps" : PySem.Str)), (("InvalidTakers" : PySem.Str), ("BadValue" : PySem.Str)), (("InvalidTakers" : PySem.Str), ("InvalidTakers" : PySem.Str)), (("InvalidText" : PySem.Str), ("BadValue" : PySem.Str)), (("InvalidText" : PySem.Str), ("InvalidText" : PySem.Str)), (("InvalidWish" : PySem.Str), ("BadValue" : PySem.Str)), (("InvalidWish" : PySem.Str), ("InvalidWish" : PySem.Str)), (("InvalidWishes" : PySem.Str), ("BadValue" : PySem.Str)), (("InvalidWishes" : PySem.Str), ("InvalidWishes" : PySem.Str)), (("NoAnswer" : PySem.Str), ("NoAnswer" : PySem.Str)), (("NoRoom" : PySem.Str), ("NoAnswer" : PySem.Str)), (("NoRoom" : PySem.Str), ("NoRoom" : PySem.Str)), (("NotAPlan" : PySem.Str), ("BadValue" : PySem.Str)), (("NotAPlan" : PySem.Str), ("NotAPlan" : PySem.Str)), (("NotARing" : PySem.Str), ("BadValue" : PySem.Str)), (("NotARing" : PySem.Str), ("NotARing" : PySem.Str)), (("NothingToUndo" : PySem.Str), ("NoAnswer" : PySem.Str)), (("NothingToUndo" : PySem.Str), ("NothingToUndo" : PySem.Str)), (("OtherPoints" : PySem.Str), ("BadValue" : PySem.Str)), (("OtherPoints" : PySem.Str), ("OtherPoints" : PySem.Str)), (("UnknownName" : PySem.Str), ("BadName" : PySem.Str)), (("UnknownName" : PySem.Str), ("UnknownName" : PySem.Str))]
def clsM : List PySem.Str := [("BadName" : PySem.Str), ("BadValue" : PySem.Str), ("Broken" : PySem.Str), ("InUse" : PySem.Str), ("InvalidFurther" : PySem.Str), ("InvalidHosts" : PySem.Str), ("InvalidIndex" : PySem.Str), ("InvalidKind" : PySem.Str), ("InvalidMarks" : PySem.Str), ("InvalidMoment" : PySem.Str), ("InvalidName" : PySem.Str), ("InvalidNumber" : PySem.Str), ("InvalidPending" : PySem.Str), ("InvalidPoint" : PySem.Str), ("InvalidSpread" : PySem.Str), ("InvalidStep" : PySem.Str), ("InvalidSteps" : PySem.Str), ("InvalidTakers" : PySem.Str), ("InvalidText" : PySem.Str), ("InvalidWish" : PySem.Str), ("InvalidWishes" : PySem.Str), ("NoAnswer" : PySem.Str), ("NoRoom" : PySem.Str), ("NotAPlan" : PySem.Str), ("NotARing" : PySem.Str), ("NothingToUndo" : PySem.Str), ("OtherPoints" : PySem.Str), ("UnknownName" : PySem.Str)]
def tsM : List PySem.Str := [("BadValue" : PySem.Str), ("BadName" : PySem.Str), ("NoAnswer" : PySem.Str), ("InvalidText" : PySem.Str), ("InvalidNumber" : PySem.Str), ("InvalidSpread" : PySem.Str), ("InvalidPending" : PySem.Str), ("InvalidPoint" : PySem.Str), ("InvalidName" : PySem.Str), ("InvalidMarks" : PySem.Str), ("InvalidStep" : PySem.Str), ("InvalidMoment" : PySem.Str), ("InvalidTakers" : PySem.Str), ("InvalidKind" : PySem.Str), ("InvalidWish" : PySem.Str), ("InvalidIndex" : PySem.Str), ("NotARing" : PySem.Str), ("NotAPlan" : PySem.Str), ("OtherPoints" : PySem.Str), ("InvalidHosts" : PySem.Str), ("InvalidSteps" : PySem.Str), ("InvalidFurther" : PySem.Str), ("InvalidWishes" : PySem.Str), ("UnknownName" : PySem.Str), ("InUse" : PySem.Str), ("NothingToUndo" : PySem.Str), ("NoRoom" : PySem.Str), ("Broken" : PySem.Str)]
def prsY : List (PySem.Str × String) := [(("BadName" : PySem.Str), ("LookupError" : String)), (("BadValue" : PySem.Str), ("ValueError" : String)), (("Broken" : PySem.Str), ("ArithmeticError" : String)), (("InUse" : PySem.Str), ("LookupError" : String)), (("InvalidFurther" : PySem.Str), ("ValueError" : String)), (("InvalidHosts" : PySem.Str), ("ValueError" : String)), (("InvalidIndex" : PySem.Str), ("ValueError" : String)), (("InvalidKind" : PySem.Str), ("ValueError" : String)), (("InvalidMarks" : PySem.Str), ("ValueError" : String)), (("InvalidMoment" : PySem.Str), ("ValueError" : String)), (("InvalidName" : PySem.Str), ("ValueError" : String)), (("InvalidNumber" : PySem.Str), ("ValueError" : String)), (("InvalidPending" : PySem.Str), ("ValueError" : String)), (("InvalidPoint" : PySem.Str), ("ValueError" : String)), (("InvalidSpread" : PySem.Str), ("ValueError" : String)), (("InvalidStep" : PySem.Str), ("ValueError" : String)), (("InvalidSteps" : PySem.Str), ("ValueError" : String)), (("InvalidTakers" : PySem.Str), ("ValueError" : String)), (("InvalidText" : PySem.Str), ("ValueError" : String)), (("InvalidWish" : PySem.Str), ("ValueError" : String)), (("InvalidWishes" : PySem.Str), ("ValueError" : String)), (("NoAnswer" : PySem.Str), ("ArithmeticError" : String)), (("NoRoom" : PySem.Str), ("ArithmeticError" : String)), (("NotAPlan" : PySem.Str), ("ValueError" : String)), (("NotARing" : PySem.Str), ("ValueError" : String)), (("NothingToUndo" : PySem.Str), ("ArithmeticError" : String)), (("OtherPoints" : PySem.Str), ("ValueError" : String)), (("UnknownName" : PySem.Str), ("LookupError" : String))]
def tsY : List String := [("ValueError" : String), ("LookupError" : String), ("ArithmeticError" : String)]
def u__law_sorts : MD := mkD 1 2 (sSeq (sSet 1 (mLst (aCons (mCallD (isxD prsM clsM tsM) (aCons (mVar 0) (aCons (mC (.ty "InvalidText")) (aNil)))) (aCons (mCallD (isxD prsM clsM tsM) (aCons (mVar 0) (aCons (mC (.ty "InvalidNumber")) (aNil)))) (aCons (mCallD (isxD prsM clsM tsM) (aCons (mVar 0) (aCons (mC (.ty "InvalidSpread")) (aNil)))) (aNil)))))) (sSeq (sSet 1 (mOp addAll (mVar 1) (mLst (aCons (mCallD (isxD prsM clsM tsM) (aCons (mVar 0) (aCons (mC (.ty "InvalidPending")) (aNil)))) (aCons (mCallD (isxD prsM clsM tsM) (aCons (mVar 0) (aCons (mC (.ty "InvalidPoint")) (aNil)))) (aCons (mCallD (isxD prsM clsM tsM) (aCons (mVar 0) (aCons (mC (.ty "InvalidName")) (aNil)))) (aNil))))))) (sSeq (sSet 1 (mOp addAll (mVar 1) (mLst (aCons (mCallD (isxD prsM clsM tsM) (aCons (mVar 0) (aCons (mC (.ty "InvalidMarks")) (aNil)))) (aCons (mCallD (isxD prsM clsM tsM) (aCons (mVar 0) (aCons (mC (.ty "InvalidStep")) (aNil)))) (aCons (mCallD (isxD prsM clsM tsM) (aCons (mVar 0) (aCons (mC (.ty "InvalidMoment")) (aNil)))) (aNil))))))) (sSeq (sSet 1 (mOp addAll (mVar 1) (mLst (aCons (mCallD (isxD prsM clsM tsM) (aCons (mVar 0) (aCons (mC (.ty "InvalidTakers")) (aNil)))) (aCons (mCallD (isxD prsM clsM tsM) (aCons (mVar 0) (aCons (mC (.ty "InvalidKind")) (aNil)))) (aCons (mCallD (isxD prsM clsM tsM) (aCons (mVar 0) (aCons (mC (.ty "InvalidWish")) (aNil)))) (aNil))))))) (sSeq (sSet 1 (mOp addAll (mVar 1) (mLst (aCons (mCallD (isxD prsM clsM tsM) (aCons (mVar 0) (aCons (mC (.ty "InvalidIndex")) (aNil)))) (aCons (mCallD (isxD prsM clsM tsM) (aCons (mVar 0) (aCons (mC (.ty "NotARing")) (aNil)))) (aCons (mCallD (isxD prsM clsM tsM) (aCons (mVar 0) (aCons (mC (.ty "NotAPlan")) (aNil)))) (aNil))))))) (sSeq (sSet 1 (mOp addAll (mVar 1) (mLst (aCons (mCallD (isxD prsM clsM tsM) (aCons (mVar 0) (aCons (mC (.ty "OtherPoints")) (aNil)))) (aCons (mCallD (isxD prsM clsM tsM) (aCons (mVar 0) (aCons (mC (.ty "InvalidHosts")) (aNil)))) (aCons (mCallD (isxD prsM clsM tsM) (aCons (mVar 0) (aCons (mC (.ty "InvalidSteps")) (aNil)))) (aNil))))))) (sSeq (sSet 1 (mOp addAll (mVar 1) (mLst (aCons (mCallD (isxD prsM clsM tsM) (aCons (mVar 0) (aCons (mC (.ty "InvalidFurther")) (aNil)))) (aCons (mCallD (isxD prsM clsM tsM) (aCons (mVar 0) (aCons (mC (.ty "InvalidWishes")) (aNil)))) (aCons (mCallD (isxD prsM clsM tsM) (aCons (mVar 0) (aCons (mC (.ty "UnknownName")) (aNil)))) (aNil))))))) (sSeq (sSet 1 (mOp addAll (mVar 1) (mLst (aCons (mCallD (isxD prsM clsM tsM) (aCons (mVar 0) (aCons (mC (.ty "InUse")) (aNil)))) (aCons (mCallD (isxD prsM clsM tsM) (aCons (mVar 0) (aCons (mC (.ty "NothingToUndo")) (aNil)))) (aCons (mCallD (isxD prsM clsM tsM) (aCons (mVar 0) (aCons (mC (.ty "NoRoom")) (aNil)))) (aNil))))))) (sRet (mOp addAll (mVar 1) (mLst (aCons (mCallD (isxD prsM clsM tsM) (aCons (mVar 0) (aCons (mC (.ty "Broken")) (aNil)))) (aNil)))))))))))))
def u__law_bases : MD := mkD 1 2 (sSeq (sSet 1 (mLst (aCons (mCallD (isxD prsM clsM tsM) (aCons (mVar 0) (aCons (mC (.ty "BadValue")) (aNil)))) (aCons (mCallD (isxD prsM clsM tsM) (aCons (mVar 0) (aCons (mC (.ty "BadName")) (aNil)))) (aCons (mCallD (isxD prsM clsM tsM) (aCons (mVar 0) (aCons (mC (.ty "NoAnswer")) (aNil)))) (aNil)))))) (sRet (mOp addAll (mVar 1) (mLst (aCons (mCallD (isyD prsY clsM tsY) (aCons (mVar 0) (aCons (mC (.opq (.ty "ValueError"))) (aNil)))) (aCons (mCallD (isyD prsY clsM tsY) (aCons (mVar 0) (aCons (mC (.opq (.ty "LookupError"))) (aNil)))) (aCons (mCallD (isyD prsY clsM tsY) (aCons (mVar 0) (aCons (mC (.opq (.ty "ArithmeticError"))) (aNil)))) (aNil))))))))
def u__law_value : MD := mkD 1 2 (sSeq (sSet 1 (mLst (aCons (mC .non) (aCons (mC (.bl true)) (aCons (mC (.bl false)) (aCons (mC (.int 0)) (aCons (mC (.int 1)) (aCons (mUn negD (mC (.int 1))) (aCons (mC (.int 2)) (aCons (mOp powD (mC (.int 10)) (mC (.int 39))) (aCons (mC (.str "")) (aCons (mC (.str "a")) (aCons (mC (.str "hosts")) (aCons (mC (.str "5")) (aCons (mTup (aNil)) (aCons (mTup (aCons (mC (.int 0)) (aNil))) (aCons (mLst (aNil)) (aCons (mLst (aCons (mC (.int 1)) (aNil))) (aCons (mDic0) (aCons (mDisp [(mC (.str "a"), mC (.int 1))]) (aCons (mTup (aCons (mC (.str "a")) (aCons (mC .non) (aNil)))) (aNil)))))))))))))))))))))) (sRet (mCallD u__law_of (aCons (mVar 0) (aCons (mOp addAll (mVar 1) (mLst (aCons (mTup (aCons (mC (.str "a")) (aCons (mC (.str "r")) (aCons (mTup (aCons (mC (.int 0)) (aNil))) (aNil))))) (aCons (mTup (aCons (mTup (aCons (mC (.str "a")) (aCons (mC (.str "r")) (aCons (mTup (aCons (mC (.int 0)) (aNil))) (aNil))))) (aNil))) (aCons (mLst (aCons (mC (.str "a")) (aCons (mC (.str "r")) (aCons (mLst (aCons (mC (.int 0)) (aNil))) (aNil))))) (aCons (mC (.str "ring 1 1 hosts 1 1 plain")) (aCons (mC (.str "a b")) (aNil)))))))) (aNil))))))
def u__law_held : MD := mkD 2 2 (sRet (mIf (mT (mOp inAD (mVar 1) (mLst (aCons (mC (.int 16)) (aCons (mC (.int 17)) (aCons (mC (.int 18)) (aCons (mC (.int 19)) (aCons (mC (.int 21)) (aCons (mC (.int 24)) (aNil)))))))))) (mExF "index" ["Broken", "InUse", "InvalidFurther", "InvalidHosts", "InvalidSteps", "InvalidWishes"] (mVar 0)) (mExF "given" ["InvalidIndex", "InvalidKind", "InvalidMarks", "InvalidMoment", "InvalidName", "InvalidNumber", "InvalidPending", "InvalidPoint", "InvalidSpread", "InvalidStep", "InvalidTakers", "InvalidText", "InvalidWish", "NoRoom", "NotAPlan", "NotARing", "OtherPoints", "UnknownName"] (mVar 0))))
def u__law_lot_right : MD := mkD 2 5 (sSeq (sFor (rngI (aCons (mC (.int 25)) (aNil))) (gNm 2) (sSeq (sSet 3 (mIf (mT (mOp ltD (mVar 2) (mC (.int 20)))) (mC (.int 0)) (mIf (mT (mOp ltD (mVar 2) (mC (.int 22)))) (mC (.int 1)) (mC (.int 2))))) (sSeq (sIf (mT (mOp neD (mCallD u__law_sorts (aCons (mOp idxD (mVar 0) (mVar 2)) (aNil))) (mLc [4] (rngI (aCons (mC (.int 25)) (aNil))) (cNm 4) (yesT) (mOp eqD (mVar 4) (mVar 2))))) (sRet (mC (.bl false))) (sNil)) (sSeq (sIf (mT (mOp neD (mCallD u__law_bases (aCons (mOp idxD (mVar 0) (mVar 2)) (aNil))) (mOp repD (mLc [4] (rngI (aCons (mC (.int 3)) (aNil))) (cNm 4) (yesT) (mOp eqD (mVar 4) (mVar 3))) (mC (.int 2))))) (sRet (mC (.bl false))) (sNil)) (sIf (tAndZ (mT (mOp neD (mVar 2) (mC (.int 22)))) (mT (mOp neD (mCallD reprMx (aCons (mCallD u__law_held (aCons (mOp idxD (mVar 0) (mVar 2)) (aCons (mVar 2) (aNil)))) (aNil))) (mCallD reprMx (aCons (mVar 1) (aNil)))))) (sRet (mC (.bl false))) (sNil)))))) (sRet (mOp eqD (mCall lenD (aCons (mVar 0) (aNil))) (mC (.int 25)))))
def u__law_placed : MD := mkD 1 2 (sSeq (sSet 1 (mLst (aCons (mMkE "InvalidText" "given" (mVar 0)) (aCons (mMkE "InvalidNumber" "given" (mVar 0)) (aCons (mMkE "InvalidSpread" "given" (mVar 0)) (aCons (mMkE "InvalidPending" "given" (mVar 0)) (aCons (mMkE "InvalidPoint" "given" (mVar 0)) (aNil)))))))) (sSeq (sSet 1 (mOp addAll (mVar 1) (mLst (aCons (mMkE "InvalidName" "given" (mVar 0)) (aCons (mMkE "InvalidMarks" "given" (mVar 0)) (aCons (mMkE "InvalidStep" "given" (mVar 0)) (aCons (mMkE "InvalidMoment" "given" (mVar 0)) (aNil)))))))) (sSeq (sSet 1 (mOp addAll (mVar 1) (mLst (aCons (mMkE "InvalidTakers" "given" (mVar 0)) (aCons (mMkE "InvalidKind" "given" (mVar 0)) (aCons (mMkE "InvalidWish" "given" (mVar 0)) (aCons (mMkE "InvalidIndex" "given" (mVar 0)) (aNil)))))))) (sSeq (sSet 1 (mOp addAll (mVar 1) (mLst (aCons (mMkE "NotARing" "given" (mVar 0)) (aCons (mMkE "NotAPlan" "given" (mVar 0)) (aCons (mMkE "OtherPoints" "given" (mVar 0)) (aCons (mMkE "InvalidHosts" "index" (mVar 0)) (aCons (mMkE "InvalidSteps" "index" (mVar 0)) (aNil))))))))) (sSeq (sSet 1 (mOp addAll (mVar 1) (mLst (aCons (mMkE "InvalidFurther" "index" (mVar 0)) (aCons (mMkE "InvalidWishes" "index" (mVar 0)) (aCons (mMkE "UnknownName" "given" (mVar 0)) (aCons (mMkE "InUse" "index" (mVar 0)) (aNil)))))))) (sRet (mOp addAll (mVar 1) (mLst (aCons (mMkE0 "NothingToUndo") (aCons (mMkE "NoRoom" "given" (mVar 0)) (aCons (mMkE "Broken" "index" (mVar 0)) (aNil))))))))))))
def u__law_named : MD := mkD 1 2 (sSeq (sSet 1 (mLst (aCons (mMkE "InvalidText" "given" (mVar 0)) (aCons (mMkE "InvalidNumber" "given" (mVar 0)) (aCons (mMkE "InvalidSpread" "given" (mVar 0)) (aNil)))))) (sSeq (sSet 1 (mOp addAll (mVar 1) (mLst (aCons (mMkE "InvalidPending" "given" (mVar 0)) (aCons (mMkE "InvalidPoint" "given" (mVar 0)) (aCons (mMkE "InvalidName" "given" (mVar 0)) (aNil))))))) (sSeq (sSet 1 (mOp addAll (mVar 1) (mLst (aCons (mMkE "InvalidMarks" "given" (mVar 0)) (aCons (mMkE "InvalidStep" "given" (mVar 0)) (aCons (mMkE "InvalidMoment" "given" (mVar 0)) (aNil))))))) (sSeq (sSet 1 (mOp addAll (mVar 1) (mLst (aCons (mMkE "InvalidTakers" "given" (mVar 0)) (aCons (mMkE "InvalidKind" "given" (mVar 0)) (aCons (mMkE "InvalidWish" "given" (mVar 0)) (aNil))))))) (sSeq (sSet 1 (mOp addAll (mVar 1) (mLst (aCons (mMkE "InvalidIndex" "given" (mVar 0)) (aCons (mMkE "NotARing" "given" (mVar 0)) (aCons (mMkE "NotAPlan" "given" (mVar 0)) (aCons (mMkE "OtherPoints" "given" (mVar 0)) (aNil)))))))) (sSeq (sSet 1 (mOp addAll (mVar 1) (mLst (aCons (mMkE "InvalidHosts" "index" (mVar 0)) (aCons (mMkE "InvalidSteps" "index" (mVar 0)) (aCons (mMkE "InvalidFurther" "index" (mVar 0)) (aNil))))))) (sSeq (sSet 1 (mOp addAll (mVar 1) (mLst (aCons (mMkE "InvalidWishes" "index" (mVar 0)) (aCons (mMkE "UnknownName" "given" (mVar 0)) (aCons (mMkE "InUse" "index" (mVar 0)) (aCons (mMkE0 "NothingToUndo") (aNil)))))))) (sRet (mOp addAll (mVar 1) (mLst (aCons (mMkE "NoRoom" "given" (mVar 0)) (aCons (mMkE "Broken" "index" (mVar 0)) (aNil)))))))))))))
def u__law_right : MD := mkD 1 3 (sSeq (sFor (rngI (aCons (mC (.int 4)) (aNil))) (gNm 1) (sSeq (sSet 2 (mCallD u__law_value (aCons (mVar 0) (aNil)))) (sIf (tOrZ (tNotZ (mT (mCallD u__law_lot_right (aCons (mCallD u__law_placed (aCons (mVar 2) (aNil))) (aCons (mVar 2) (aNil)))))) (tNotZ (mT (mCallD u__law_lot_right (aCons (mCallD u__law_named (aCons (mVar 2) (aNil))) (aCons (mVar 2) (aNil))))))) (sRet (mC (.bl false))) (sNil)))) (sRet (mC (.bl true))))
def u_law : MD := mkD 1 6 (sSeq (sSet 1 (mLst (aCons (mC (.int 1000000000000000000)) (aCons (mC (.int 5)) (aCons (mC (.int 12)) (aCons (mC (.int 16)) (aCons (mC (.int 24)) (aCons (mC (.int 6)) (aCons (mC (.int 6)) (aNil)))))))))) (sSeq (sIf (mT (mOp neD (mCallD reprMx (aCons (mVar 1) (aNil))) (mCallD reprMx (aCons (mLst (aCons (mOp powD (mC (.int 10)) (mC (.int 18))) (aCons (mC (.int 5)) (aCons (mC (.int 12)) (aCons (mC (.int 16)) (aCons (mC (.int 24)) (aCons (mC (.int 6)) (aCons (mC (.int 6)) (aNil))))))))) (aNil))))) (sRet (mC (.bl false))) (sNil)) (sSeq (sSet 2 (mLst (aCons (mMkE0 "BadValue") (aCons (mMkE0 "BadName") (aCons (mMkE0 "NoAnswer") (aNil)))))) (sSeq (sFor (rngI (aCons (mC (.int 3)) (aNil))) (gNm 3) (sIf (tOrZ (mT (mOp neD (mCallD u__law_sorts (aCons (mOp idxD (mVar 2) (mVar 3)) (aNil))) (mOp repD (mLst (aCons (mC (.bl false)) (aNil))) (mC (.int 25))))) (mT (mOp neD (mCallD u__law_bases (aCons (mOp idxD (mVar 2) (mVar 3)) (aNil))) (mOp repD (mLc [4] (rngI (aCons (mC (.int 3)) (aNil))) (cNm 4) (yesT) (mOp eqD (mVar 4) (mVar 3))) (mC (.int 2)))))) (sRet (mC (.bl false))) (sNil))) (sRet (mCall allD (aCons (mLc [5] (rngI (aCons (mCall max2D (aCons (mC (.int 2)) (aCons (mCall min2D (aCons (mCall lenD (aCons (mVar 0) (aNil))) (aCons (mC (.int 5)) (aNil)))) (aNil)))) (aNil))) (cNm 5) (yesT) (mCallD u__law_right (aCons (mCel (mCallD u__law_filled (aCons (mVar 0) (aCons (mVar 5) (aNil))))) (aNil)))) (aNil))))))))
end K01
end Z

local macro_rules | `(tactic| fail) => `(tactic| first
  | with_reducible refine Z.wpx_seq ?_
  | with_reducible refine Z.wpx_lift ?_
  | with_reducible refine Z.wpx_if ?_
  | with_reducible refine Z.wpx_raise ?_
  | with_reducible refine Z.wpx_set ?_
  | with_reducible refine Z.wpx_expr ?_
  | with_reducible refine Z.wpx_ret ?_
  | with_reducible refine Z.onx_ok (by assumption) ?_
  | with_reducible refine Z.onx_er (by assumption) ?_
  | with_reducible refine Z.wpx_call ?_
  | with_reducible refine Z.wpx_cm ?_
  | with_reducible refine Z.wpx_try ?_)

namespace Z
namespace K01
open PySem PySem.Spec PyProof.Rows L2
open C
/-! ### what is drawn -/
theorem rx_at {v : D} {p : PyData} (h : toPx v = some p) (hc : (p.showable && decide (p.depth ≤ 60) && decide (p.shown.length ≤ 1000)) = true) (s : S) : reprMx [v] s = some (.str p.shown, s) := by
  simp only [Bool.and_eq_true, decide_eq_true_eq] at hc
  unfold reprMx reprDx
  dsimp only
  rw [h]
  dsimp only [Option.bind_some]
  rw [if_pos ⟨hc.1.1, hc.1.2, by rw [sizeLine_eq]; omega⟩]
  rfl
def Shw (v : D) : Prop := ∃ x : Str, PyData.strOk x = true ∧ ∀ s, reprMx [v] s = some (.str x, s)
theorem shw_at {v : D} {p : PyData} (h : toPx v = some p) (hc : (p.showable && decide (p.depth ≤ 60) && decide (p.shown.length ≤ 1000)) = true) (ho : PyData.strOk p.shown = true) : Shw v := ⟨_, ho, rx_at h hc⟩
def valL : List D := [.non, .bl true, .bl false, .int 0, .int 1, .int (-1), .int 2, .int 1000000000000000000000000000000000000000, .str "", .str "a", .str "hosts", .str "5", .tup [], .tup [.int 0], .lst [], .lst [.int 1], .dic [], .dic [(.inr "a", .int 1)], .tup [.str "a", .non],
  .tup [.str "a", .str "r", .tup [.int 0]], .tup [.tup [.str "a", .str "r", .tup [.int 0]]], .lst [.str "a", .str "r", .lst [.int 0]], .str "ring 1 1 hosts 1 1 plain", .str "a b"]
theorem val_shw : ∀ v ∈ valL, Shw v := by
  intro v hv
  simp only [valL, List.mem_cons, List.not_mem_nil, or_false] at hv
  rcases hv with rfl | rfl | rfl | rfl | rfl | rfl | rfl | rfl | rfl | rfl | rfl | rfl | rfl | rfl | rfl | rfl | rfl | rfl | rfl | rfl | rfl | rfl | rfl | rfl
  all_goals exact shw_at rfl (by decide +kernel) (by decide +kernel)
theorem value_ok {s : S} {n B : Nat} (h : KG s n B) (hB : B + 100 < 2 ^ 40) : Dr u__law_value [.cel n] s n B 1 fun r => r ∈ valL := by
  refine Dr.of ?_
  unfold u__law_value
  refine wp_mkD rfl ?_
  have p39 : powD (.int 10) (.int 39) = some (.int 1000000000000000000000000000000000000000) := by simp [powD]
  have n1 : negD (.int 1) = some (.int (-1)) := rfl
  have dd : ∀ (e : EnvD) (s : S), mDisp [(mC (.str "a"), mC (.int 1))] e s = some (.dic [(.inr "a", .int 1)], s) := fun e s => rfl
  repeat fail
  refine on_some (dd _ _) ?_
  have hp := of_ok (ds := valL) h (by omega) (by decide) (by decide)
  unfold valL at hp
  repeat fail
  refine hp.on fun r s2 hr k2 l2 => ?_
  exact cut_end zhP ⟨k2.le (by omega), by omega, hr⟩
/-! ### errors judged -/
def errL : List (Str × Str) := [("InvalidText", "given"), ("InvalidNumber", "given"), ("InvalidSpread", "given"), ("InvalidPending", "given"), ("InvalidPoint", "given"), ("InvalidName", "given"), ("InvalidMarks", "given"), ("InvalidStep", "given"), ("InvalidMoment", "given"), ("InvalidTakers", "given"), ("InvalidKind", "given"), ("InvalidWish", "given"), ("InvalidIndex", "given"), ("NotARing", "given"), ("NotAPlan", "given"), ("OtherPoints", "given"), ("InvalidHosts", "index"), ("InvalidSteps", "index"), ("InvalidFurther", "index"), ("InvalidWishes", "index"), ("UnknownName", "given"), ("InUse", "index"), ("NothingToUndo", ""), ("NoRoom", "given"), ("Broken", "index")]
def errD (v : D) (p : Str × Str) : D := .exc p.1 p.2 (if p.2 = "" then .non else v)
def sortB (c : Str) : List Bool := errL.map fun p => decide ((c, p.1) ∈ prsM)
def baseB (c : Str) : List Bool := [decide ((c, ("BadValue" : Str)) ∈ prsM), decide ((c, ("BadName" : Str)) ∈ prsM), decide ((c, ("NoAnswer" : Str)) ∈ prsM), decide ((c, "ValueError") ∈ prsY), decide ((c, "LookupError") ∈ prsY), decide ((c, "ArithmeticError") ∈ prsY)]
theorem sorts_ok {c f : Str} {d : D} (s : S) (hc : c ∈ clsM) : u__law_sorts [.exc c f d] s = some (.lst ((sortB c).map .bl), s) := by
  have f0 : isxD prsM clsM tsM [.exc c f d, .ty "InvalidText"] s = some (.bl (decide ((c, ("InvalidText" : Str)) ∈ prsM)), s) := isx_at hc (by decide +kernel) rfl
  have f1 : isxD prsM clsM tsM [.exc c f d, .ty "InvalidNumber"] s = some (.bl (decide ((c, ("InvalidNumber" : Str)) ∈ prsM)), s) := isx_at hc (by decide +kernel) rfl
  have f2 : isxD prsM clsM tsM [.exc c f d, .ty "InvalidSpread"] s = some (.bl (decide ((c, ("InvalidSpread" : Str)) ∈ prsM)), s) := isx_at hc (by decide +kernel) rfl
  have f3 : isxD prsM clsM tsM [.exc c f d, .ty "InvalidPending"] s = some (.bl (decide ((c, ("InvalidPending" : Str)) ∈ prsM)), s) := isx_at hc (by decide +kernel) rfl
  have f4 : isxD prsM clsM tsM [.exc c f d, .ty "InvalidPoint"] s = some (.bl (decide ((c, ("InvalidPoint" : Str)) ∈ prsM)), s) := isx_at hc (by decide +kernel) rfl
  have f5 : isxD prsM clsM tsM [.exc c f d, .ty "InvalidName"] s = some (.bl (decide ((c, ("InvalidName" : Str)) ∈ prsM)), s) := isx_at hc (by decide +kernel) rfl
  have f6 : isxD prsM clsM tsM [.exc c f d, .ty "InvalidMarks"] s = some (.bl (decide ((c, ("InvalidMarks" : Str)) ∈ prsM)), s) := isx_at hc (by decide +kernel) rfl
  have f7 : isxD prsM clsM tsM [.exc c f d, .ty "InvalidStep"] s = some (.bl (decide ((c, ("InvalidStep" : Str)) ∈ prsM)), s) := isx_at hc (by decide +kernel) rfl
  have f8 : isxD prsM clsM tsM [.exc c f d, .ty "InvalidMoment"] s = some (.bl (decide ((c, ("InvalidMoment" : Str)) ∈ prsM)), s) := isx_at hc (by decide +kernel) rfl
  have f9 : isxD prsM clsM tsM [.exc c f d, .ty "InvalidTakers"] s = some (.bl (decide ((c, ("InvalidTakers" : Str)) ∈ prsM)), s) := isx_at hc (by decide +kernel) rfl
  have f10 : isxD prsM clsM tsM [.exc c f d, .ty "InvalidKind"] s = some (.bl (decide ((c, ("InvalidKind" : Str)) ∈ prsM)), s) := isx_at hc (by decide +kernel) rfl
  have f11 : isxD prsM clsM tsM [.exc c f d, .ty "InvalidWish"] s = some (.bl (decide ((c, ("InvalidWish" : Str)) ∈ prsM)), s) := isx_at hc (by decide +kernel) rfl
  have f12 : isxD prsM clsM tsM [.exc c f d, .ty "InvalidIndex"] s = some (.bl (decide ((c, ("InvalidIndex" : Str)) ∈ prsM)), s) := isx_at hc (by decide +kernel) rfl
  have f13 : isxD prsM clsM tsM [.exc c f d, .ty "NotARing"] s = some (.bl (decide ((c, ("NotARing" : Str)) ∈ prsM)), s) := isx_at hc (by decide +kernel) rfl
  have f14 : isxD prsM clsM tsM [.exc c f d, .ty "NotAPlan"] s = some (.bl (decide ((c, ("NotAPlan" : Str)) ∈ prsM)), s) := isx_at hc (by decide +kernel) rfl
  have f15 : isxD prsM clsM tsM [.exc c f d, .ty "OtherPoints"] s = some (.bl (decide ((c, ("OtherPoints" : Str)) ∈ prsM)), s) := isx_at hc (by decide +kernel) rfl
  have f16 : isxD prsM clsM tsM [.exc c f d, .ty "InvalidHosts"] s = some (.bl (decide ((c, ("InvalidHosts" : Str)) ∈ prsM)), s) := isx_at hc (by decide +kernel) rfl
  have f17 : isxD prsM clsM tsM [.exc c f d, .ty "InvalidSteps"] s = some (.bl (decide ((c, ("InvalidSteps" : Str)) ∈ prsM)), s) := isx_at hc (by decide +kernel) rfl
  have f18 : isxD prsM clsM tsM [.exc c f d, .ty "InvalidFurther"] s = some (.bl (decide ((c, ("InvalidFurther" : Str)) ∈ prsM)), s) := isx_at hc (by decide +kernel) rfl
  have f19 : isxD prsM clsM tsM [.exc c f d, .ty "InvalidWishes"] s = some (.bl (decide ((c, ("InvalidWishes" : Str)) ∈ prsM)), s) := isx_at hc (by decide +kernel) rfl
  have f20 : isxD prsM clsM tsM [.exc c f d, .ty "UnknownName"] s = some (.bl (decide ((c, ("UnknownName" : Str)) ∈ prsM)), s) := isx_at hc (by decide +kernel) rfl
  have f21 : isxD prsM clsM tsM [.exc c f d, .ty "InUse"] s = some (.bl (decide ((c, ("InUse" : Str)) ∈ prsM)), s) := isx_at hc (by decide +kernel) rfl
  have f22 : isxD prsM clsM tsM [.exc c f d, .ty "NothingToUndo"] s = some (.bl (decide ((c, ("NothingToUndo" : Str)) ∈ prsM)), s) := isx_at hc (by decide +kernel) rfl
  have f23 : isxD prsM clsM tsM [.exc c f d, .ty "NoRoom"] s = some (.bl (decide ((c, ("NoRoom" : Str)) ∈ prsM)), s) := isx_at hc (by decide +kernel) rfl
  have f24 : isxD prsM clsM tsM [.exc c f d, .ty "Broken"] s = some (.bl (decide ((c, ("Broken" : Str)) ∈ prsM)), s) := isx_at hc (by decide +kernel) rfl
  have e : (sortB c).map D.bl = [.bl (decide ((c, ("InvalidText" : Str)) ∈ prsM)), .bl (decide ((c, ("InvalidNumber" : Str)) ∈ prsM)), .bl (decide ((c, ("InvalidSpread" : Str)) ∈ prsM)), .bl (decide ((c, ("InvalidPending" : Str)) ∈ prsM)), .bl (decide ((c, ("InvalidPoint" : Str)) ∈ prsM)), .bl (decide ((c, ("InvalidName" : Str)) ∈ prsM)), .bl (decide ((c, ("InvalidMarks" : Str)) ∈ prsM)), .bl (decide ((c, ("InvalidStep" : Str)) ∈ prsM)), .bl (decide ((c, ("InvalidMoment" : Str)) ∈ prsM)), .bl (decide ((c, ("InvalidTakers" : Str)) ∈ prsM)), .bl (decide ((c, ("InvalidKind" : Str)) ∈ prsM)), .bl (decide ((c, ("InvalidWish" : Str)) ∈ prsM)), .bl (decide ((c, ("InvalidIndex" : Str)) ∈ prsM)), .bl (decide ((c, ("NotARing" : Str)) ∈ prsM)), .bl (decide ((c, ("NotAPlan" : Str)) ∈ prsM)), .bl (decide ((c, ("OtherPoints" : Str)) ∈ prsM)), .bl (decide ((c, ("InvalidHosts" : Str)) ∈ prsM)), .bl (decide ((c, ("InvalidSteps" : Str)) ∈ prsM)), .bl (decide ((c, ("InvalidFurther" : Str)) ∈ prsM)), .bl (decide ((c, ("InvalidWishes" : Str)) ∈ prsM)), .bl (decide ((c, ("UnknownName" : Str)) ∈ prsM)), .bl (decide ((c, ("InUse" : Str)) ∈ prsM)), .bl (decide ((c, ("NothingToUndo" : Str)) ∈ prsM)), .bl (decide ((c, ("NoRoom" : Str)) ∈ prsM)), .bl (decide ((c, ("Broken" : Str)) ∈ prsM))] := rfl
  rw [e]
  generalize decide ((c, ("InvalidText" : Str)) ∈ prsM) = b0 at *
  generalize decide ((c, ("InvalidNumber" : Str)) ∈ prsM) = b1 at *
  generalize decide ((c, ("InvalidSpread" : Str)) ∈ prsM) = b2 at *
  generalize decide ((c, ("InvalidPending" : Str)) ∈ prsM) = b3 at *
  generalize decide ((c, ("InvalidPoint" : Str)) ∈ prsM) = b4 at *
  generalize decide ((c, ("InvalidName" : Str)) ∈ prsM) = b5 at *
  generalize decide ((c, ("InvalidMarks" : Str)) ∈ prsM) = b6 at *
  generalize decide ((c, ("InvalidStep" : Str)) ∈ prsM) = b7 at *
  generalize decide ((c, ("InvalidMoment" : Str)) ∈ prsM) = b8 at *
  generalize decide ((c, ("InvalidTakers" : Str)) ∈ prsM) = b9 at *
  generalize decide ((c, ("InvalidKind" : Str)) ∈ prsM) = b10 at *
  generalize decide ((c, ("InvalidWish" : Str)) ∈ prsM) = b11 at *
  generalize decide ((c, ("InvalidIndex" : Str)) ∈ prsM) = b12 at *
  generalize decide ((c, ("NotARing" : Str)) ∈ prsM) = b13 at *
  generalize decide ((c, ("NotAPlan" : Str)) ∈ prsM) = b14 at *
  generalize decide ((c, ("OtherPoints" : Str)) ∈ prsM) = b15 at *
  generalize decide ((c, ("InvalidHosts" : Str)) ∈ prsM) = b16 at *
  generalize decide ((c, ("InvalidSteps" : Str)) ∈ prsM) = b17 at *
  generalize decide ((c, ("InvalidFurther" : Str)) ∈ prsM) = b18 at *
  generalize decide ((c, ("InvalidWishes" : Str)) ∈ prsM) = b19 at *
  generalize decide ((c, ("UnknownName" : Str)) ∈ prsM) = b20 at *
  generalize decide ((c, ("InUse" : Str)) ∈ prsM) = b21 at *
  generalize decide ((c, ("NothingToUndo" : Str)) ∈ prsM) = b22 at *
  generalize decide ((c, ("NoRoom" : Str)) ∈ prsM) = b23 at *
  generalize decide ((c, ("Broken" : Str)) ∈ prsM) = b24 at *
  refine eq_of_on ?_
  unfold u__law_sorts
  refine wp_mkD rfl ?_
  repeat fail
theorem isy_at {prs : List (Str × String)} {cs : List Str} {ts : List String} {c f : Str} {T : String} {d : D} {s : S} (hc : c ∈ cs) (hT : T ∈ ts) : isyD prs cs ts [.exc c f d, .opq (.ty T)] s = some (.bl (decide ((c, T) ∈ prs)), s) := by
  unfold isyD
  dsimp only
  rw [if_pos ⟨hc, hT⟩]
theorem bases_ok {c f : Str} {d : D} (s : S) (hc : c ∈ clsM) : u__law_bases [.exc c f d] s = some (.lst ((baseB c).map .bl), s) := by
  have f0 : isxD prsM clsM tsM [.exc c f d, .ty "BadValue"] s = some (.bl (decide ((c, ("BadValue" : Str)) ∈ prsM)), s) := isx_at hc (by decide +kernel) rfl
  have f1 : isxD prsM clsM tsM [.exc c f d, .ty "BadName"] s = some (.bl (decide ((c, ("BadName" : Str)) ∈ prsM)), s) := isx_at hc (by decide +kernel) rfl
  have f2 : isxD prsM clsM tsM [.exc c f d, .ty "NoAnswer"] s = some (.bl (decide ((c, ("NoAnswer" : Str)) ∈ prsM)), s) := isx_at hc (by decide +kernel) rfl
  have g0 : isyD prsY clsM tsY [.exc c f d, .opq (.ty "ValueError")] s = some (.bl (decide ((c, "ValueError") ∈ prsY)), s) := isy_at hc (by decide +kernel)
  have g1 : isyD prsY clsM tsY [.exc c f d, .opq (.ty "LookupError")] s = some (.bl (decide ((c, "LookupError") ∈ prsY)), s) := isy_at hc (by decide +kernel)
  have g2 : isyD prsY clsM tsY [.exc c f d, .opq (.ty "ArithmeticError")] s = some (.bl (decide ((c, "ArithmeticError") ∈ prsY)), s) := isy_at hc (by decide +kernel)
  have e : (baseB c).map D.bl = [.bl (decide ((c, ("BadValue" : Str)) ∈ prsM)), .bl (decide ((c, ("BadName" : Str)) ∈ prsM)), .bl (decide ((c, ("NoAnswer" : Str)) ∈ prsM)), .bl (decide ((c, "ValueError") ∈ prsY)), .bl (decide ((c, "LookupError") ∈ prsY)), .bl (decide ((c, "ArithmeticError") ∈ prsY))] := rfl
  rw [e]
  generalize decide ((c, ("BadValue" : Str)) ∈ prsM) = b0 at *
  generalize decide ((c, ("BadName" : Str)) ∈ prsM) = b1 at *
  generalize decide ((c, ("NoAnswer" : Str)) ∈ prsM) = b2 at *
  generalize decide ((c, "ValueError") ∈ prsY) = b3 at *
  generalize decide ((c, "LookupError") ∈ prsY) = b4 at *
  generalize decide ((c, "ArithmeticError") ∈ prsY) = b5 at *
  refine eq_of_on ?_
  unfold u__law_bases
  refine wp_mkD rfl ?_
  repeat fail
/-- what there is to know of each class of errors -/
theorem tab : ∀ j : Fin 25, ∃ p : Str × Str, errL[j.val]? = some p ∧ p.1 ∈ clsM ∧ sortB p.1 = (List.range 25).map (fun k => decide (k = j.val)) ∧ baseB p.1 = ((List.range 3).map fun k => decide (k = if j.val < 20 then 0 else if j.val < 22 then 1 else 2)) ++ ((List.range 3).map fun k => decide (k = if j.val < 20 then 0 else if j.val < 22 then 1 else 2)) := by
  have key : ((List.range 25).all fun j => match errL[j]? with
    | some p => decide (p.1 ∈ clsM) && (sortB p.1 == (List.range 25).map (fun k => decide (k = j))) && (baseB p.1 == ((List.range 3).map fun k => decide (k = if j < 20 then 0 else if j < 22 then 1 else 2)) ++ ((List.range 3).map fun k => decide (k = if j < 20 then 0 else if j < 22 then 1 else 2)))
    | none => false) = true := by decide +kernel
  intro j
  have := List.all_eq_true.mp key j.val (List.mem_range.mpr j.isLt)
  cases e : errL[j.val]? with
  | none => rw [e] at this; cases this
  | some p =>
    rw [e] at this
    simp only [Bool.and_eq_true, decide_eq_true_eq, beq_iff_eq] at this
    exact ⟨p, rfl, this.1.1, this.1.2, this.2⟩
theorem held_ok {v : D} {j : Nat} {p : Str × Str} (s : S) (hj : errL[j]? = some p) (h22 : j ≠ 22) : u__law_held [errD v p, .int j] s = some (v, s) := by
  have hl : j < 25 := (List.getElem?_eq_some_iff.mp hj).1
  have : j = 0 ∨ j = 1 ∨ j = 2 ∨ j = 3 ∨ j = 4 ∨ j = 5 ∨ j = 6 ∨ j = 7 ∨ j = 8 ∨ j = 9 ∨ j = 10 ∨ j = 11 ∨ j = 12 ∨ j = 13 ∨ j = 14 ∨ j = 15 ∨ j = 16 ∨ j = 17 ∨ j = 18 ∨ j = 19 ∨ j = 20 ∨ j = 21 ∨ j = 23 ∨ j = 24 := by omega
  rcases this with rfl | rfl | rfl | rfl | rfl | rfl | rfl | rfl | rfl | rfl | rfl | rfl | rfl | rfl | rfl | rfl | rfl | rfl | rfl | rfl | rfl | rfl | rfl | rfl
  · cases hj
    have ee : errD v ("InvalidText", "given") = .exc "InvalidText" "given" v := congrArg (D.exc "InvalidText" "given") (if_neg (by decide +kernel))
    rw [ee]
    have i1 : inAD (.int ((0 : Nat) : Int)) (.lst [.int 16, .int 17, .int 18, .int 19, .int 21, .int 24]) = some (.bl false) := rfl
    refine eq_of_on ?_
    unfold u__law_held
    refine wp_mkD rfl ?_
    repeat fail
    refine wp_exF ?_
    repeat fail
    exact ⟨_, _, rfl, by decide +kernel, by decide +kernel, cut_end zhP ⟨rfl, rfl⟩⟩
  · cases hj
    have ee : errD v ("InvalidNumber", "given") = .exc "InvalidNumber" "given" v := congrArg (D.exc "InvalidNumber" "given") (if_neg (by decide +kernel))
    rw [ee]
    have i1 : inAD (.int ((1 : Nat) : Int)) (.lst [.int 16, .int 17, .int 18, .int 19, .int 21, .int 24]) = some (.bl false) := rfl
    refine eq_of_on ?_
    unfold u__law_held
    refine wp_mkD rfl ?_
    repeat fail
    refine wp_exF ?_
    repeat fail
    exact ⟨_, _, rfl, by decide +kernel, by decide +kernel, cut_end zhP ⟨rfl, rfl⟩⟩
  · cases hj
    have ee : errD v ("InvalidSpread", "given") = .exc "InvalidSpread" "given" v := congrArg (D.exc "InvalidSpread" "given") (if_neg (by decide +kernel))
    rw [ee]
    have i1 : inAD (.int ((2 : Nat) : Int)) (.lst [.int 16, .int 17, .int 18, .int 19, .int 21, .int 24]) = some (.bl false) := rfl
    refine eq_of_on ?_
    unfold u__law_held
    refine wp_mkD rfl ?_
    repeat fail
    refine wp_exF ?_
    repeat fail
    exact ⟨_, _, rfl, by decide +kernel, by decide +kernel, cut_end zhP ⟨rfl, rfl⟩⟩
  · cases hj
    have ee : errD v ("InvalidPending", "given") = .exc "InvalidPending" "given" v := congrArg (D.exc "InvalidPending" "given") (if_neg (by decide +kernel))
    rw [ee]
    have i1 : inAD (.int ((3 : Nat) : Int)) (.lst [.int 16, .int 17, .int 18, .int 19, .int 21, .int 24]) = some (.bl false) := rfl
    refine eq_of_on ?_
    unfold u__law_held
    refine wp_mkD rfl ?_
    repeat fail
    refine wp_exF ?_
    repeat fail
    exact ⟨_, _, rfl, by decide +kernel, by decide +kernel, cut_end zhP ⟨rfl, rfl⟩⟩
  · cases hj
    have ee : errD v ("InvalidPoint", "given") = .exc "InvalidPoint" "given" v := congrArg (D.exc "InvalidPoint" "given") (if_neg (by decide +kernel))
    rw [ee]
    have i1 : inAD (.int ((4 : Nat) : Int)) (.lst [.int 16, .int 17, .int 18, .int 19, .int 21, .int 24]) = some (.bl false) := rfl
    refine eq_of_on ?_
    unfold u__law_held
    refine wp_mkD rfl ?_
    repeat fail
    refine wp_exF ?_
    repeat fail
    exact ⟨_, _, rfl, by decide +kernel, by decide +kernel, cut_end zhP ⟨rfl, rfl⟩⟩
  · cases hj
    have ee : errD v ("InvalidName", "given") = .exc "InvalidName" "given" v := congrArg (D.exc "InvalidName" "given") (if_neg (by decide +kernel))
    rw [ee]
    have i1 : inAD (.int ((5 : Nat) : Int)) (.lst [.int 16, .int 17, .int 18, .int 19, .int 21, .int 24]) = some (.bl false) := rfl
    refine eq_of_on ?_
    unfold u__law_held
    refine wp_mkD rfl ?_
    repeat fail
    refine wp_exF ?_
    repeat fail
    exact ⟨_, _, rfl, by decide +kernel, by decide +kernel, cut_end zhP ⟨rfl, rfl⟩⟩
  · cases hj
    have ee : errD v ("InvalidMarks", "given") = .exc "InvalidMarks" "given" v := congrArg (D.exc "InvalidMarks" "given") (if_neg (by decide +kernel))
    rw [ee]
    have i1 : inAD (.int ((6 : Nat) : Int)) (.lst [.int 16, .int 17, .int 18, .int 19, .int 21, .int 24]) = some (.bl false) := rfl
    refine eq_of_on ?_
    unfold u__law_held
    refine wp_mkD rfl ?_
    repeat fail
    refine wp_exF ?_
    repeat fail
    exact ⟨_, _, rfl, by decide +kernel, by decide +kernel, cut_end zhP ⟨rfl, rfl⟩⟩
  · cases hj
    have ee : errD v ("InvalidStep", "given") = .exc "InvalidStep" "given" v := congrArg (D.exc "InvalidStep" "given") (if_neg (by decide +kernel))
    rw [ee]
    have i1 : inAD (.int ((7 : Nat) : Int)) (.lst [.int 16, .int 17, .int 18, .int 19, .int 21, .int 24]) = some (.bl false) := rfl
    refine eq_of_on ?_
    unfold u__law_held
    refine wp_mkD rfl ?_
    repeat fail
    refine wp_exF ?_
    repeat fail
    exact ⟨_, _, rfl, by decide +kernel, by decide +kernel, cut_end zhP ⟨rfl, rfl⟩⟩
  · cases hj
    have ee : errD v ("InvalidMoment", "given") = .exc "InvalidMoment" "given" v := congrArg (D.exc "InvalidMoment" "given") (if_neg (by decide +kernel))
    rw [ee]
    have i1 : inAD (.int ((8 : Nat) : Int)) (.lst [.int 16, .int 17, .int 18, .int 19, .int 21, .int 24]) = some (.bl false) := rfl
    refine eq_of_on ?_
    unfold u__law_held
    refine wp_mkD rfl ?_
    repeat fail
    refine wp_exF ?_
    repeat fail
    exact ⟨_, _, rfl, by decide +kernel, by decide +kernel, cut_end zhP ⟨rfl, rfl⟩⟩
  · cases hj
    have ee : errD v ("InvalidTakers", "given") = .exc "InvalidTakers" "given" v := congrArg (D.exc "InvalidTakers" "given") (if_neg (by decide +kernel))
    rw [ee]
    have i1 : inAD (.int ((9 : Nat) : Int)) (.lst [.int 16, .int 17, .int 18, .int 19, .int 21, .int 24]) = some (.bl false) := rfl
    refine eq_of_on ?_
    unfold u__law_held
    refine wp_mkD rfl ?_
    repeat fail
    refine wp_exF ?_
    repeat fail
    exact ⟨_, _, rfl, by decide +kernel, by decide +kernel, cut_end zhP ⟨rfl, rfl⟩⟩
  · cases hj
    have ee : errD v ("InvalidKind", "given") = .exc "InvalidKind" "given" v := congrArg (D.exc "InvalidKind" "given") (if_neg (by decide +kernel))
    rw [ee]
    have i1 : inAD (.int ((10 : Nat) : Int)) (.lst [.int 16, .int 17, .int 18, .int 19, .int 21, .int 24]) = some (.bl false) := rfl
    refine eq_of_on ?_
    unfold u__law_held
    refine wp_mkD rfl ?_
    repeat fail
    refine wp_exF ?_
    repeat fail
    exact ⟨_, _, rfl, by decide +kernel, by decide +kernel, cut_end zhP ⟨rfl, rfl⟩⟩
  · cases hj
    have ee : errD v ("InvalidWish", "given") = .exc "InvalidWish" "given" v := congrArg (D.exc "InvalidWish" "given") (if_neg (by decide +kernel))
    rw [ee]
    have i1 : inAD (.int ((11 : Nat) : Int)) (.lst [.int 16, .int 17, .int 18, .int 19, .int 21, .int 24]) = some (.bl false) := rfl
    refine eq_of_on ?_
    unfold u__law_held
    refine wp_mkD rfl ?_
    repeat fail
    refine wp_exF ?_
    repeat fail
    exact ⟨_, _, rfl, by decide +kernel, by decide +kernel, cut_end zhP ⟨rfl, rfl⟩⟩
  · cases hj
    have ee : errD v ("InvalidIndex", "given") = .exc "InvalidIndex" "given" v := congrArg (D.exc "InvalidIndex" "given") (if_neg (by decide +kernel))
    rw [ee]
    have i1 : inAD (.int ((12 : Nat) : Int)) (.lst [.int 16, .int 17, .int 18, .int 19, .int 21, .int 24]) = some (.bl false) := rfl
    refine eq_of_on ?_
    unfold u__law_held
    refine wp_mkD rfl ?_
    repeat fail
    refine wp_exF ?_
    repeat fail
    exact ⟨_, _, rfl, by decide +kernel, by decide +kernel, cut_end zhP ⟨rfl, rfl⟩⟩
  · cases hj
    have ee : errD v ("NotARing", "given") = .exc "NotARing" "given" v := congrArg (D.exc "NotARing" "given") (if_neg (by decide +kernel))
    rw [ee]
    have i1 : inAD (.int ((13 : Nat) : Int)) (.lst [.int 16, .int 17, .int 18, .int 19, .int 21, .int 24]) = some (.bl false) := rfl
    refine eq_of_on ?_
    unfold u__law_held
    refine wp_mkD rfl ?_
    repeat fail
    refine wp_exF ?_
    repeat fail
    exact ⟨_, _, rfl, by decide +kernel, by decide +kernel, cut_end zhP ⟨rfl, rfl⟩⟩
  · cases hj
    have ee : errD v ("NotAPlan", "given") = .exc "NotAPlan" "given" v := congrArg (D.exc "NotAPlan" "given") (if_neg (by decide +kernel))
    rw [ee]
    have i1 : inAD (.int ((14 : Nat) : Int)) (.lst [.int 16, .int 17, .int 18, .int 19, .int 21, .int 24]) = some (.bl false) := rfl
    refine eq_of_on ?_
    unfold u__law_held
    refine wp_mkD rfl ?_
    repeat fail
    refine wp_exF ?_
    repeat fail
    exact ⟨_, _, rfl, by decide +kernel, by decide +kernel, cut_end zhP ⟨rfl, rfl⟩⟩
  · cases hj
    have ee : errD v ("OtherPoints", "given") = .exc "OtherPoints" "given" v := congrArg (D.exc "OtherPoints" "given") (if_neg (by decide +kernel))
    rw [ee]
    have i1 : inAD (.int ((15 : Nat) : Int)) (.lst [.int 16, .int 17, .int 18, .int 19, .int 21, .int 24]) = some (.bl false) := rfl
    refine eq_of_on ?_
    unfold u__law_held
    refine wp_mkD rfl ?_
    repeat fail
    refine wp_exF ?_
    repeat fail
    exact ⟨_, _, rfl, by decide +kernel, by decide +kernel, cut_end zhP ⟨rfl, rfl⟩⟩
  · cases hj
    have ee : errD v ("InvalidHosts", "index") = .exc "InvalidHosts" "index" v := congrArg (D.exc "InvalidHosts" "index") (if_neg (by decide +kernel))
    rw [ee]
    have i1 : inAD (.int ((16 : Nat) : Int)) (.lst [.int 16, .int 17, .int 18, .int 19, .int 21, .int 24]) = some (.bl true) := rfl
    refine eq_of_on ?_
    unfold u__law_held
    refine wp_mkD rfl ?_
    repeat fail
    refine wp_exF ?_
    repeat fail
    exact ⟨_, _, rfl, by decide +kernel, by decide +kernel, cut_end zhP ⟨rfl, rfl⟩⟩
  · cases hj
    have ee : errD v ("InvalidSteps", "index") = .exc "InvalidSteps" "index" v := congrArg (D.exc "InvalidSteps" "index") (if_neg (by decide +kernel))
    rw [ee]
    have i1 : inAD (.int ((17 : Nat) : Int)) (.lst [.int 16, .int 17, .int 18, .int 19, .int 21, .int 24]) = some (.bl true) := rfl
    refine eq_of_on ?_
    unfold u__law_held
    refine wp_mkD rfl ?_
    repeat fail
    refine wp_exF ?_
    repeat fail
    exact ⟨_, _, rfl, by decide +kernel, by decide +kernel, cut_end zhP ⟨rfl, rfl⟩⟩
  · cases hj
    have ee : errD v ("InvalidFurther", "index") = .exc "InvalidFurther" "index" v := congrArg (D.exc "InvalidFurther" "index") (if_neg (by decide +kernel))
    rw [ee]
    have i1 : inAD (.int ((18 : Nat) : Int)) (.lst [.int 16, .int 17, .int 18, .int 19, .int 21, .int 24]) = some (.bl true) := rfl
    refine eq_of_on ?_
    unfold u__law_held
    refine wp_mkD rfl ?_
    repeat fail
    refine wp_exF ?_
    repeat fail
    exact ⟨_, _, rfl, by decide +kernel, by decide +kernel, cut_end zhP ⟨rfl, rfl⟩⟩
  · cases hj
    have ee : errD v ("InvalidWishes", "index") = .exc "InvalidWishes" "index" v := congrArg (D.exc "InvalidWishes" "index") (if_neg (by decide +kernel))
    rw [ee]
    have i1 : inAD (.int ((19 : Nat) : Int)) (.lst [.int 16, .int 17, .int 18, .int 19, .int 21, .int 24]) = some (.bl true) := rfl
    refine eq_of_on ?_
    unfold u__law_held
    refine wp_mkD rfl ?_
    repeat fail
    refine wp_exF ?_
    repeat fail
    exact ⟨_, _, rfl, by decide +kernel, by decide +kernel, cut_end zhP ⟨rfl, rfl⟩⟩
  · cases hj
    have ee : errD v ("UnknownName", "given") = .exc "UnknownName" "given" v := congrArg (D.exc "UnknownName" "given") (if_neg (by decide +kernel))
    rw [ee]
    have i1 : inAD (.int ((20 : Nat) : Int)) (.lst [.int 16, .int 17, .int 18, .int 19, .int 21, .int 24]) = some (.bl false) := rfl
    refine eq_of_on ?_
    unfold u__law_held
    refine wp_mkD rfl ?_
    repeat fail
    refine wp_exF ?_
    repeat fail
    exact ⟨_, _, rfl, by decide +kernel, by decide +kernel, cut_end zhP ⟨rfl, rfl⟩⟩
  · cases hj
    have ee : errD v ("InUse", "index") = .exc "InUse" "index" v := congrArg (D.exc "InUse" "index") (if_neg (by decide +kernel))
    rw [ee]
    have i1 : inAD (.int ((21 : Nat) : Int)) (.lst [.int 16, .int 17, .int 18, .int 19, .int 21, .int 24]) = some (.bl true) := rfl
    refine eq_of_on ?_
    unfold u__law_held
    refine wp_mkD rfl ?_
    repeat fail
    refine wp_exF ?_
    repeat fail
    exact ⟨_, _, rfl, by decide +kernel, by decide +kernel, cut_end zhP ⟨rfl, rfl⟩⟩
  · cases hj
    have ee : errD v ("NoRoom", "given") = .exc "NoRoom" "given" v := congrArg (D.exc "NoRoom" "given") (if_neg (by decide +kernel))
    rw [ee]
    have i1 : inAD (.int ((23 : Nat) : Int)) (.lst [.int 16, .int 17, .int 18, .int 19, .int 21, .int 24]) = some (.bl false) := rfl
    refine eq_of_on ?_
    unfold u__law_held
    refine wp_mkD rfl ?_
    repeat fail
    refine wp_exF ?_
    repeat fail
    exact ⟨_, _, rfl, by decide +kernel, by decide +kernel, cut_end zhP ⟨rfl, rfl⟩⟩
  · cases hj
    have ee : errD v ("Broken", "index") = .exc "Broken" "index" v := congrArg (D.exc "Broken" "index") (if_neg (by decide +kernel))
    rw [ee]
    have i1 : inAD (.int ((24 : Nat) : Int)) (.lst [.int 16, .int 17, .int 18, .int 19, .int 21, .int 24]) = some (.bl true) := rfl
    refine eq_of_on ?_
    unfold u__law_held
    refine wp_mkD rfl ?_
    repeat fail
    refine wp_exF ?_
    repeat fail
    exact ⟨_, _, rfl, by decide +kernel, by decide +kernel, cut_end zhP ⟨rfl, rfl⟩⟩
def lotD (v : D) : D := .lst (errL.map (errD v))
theorem bools_p : ∀ l : List Bool, toPL (l.map D.bl) = some (l.map PyData.bool) ∧ PyData.canLayAll0 (l.map PyData.bool) = true ∧ PyData.depthAll (l.map PyData.bool) = 0 ∧ PyData.eqvAll (l.map PyData.bool) (l.map PyData.bool) = true
  | [] => ⟨rfl, by simp [PyData.canLayAll0], by simp [PyData.depthAll], by simp [PyData.eqvAll]⟩
  | b :: l => by
    obtain ⟨h1, h2, h3, h4⟩ := bools_p l
    exact ⟨by simp [toPL, toP, h1], by simp [PyData.canLayAll0, PyData.canLay0, h2], by simp [PyData.depthAll, PyData.depth, h3], by simp [PyData.eqvAll, PyData.eqv, h4]⟩
theorem ne_bools {a b : List Bool} (h : a = b) : neD (.lst (a.map .bl)) (.lst (b.map .bl)) = some (.bl false) := by
  subst h
  obtain ⟨h1, h2, h3, h4⟩ := bools_p a
  have hp : toP (.lst (a.map .bl)) = some (.list (a.map PyData.bool)) := by simp [toP, h1]
  have sh : SeqAt.shaped (.list (a.map PyData.bool)) = true := by
    unfold SeqAt.shaped
    simp [PyData.canLay0, h2, PyData.depth, h3]
  have e : eqB (.lst (a.map .bl)) (.lst (a.map .bl)) = some true := by
    unfold eqB
    simp only [toV0, hp]
    rw [if_pos ⟨sh, sh⟩]
    simp [PyData.eqv, h4]
  unfold neD
  rw [e]; rfl
theorem lot_ok {v : D} (s : S) (hv : Shw v) : u__law_lot_right [lotD v, v] s = some (.bl true, s) := by
  obtain ⟨x, x1, x2⟩ := hv
  have xs := x2 s
  refine eq_of_on ?_
  unfold u__law_lot_right
  refine wp_mkD rfl ?_
  unfold lotD
  repeat fail
  refine wp_forI (fun j e s1 => ∃ (x2 x3 x4 : Sl), e = [.val (.lst (errL.map (errD v))), .val v, x2, x3, x4] ∧ s1 = s) ⟨.unb, .unb, .unb, rfl, rfl⟩ (fun j e s1 d hd hI => ?_) (fun e s1 hI => ?_)
  · obtain ⟨y2, y3, y4, rfl, rfl⟩ := hI
    obtain ⟨hj, rfl⟩ := rng_at hd
    have hj : j < 25 := by simpa using hj
    obtain ⟨p, p1, p2, p3, p4⟩ := tab ⟨j, hj⟩
    dsimp only at p1 p3 p4
    have ix : idxD (.lst (errL.map (errD v))) (.int (j : Int)) = some (errD v p) := eq_of_on1 (wp_ixL (i := j) (by rw [List.getElem?_map, Int.toNat_natCast, p1]; rfl) (by omega) rfl)
    have so : u__law_sorts [errD v p] s1 = _ := sorts_ok s1 p2
    have ba : u__law_bases [errD v p] s1 = _ := bases_ok s1 p2
    rw [p3] at so
    rw [p4] at ba
    have lt : ∀ k : Int, ltD (.int (j : Int)) (.int k) = some (.bl (decide ((j : Int) < k))) := fun k => rfl
    have e20 := lt 20
    have e22 := lt 22
    have nb := ne_bools (rfl : (List.range 25).map (fun k => decide (k = j)) = (List.range 25).map (fun k => decide (k = j)))
    have bj : j ≠ 22 → u__law_held [errD v p, .int j] s1 = some (v, s1) := fun h => held_ok s1 p1 h
    generalize hED : errD v p = ED at *
    generalize hLL : D.lst (errL.map (errD v)) = LL at *
    generalize hSB : (List.range 25).map (fun k => decide (k = j)) = SB at *
    have bs : ∃ B : Nat, (if j < 20 then 0 else if j < 22 then 1 else 2) = B ∧ mIf (mT (mOp ltD (mVar 2) (mC (.int 20)))) (mC (.int 0)) (mIf (mT (mOp ltD (mVar 2) (mC (.int 22)))) (mC (.int 1)) (mC (.int 2))) [.val LL, .val v, .val (.int (j : Int)), y3, y4] s1 = some (.int (B : Int), s1) := by
      refine ⟨_, rfl, ?_⟩
      rcases (show j < 20 ∨ (20 ≤ j ∧ j < 22) ∨ 22 ≤ j by omega) with h | ⟨h, h2⟩ | h
      · rw [decide_eq_true (by omega)] at e20
        rw [if_pos h]
        refine eq_of_on ?_
        repeat fail
      · rw [decide_eq_false (by omega)] at e20
        rw [decide_eq_true (by omega)] at e22
        rw [if_neg (by omega), if_pos h2]
        refine eq_of_on ?_
        repeat fail
      · rw [decide_eq_false (by omega)] at e20
        rw [decide_eq_false (by omega)] at e22
        rw [if_neg (by omega), if_neg (by omega)]
        refine eq_of_on ?_
        repeat fail
    obtain ⟨B, hB, hm⟩ := bs
    rw [hB] at ba
    clear hB e20 e22 lt
    repeat fail
    have er : rngD 0 (Int.toNat 25) = (List.range 25).map (fun k : Nat => D.int ((0 : Int) + (k : Nat))) := rfl
    rw [er]
    refine wp_lcM (fun k : Nat => D.int ((0 : Int) + (k : Nat))) D.bl (fun k => decide (k = j)) (List.range 25) (fun k hk => ?_) ?_
    · have ek : eqD (.int ((0 : Int) + (k : Nat))) (.int (j : Int)) = some (.bl (decide (k = j))) := (eq_of_on1 (wp_eqI rfl)).trans (by
        have : decide ((0 : Int) + (k : Nat) = j) = decide (k = j) := by rw [Bool.eq_iff_iff, decide_eq_true_iff, decide_eq_true_iff]; omega
        rw [this])
      repeat fail
    · rw [hSB]
      have lSB : SB.length = 25 := by rw [← hSB]; simp
      refine wp_sz (by rw [List.length_map]; omega) ?_
      repeat fail
      have er3 : rngD 0 (Int.toNat 3) = (List.range 3).map (fun k : Nat => D.int ((0 : Int) + (k : Nat))) := rfl
      rw [er3]
      refine wp_lcM (fun k : Nat => D.int ((0 : Int) + (k : Nat))) D.bl (fun k => decide (k = B)) (List.range 3) (fun k hk => ?_) ?_
      · have ek : eqD (.int ((0 : Int) + (k : Nat))) (.int (B : Int)) = some (.bl (decide (k = B))) := (eq_of_on1 (wp_eqI rfl)).trans (by
          have : decide ((0 : Int) + (k : Nat) = B) = decide (k = B) := by rw [Bool.eq_iff_iff, decide_eq_true_iff, decide_eq_true_iff]; omega
          rw [this])
        repeat fail
      · have l3 : ((List.range 3).map fun k => decide (k = B)).length = 3 := by simp
        have nb3 := ne_bools (rfl : ((List.range 3).map fun k => decide (k = B)) ++ ((List.range 3).map fun k => decide (k = B)) = _)
        generalize ((List.range 3).map fun k => decide (k = B)) = BL at *
        have rp : repD (.lst (BL.map D.bl)) (.int 2) = some (.lst ((BL ++ BL).map D.bl)) := by
          unfold repD
          dsimp only
          rw [if_pos ⟨by omega, by omega, by rw [List.length_map]; omega⟩]
          simp [List.replicate]
        refine wp_sz (by rw [List.length_map]; omega) ?_
        have n22 : neD (.int (j : Int)) (.int 22) = some (.bl (!decide ((j : Int) = 22))) := eq_of_on1 (wp_neI rfl)
        by_cases h22 : j = 22
        · rw [decide_eq_true (by omega)] at n22
          repeat fail
          exact ⟨_, _, _, rfl, rfl⟩
        · have bj := bj h22
          rw [decide_eq_false (by omega)] at n22
          have nx : neD (.str x) (.str x) = some (.bl false) := (eq_of_on1 (wp_neS rfl)).trans (by simp)
          repeat fail
          exact ⟨_, _, _, rfl, rfl⟩
  · obtain ⟨y2, y3, y4, rfl, rfl⟩ := hI
    have ln : lenD [.lst (errL.map (errD v))] = some (.int 25) := rfl
    generalize D.lst (errL.map (errD v)) = LL at *
    repeat fail
theorem wp_mkE {c f : Str} {m : ME} {e : EnvD} {s : S} {Q : D → S → Prop} (h : On (m e s) fun d s1 => Q (.exc c f d) s1) : On (mMkE c f m e s) Q := by
  obtain ⟨d, s1, h1, q⟩ := h
  exact ⟨_, s1, by unfold mMkE; rw [h1], q⟩
theorem on_mkE0 {c : Str} {e : EnvD} {s : S} {Q : D → S → Prop} (q : Q (.exc c "" .non) s) : On (mMkE0 c e s) Q := ⟨_, _, rfl, q⟩
theorem placed_ok (v : D) (s : S) : u__law_placed [v] s = some (lotD v, s) := by
  refine eq_of_on ?_
  unfold u__law_placed
  refine wp_mkD rfl ?_
  repeat (first | fail | refine wp_mkE ?_ | refine on_mkE0 ?_)
theorem named_ok (v : D) (s : S) : u__law_named [v] s = some (lotD v, s) := by
  refine eq_of_on ?_
  unfold u__law_named
  refine wp_mkD rfl ?_
  repeat (first | fail | refine wp_mkE ?_ | refine on_mkE0 ?_)
theorem right_ok {s : S} {n B : Nat} (h : KG s n B) (hB : B + 1000 < 2 ^ 40) : Dr u__law_right [.cel n] s n B 8 fun r => r = .bl true := by
  refine Dr.of ?_
  unfold u__law_right
  refine wp_mkD rfl ?_
  repeat fail
  refine wp_forI (fun j e s1 => ∃ (x1 x2 : Sl), e = [.val (.cel n), x1, x2] ∧ KG s1 n (B + j * 2) ∧ s1.length = s.length) ⟨.unb, .unb, rfl, h.le (by omega), rfl⟩ (fun j e s1 d hd hI => ?_) (fun e s1 hI => ?_)
  · obtain ⟨x1, x2, rfl, k1, l1⟩ := hI
    obtain ⟨hj, rfl⟩ := rng_at hd
    have hj : j < 4 := by simpa using hj
    repeat fail
    refine (value_ok k1 (by omega)).on fun v s2 hv k2 l2 => ?_
    have pl := placed_ok v s2
    have nm := named_ok v s2
    have lo := lot_ok s2 (val_shw v hv)
    generalize lotD v = LV at *
    repeat fail
    exact ⟨_, _, rfl, k2.le (by omega), by omega⟩
  · obtain ⟨x1, x2, rfl, k1, l1⟩ := hI
    have hlen : (rngD 0 (Int.toNat 4)).length = 4 := by simp [rngD]
    rw [hlen] at k1
    repeat fail
    rfl
def rootL : List Str := ["BadValue", "BadName", "NoAnswer"]
theorem tab3 : ∀ j : Nat, j < 3 → ∃ c : Str, rootL[j]? = some c ∧ c ∈ clsM ∧ sortB c = List.replicate 25 false ∧ baseB c = ((List.range 3).map fun k => decide (k = j)) ++ ((List.range 3).map fun k => decide (k = j)) := by
  have key : ((List.range 3).all fun j => match rootL[j]? with
    | some c => decide (c ∈ clsM) && (sortB c == List.replicate 25 false) && (baseB c == ((List.range 3).map fun k => decide (k = j)) ++ ((List.range 3).map fun k => decide (k = j)))
    | none => false) = true := by decide +kernel
  intro j hj
  have := List.all_eq_true.mp key j (List.mem_range.mpr hj)
  cases e : rootL[j]? with
  | none => rw [e] at this; cases this
  | some p =>
    rw [e] at this
    simp only [Bool.and_eq_true, decide_eq_true_eq, beq_iff_eq] at this
    exact ⟨p, rfl, this.1.1, this.1.2, this.2⟩
theorem plain (ns : List Int) (hl : ns.length ≤ 63) (hb : ∀ z ∈ ns, Builtin.Int.intBits z ≤ 1048576) : ∃ s', u_law [.lst (ns.map .int)] [] = some (.bl true, s') := by
  have key : On (u_law [.lst (ns.map .int)] []) fun d _ => d = .bl true := by
    unfold u_law
    refine wp_mkD rfl ?_
    have p18 : powD (.int 10) (.int 18) = some (.int 1000000000000000000) := by simp [powD]
    have rx : reprMx [.lst [.int 1000000000000000000, .int 5, .int 12, .int 16, .int 24, .int 6, .int 6]] [] = some (.str (PyData.shown (.list [.int 1000000000000000000, .int 5, .int 12, .int 16, .int 24, .int 6, .int 6])), []) := rx_at rfl (by decide +kernel) []
    have nx : ∀ x : Str, neD (.str x) (.str x) = some (.bl false) := fun x => (eq_of_on1 (wp_neS rfl)).trans (by simp)
    generalize PyData.shown (.list [.int 1000000000000000000, .int 5, .int 12, .int 16, .int 24, .int 6, .int 6]) = X at *
    have nx := nx X
    repeat (first | fail | refine on_mkE0 ?_)
    have rl : D.lst [.exc "BadValue" "" .non, .exc "BadName" "" .non, .exc "NoAnswer" "" .non] = .lst (rootL.map fun c => .exc c "" .non) := rfl
    rw [rl]
    refine wp_forI (fun j e s1 => ∃ (x3 x4 : Sl), e = [.val (.lst (ns.map .int)), .val (.lst [.int 1000000000000000000, .int 5, .int 12, .int 16, .int 24, .int 6, .int 6]), .val (.lst (rootL.map fun c => .exc c "" .non)), x3, x4, .unb] ∧ s1 = []) ⟨.unb, .unb, rfl, rfl⟩ (fun j e s1 d hd hI => ?_) (fun e s1 hI => ?_)
    · obtain ⟨y3, y4, rfl, rfl⟩ := hI
      obtain ⟨hj, rfl⟩ := rng_at hd
      have hj : j < 3 := by simpa using hj
      obtain ⟨c, c1, c2, c3, c4⟩ := tab3 j hj
      have ix : idxD (.lst (rootL.map fun c => .exc c "" .non)) (.int (j : Int)) = some (.exc c "" .non) := eq_of_on1 (wp_ixL (i := j) (by rw [List.getElem?_map, Int.toNat_natCast, c1]; rfl) (by omega) rfl)
      have so : u__law_sorts [.exc c "" .non] [] = _ := sorts_ok (f := "") (d := .non) [] c2
      have ba : u__law_bases [.exc c "" .non] [] = _ := bases_ok (f := "") (d := .non) [] c2
      rw [c3] at so
      rw [c4] at ba
      have nb := ne_bools (rfl : List.replicate 25 false = List.replicate 25 false)
      have r25 : repD (.lst [.bl false]) (.int 25) = some (.lst ((List.replicate 25 false).map D.bl)) := rfl
      generalize hSB : List.replicate 25 false = SB at *
      generalize D.lst (rootL.map fun c => .exc c "" .non) = RL at *
      generalize D.lst [.int 1000000000000000000, .int 5, .int 12, .int 16, .int 24, .int 6, .int 6] = ML at *
      generalize D.exc c "" .non = EC at *
      generalize D.lst (ns.map .int) = NL at *
      repeat fail
      have er3 : rngD 0 (Int.toNat 3) = (List.range 3).map (fun k : Nat => D.int ((0 : Int) + (k : Nat))) := rfl
      rw [er3]
      refine wp_lcM (fun k : Nat => D.int ((0 : Int) + (k : Nat))) D.bl (fun k => decide (k = j)) (List.range 3) (fun k hk => ?_) ?_
      · have ek : eqD (.int ((0 : Int) + (k : Nat))) (.int (j : Int)) = some (.bl (decide (k = j))) := (eq_of_on1 (wp_eqI rfl)).trans (by
          have : decide ((0 : Int) + (k : Nat) = j) = decide (k = j) := by rw [Bool.eq_iff_iff, decide_eq_true_iff, decide_eq_true_iff]; omega
          rw [this])
        repeat fail
      · have l3 : ((List.range 3).map fun k => decide (k = j)).length = 3 := by simp
        have nb3 := ne_bools (rfl : ((List.range 3).map fun k => decide (k = j)) ++ ((List.range 3).map fun k => decide (k = j)) = _)
        generalize ((List.range 3).map fun k => decide (k = j)) = BL at *
        have rp : repD (.lst (BL.map D.bl)) (.int 2) = some (.lst ((BL ++ BL).map D.bl)) := by
          unfold repD
          dsimp only
          rw [if_pos ⟨by omega, by omega, by rw [List.length_map]; omega⟩]
          simp [List.replicate]
        refine wp_sz (by rw [List.length_map]; omega) ?_
        repeat fail
        exact ⟨_, _, rfl, rfl⟩
    · obtain ⟨y3, y4, rfl, rfl⟩ := hI
      repeat bv_omega
      rw [List.length_map]
      generalize hK : (if (if 5 < (ns.length : Int) then 5 else (ns.length : Int)) > 2 then (if 5 < (ns.length : Int) then 5 else (ns.length : Int)) else 2).toNat = K
      have K6 : K ≤ 6 := by subst hK; split <;> split <;> omega
      refine wp_lcI (fun j s => Ks s) (fun j d => d = .bl true) (fun d hd => by cases hd) (fun j s d hd hI => ?_) (fun ys s' h1 h2 h3 => ?_)
      · obtain ⟨hj, rfl⟩ := rng_at hd
        obtain ⟨a, b, e, b0, b1⟩ := filled_ok hb (t := j) (by omega) s
        repeat bv_omega
        refine on_some e ?_
        repeat bv_omega
        have kg : KG (s ++ [.lst [.int a, .int b, .int 0]]) s.length 0 := ⟨fun d hd => by
          rcases List.mem_append.mp hd with h | h
          · exact hI d h
          · exact .inl ⟨[a, b, 0], List.mem_singleton.mp h⟩, a, b, 0, by simp, b0, by omega, by omega, by omega⟩
        exact (right_ok kg (by omega)).on fun r s1 hr k1 l1 => ⟨hr, k1.all⟩
      · have hlen : ys.length ≤ 6 := by rw [h2]; simp [rngD]; omega
        have hys : ys = (ys.map fun _ => true).map .bl := by
          rw [List.map_map]
          refine List.ext_getElem (by simp) fun i hi1 hi2 => ?_
          have := h3 i ys[i] (List.getElem?_eq_getElem hi1)
          simp [this]
        refine wp_sz (by omega) ?_
        repeat bv_omega
        rw [hys]
        refine wp_all ?_
        refine cut_end zhP ?_
        congr 1
        rw [List.all_eq_true]
        intro x hx
        obtain ⟨_, _, rfl⟩ := List.mem_map.mp hx
        rfl
  obtain ⟨d, s', h1, rfl⟩ := key
  exact ⟨s', h1⟩
end K01
end Z

set_option Elab.async false
set_option linter.all false
set_option maxRecDepth 100000
set_option maxHeartbeats 4000000
namespace Z
namespace K01
open PySem PySem.Spec PyProof.Rows L2
open C
def N__law_sorts : List PySem.Str := ["_law_e", "_law_found"]
def ps__law_sorts : List PySem.Str := ["_law_e"]
theorem sc__law_sorts : FnScope N__law_sorts ps__law_sorts (defScope st__law_sorts) := ⟨rfl, rfl, rfl, by decide +kernel, rfl, by decide +kernel, by decide +kernel⟩
def N__law_bases : List PySem.Str := ["_law_e", "_law_found"]
def ps__law_bases : List PySem.Str := ["_law_e"]
theorem sc__law_bases : FnScope N__law_bases ps__law_bases (defScope st__law_bases) := ⟨rfl, rfl, rfl, by decide +kernel, rfl, by decide +kernel, by decide +kernel⟩
def N__law_dip : List PySem.Str := ["_law_keg", "_law_many", "_law_figure", "_law_mix"]
def ps__law_dip : List PySem.Str := ["_law_keg", "_law_many"]
theorem sc__law_dip : FnScope N__law_dip ps__law_dip (defScope st__law_dip) := ⟨rfl, rfl, rfl, by decide +kernel, rfl, by decide +kernel, by decide +kernel⟩
def N__law_of : List PySem.Str := ["_law_keg", "_law_things"]
def ps__law_of : List PySem.Str := ["_law_keg", "_law_things"]
theorem sc__law_of : FnScope N__law_of ps__law_of (defScope st__law_of) := ⟨rfl, rfl, rfl, by decide +kernel, rfl, by decide +kernel, by decide +kernel⟩
def N__law_value : List PySem.Str := ["_law_keg", "_law_menu"]
def ps__law_value : List PySem.Str := ["_law_keg"]
theorem sc__law_value : FnScope N__law_value ps__law_value (defScope st__law_value) := ⟨rfl, rfl, rfl, by decide +kernel, rfl, by decide +kernel, by decide +kernel⟩
def N__law_held : List PySem.Str := ["_law_e", "_law_at"]
def ps__law_held : List PySem.Str := ["_law_e", "_law_at"]
theorem sc__law_held : FnScope N__law_held ps__law_held (defScope st__law_held) := ⟨rfl, rfl, rfl, by decide +kernel, rfl, by decide +kernel, by decide +kernel⟩
def N__law_lot_right : List PySem.Str := ["_law_some", "_law_thing", "_law_at", "_law_base", "_law_k"]
def ps__law_lot_right : List PySem.Str := ["_law_some", "_law_thing"]
theorem sc__law_lot_right : FnScope N__law_lot_right ps__law_lot_right (defScope st__law_lot_right) := ⟨rfl, rfl, rfl, by decide +kernel, rfl, by decide +kernel, by decide +kernel⟩
def N_InvalidText___init__ : List PySem.Str := ["self", "given"]
def ps_InvalidText___init__ : List PySem.Str := ["self", "given"]
theorem sc_InvalidText___init__ : FnScope N_InvalidText___init__ ps_InvalidText___init__ (defScope st_InvalidText___init__) := ⟨rfl, rfl, rfl, by decide +kernel, rfl, by decide +kernel, by decide +kernel⟩
def N_InvalidNumber___init__ : List PySem.Str := ["self", "given"]
def ps_InvalidNumber___init__ : List PySem.Str := ["self", "given"]
theorem sc_InvalidNumber___init__ : FnScope N_InvalidNumber___init__ ps_InvalidNumber___init__ (defScope st_InvalidNumber___init__) := ⟨rfl, rfl, rfl, by decide +kernel, rfl, by decide +kernel, by decide +kernel⟩
def N_InvalidSpread___init__ : List PySem.Str := ["self", "given"]
def ps_InvalidSpread___init__ : List PySem.Str := ["self", "given"]
theorem sc_InvalidSpread___init__ : FnScope N_InvalidSpread___init__ ps_InvalidSpread___init__ (defScope st_InvalidSpread___init__) := ⟨rfl, rfl, rfl, by decide +kernel, rfl, by decide +kernel, by decide +kernel⟩
def N_InvalidPending___init__ : List PySem.Str := ["self", "given"]
def ps_InvalidPending___init__ : List PySem.Str := ["self", "given"]
theorem sc_InvalidPending___init__ : FnScope N_InvalidPending___init__ ps_InvalidPending___init__ (defScope st_InvalidPending___init__) := ⟨rfl, rfl, rfl, by decide +kernel, rfl, by decide +kernel, by decide +kernel⟩
def N_InvalidPoint___init__ : List PySem.Str := ["self", "given"]
def ps_InvalidPoint___init__ : List PySem.Str := ["self", "given"]
theorem sc_InvalidPoint___init__ : FnScope N_InvalidPoint___init__ ps_InvalidPoint___init__ (defScope st_InvalidPoint___init__) := ⟨rfl, rfl, rfl, by decide +kernel, rfl, by decide +kernel, by decide +kernel⟩
def N_InvalidName___init__ : List PySem.Str := ["self", "given"]
def ps_InvalidName___init__ : List PySem.Str := ["self", "given"]
theorem sc_InvalidName___init__ : FnScope N_InvalidName___init__ ps_InvalidName___init__ (defScope st_InvalidName___init__) := ⟨rfl, rfl, rfl, by decide +kernel, rfl, by decide +kernel, by decide +kernel⟩
def N_InvalidMarks___init__ : List PySem.Str := ["self", "given"]
def ps_InvalidMarks___init__ : List PySem.Str := ["self", "given"]
theorem sc_InvalidMarks___init__ : FnScope N_InvalidMarks___init__ ps_InvalidMarks___init__ (defScope st_InvalidMarks___init__) := ⟨rfl, rfl, rfl, by decide +kernel, rfl, by decide +kernel, by decide +kernel⟩
def N_InvalidStep___init__ : List PySem.Str := ["self", "given"]
def ps_InvalidStep___init__ : List PySem.Str := ["self", "given"]
theorem sc_InvalidStep___init__ : FnScope N_InvalidStep___init__ ps_InvalidStep___init__ (defScope st_InvalidStep___init__) := ⟨rfl, rfl, rfl, by decide +kernel, rfl, by decide +kernel, by decide +kernel⟩
def N_InvalidMoment___init__ : List PySem.Str := ["self", "given"]
def ps_InvalidMoment___init__ : List PySem.Str := ["self", "given"]
theorem sc_InvalidMoment___init__ : FnScope N_InvalidMoment___init__ ps_InvalidMoment___init__ (defScope st_InvalidMoment___init__) := ⟨rfl, rfl, rfl, by decide +kernel, rfl, by decide +kernel, by decide +kernel⟩
def N_InvalidTakers___init__ : List PySem.Str := ["self", "given"]
def ps_InvalidTakers___init__ : List PySem.Str := ["self", "given"]
theorem sc_InvalidTakers___init__ : FnScope N_InvalidTakers___init__ ps_InvalidTakers___init__ (defScope st_InvalidTakers___init__) := ⟨rfl, rfl, rfl, by decide +kernel, rfl, by decide +kernel, by decide +kernel⟩
def N_InvalidKind___init__ : List PySem.Str := ["self", "given"]
def ps_InvalidKind___init__ : List PySem.Str := ["self", "given"]
theorem sc_InvalidKind___init__ : FnScope N_InvalidKind___init__ ps_InvalidKind___init__ (defScope st_InvalidKind___init__) := ⟨rfl, rfl, rfl, by decide +kernel, rfl, by decide +kernel, by decide +kernel⟩
def N_InvalidWish___init__ : List PySem.Str := ["self", "given"]
def ps_InvalidWish___init__ : List PySem.Str := ["self", "given"]
theorem sc_InvalidWish___init__ : FnScope N_InvalidWish___init__ ps_InvalidWish___init__ (defScope st_InvalidWish___init__) := ⟨rfl, rfl, rfl, by decide +kernel, rfl, by decide +kernel, by decide +kernel⟩
def N_InvalidIndex___init__ : List PySem.Str := ["self", "given"]
def ps_InvalidIndex___init__ : List PySem.Str := ["self", "given"]
theorem sc_InvalidIndex___init__ : FnScope N_InvalidIndex___init__ ps_InvalidIndex___init__ (defScope st_InvalidIndex___init__) := ⟨rfl, rfl, rfl, by decide +kernel, rfl, by decide +kernel, by decide +kernel⟩
def N_NotARing___init__ : List PySem.Str := ["self", "given"]
def ps_NotARing___init__ : List PySem.Str := ["self", "given"]
theorem sc_NotARing___init__ : FnScope N_NotARing___init__ ps_NotARing___init__ (defScope st_NotARing___init__) := ⟨rfl, rfl, rfl, by decide +kernel, rfl, by decide +kernel, by decide +kernel⟩
def N_NotAPlan___init__ : List PySem.Str := ["self", "given"]
def ps_NotAPlan___init__ : List PySem.Str := ["self", "given"]
theorem sc_NotAPlan___init__ : FnScope N_NotAPlan___init__ ps_NotAPlan___init__ (defScope st_NotAPlan___init__) := ⟨rfl, rfl, rfl, by decide +kernel, rfl, by decide +kernel, by decide +kernel⟩
def N_OtherPoints___init__ : List PySem.Str := ["self", "given"]
def ps_OtherPoints___init__ : List PySem.Str := ["self", "given"]
theorem sc_OtherPoints___init__ : FnScope N_OtherPoints___init__ ps_OtherPoints___init__ (defScope st_OtherPoints___init__) := ⟨rfl, rfl, rfl, by decide +kernel, rfl, by decide +kernel, by decide +kernel⟩
def N_InvalidHosts___init__ : List PySem.Str := ["self", "index"]
def ps_InvalidHosts___init__ : List PySem.Str := ["self", "index"]
theorem sc_InvalidHosts___init__ : FnScope N_InvalidHosts___init__ ps_InvalidHosts___init__ (defScope st_InvalidHosts___init__) := ⟨rfl, rfl, rfl, by decide +kernel, rfl, by decide +kernel, by decide +kernel⟩
def N_InvalidSteps___init__ : List PySem.Str := ["self", "index"]
def ps_InvalidSteps___init__ : List PySem.Str := ["self", "index"]
theorem sc_InvalidSteps___init__ : FnScope N_InvalidSteps___init__ ps_InvalidSteps___init__ (defScope st_InvalidSteps___init__) := ⟨rfl, rfl, rfl, by decide +kernel, rfl, by decide +kernel, by decide +kernel⟩
def N_InvalidFurther___init__ : List PySem.Str := ["self", "index"]
def ps_InvalidFurther___init__ : List PySem.Str := ["self", "index"]
theorem sc_InvalidFurther___init__ : FnScope N_InvalidFurther___init__ ps_InvalidFurther___init__ (defScope st_InvalidFurther___init__) := ⟨rfl, rfl, rfl, by decide +kernel, rfl, by decide +kernel, by decide +kernel⟩
def N_InvalidWishes___init__ : List PySem.Str := ["self", "index"]
def ps_InvalidWishes___init__ : List PySem.Str := ["self", "index"]
theorem sc_InvalidWishes___init__ : FnScope N_InvalidWishes___init__ ps_InvalidWishes___init__ (defScope st_InvalidWishes___init__) := ⟨rfl, rfl, rfl, by decide +kernel, rfl, by decide +kernel, by decide +kernel⟩
def N_UnknownName___init__ : List PySem.Str := ["self", "given"]
def ps_UnknownName___init__ : List PySem.Str := ["self", "given"]
theorem sc_UnknownName___init__ : FnScope N_UnknownName___init__ ps_UnknownName___init__ (defScope st_UnknownName___init__) := ⟨rfl, rfl, rfl, by decide +kernel, rfl, by decide +kernel, by decide +kernel⟩
def N_InUse___init__ : List PySem.Str := ["self", "index"]
def ps_InUse___init__ : List PySem.Str := ["self", "index"]
theorem sc_InUse___init__ : FnScope N_InUse___init__ ps_InUse___init__ (defScope st_InUse___init__) := ⟨rfl, rfl, rfl, by decide +kernel, rfl, by decide +kernel, by decide +kernel⟩
def N_NothingToUndo___init__ : List PySem.Str := ["self"]
def ps_NothingToUndo___init__ : List PySem.Str := ["self"]
theorem sc_NothingToUndo___init__ : FnScope N_NothingToUndo___init__ ps_NothingToUndo___init__ (defScope st_NothingToUndo___init__) := ⟨rfl, rfl, rfl, by decide +kernel, rfl, by decide +kernel, by decide +kernel⟩
def N_NoRoom___init__ : List PySem.Str := ["self", "given"]
def ps_NoRoom___init__ : List PySem.Str := ["self", "given"]
theorem sc_NoRoom___init__ : FnScope N_NoRoom___init__ ps_NoRoom___init__ (defScope st_NoRoom___init__) := ⟨rfl, rfl, rfl, by decide +kernel, rfl, by decide +kernel, by decide +kernel⟩
def N_Broken___init__ : List PySem.Str := ["self", "index"]
def ps_Broken___init__ : List PySem.Str := ["self", "index"]
theorem sc_Broken___init__ : FnScope N_Broken___init__ ps_Broken___init__ (defScope st_Broken___init__) := ⟨rfl, rfl, rfl, by decide +kernel, rfl, by decide +kernel, by decide +kernel⟩
def N__law_placed : List PySem.Str := ["_law_thing", "_law_found"]
def ps__law_placed : List PySem.Str := ["_law_thing"]
theorem sc__law_placed : FnScope N__law_placed ps__law_placed (defScope st__law_placed) := ⟨rfl, rfl, rfl, by decide +kernel, rfl, by decide +kernel, by decide +kernel⟩
def N__law_named : List PySem.Str := ["_law_thing", "_law_found"]
def ps__law_named : List PySem.Str := ["_law_thing"]
theorem sc__law_named : FnScope N__law_named ps__law_named (defScope st__law_named) := ⟨rfl, rfl, rfl, by decide +kernel, rfl, by decide +kernel, by decide +kernel⟩
def N__law_right : List PySem.Str := ["_law_keg", "_law_turn", "_law_thing"]
def ps__law_right : List PySem.Str := ["_law_keg"]
theorem sc__law_right : FnScope N__law_right ps__law_right (defScope st__law_right) := ⟨rfl, rfl, rfl, by decide +kernel, rfl, by decide +kernel, by decide +kernel⟩
def N__law_filled : List PySem.Str := ["_law_script", "_law_turn", "_law_own", "_law_mix", "_law_cell"]
def ps__law_filled : List PySem.Str := ["_law_script", "_law_turn"]
theorem sc__law_filled : FnScope N__law_filled ps__law_filled (defScope st__law_filled) := ⟨rfl, rfl, rfl, by decide +kernel, rfl, by decide +kernel, by decide +kernel⟩
def N_law : List PySem.Str := ["_law_script", "_law_told", "_law_roots", "_law_at", "_law_k", "_law_turn"]
def ps_law : List PySem.Str := ["_law_script"]
theorem sc_law : FnScope N_law ps_law (defScope st_law) := ⟨rfl, rfl, rfl, by decide +kernel, rfl, by decide +kernel, by decide +kernel⟩
abbrev TxZ (w : World) (K : PySem.W.Frag) (mg : PySem.Str → Option Value) : Prop := TxG exL fnL tsL w K mg
section
variable {P : Program} {w : World} {K : PySem.W.Frag} {mg : PySem.Str → Option Value} {base : Heap}
theorem er_BadValue (T : TxZ w K mg) : PySem.XL0.TxtB K mg "BadValue" (He.ga K "BadValue") := txtB (T.glo 9) (T.fact 10 (f := fun K => errB0 K "BadValue") rfl)
theorem er_BadName (T : TxZ w K mg) : PySem.XL0.TxtB K mg "BadName" (He.ga K "BadName") := txtB (T.glo 11) (T.fact 12 (f := fun K => errB0 K "BadName") rfl)
theorem er_NoAnswer (T : TxZ w K mg) : PySem.XL0.TxtB K mg "NoAnswer" (He.ga K "NoAnswer") := txtB (T.glo 13) (T.fact 14 (f := fun K => errB0 K "NoAnswer") rfl)
theorem ok__law_sorts (T : TxZ w K mg) : DfZ P w K mg base 1 d__law_sorts ps__law_sorts (spM K u__law_sorts) := dfz_M (T.fun_ 0) sc__law_sorts rfl rfl (by decide) (fun fd F => F.bindsN fun _ _ _ _ _ _ us hl => match us, hl with | [_], _ => rfl) fun cdv A outer s H E hr =>
  (s_cons (p_set 1 sc__law_sorts.nd (d_frz (f_lst (a_cons (d_bltM (cr_isx (T.fact 18 (f := fun K => isxB K prsM clsM tsM) rfl)) bt_isinstance rfl (T.free 17) (a_cons (p_var 0) (a_cons (d_ty rfl (T.glo 16)) a_nil))) (a_cons (d_bltM (cr_isx (T.fact 18 (f := fun K => isxB K prsM clsM tsM) rfl)) bt_isinstance rfl (T.free 17) (a_cons (p_var 0) (a_cons (d_ty rfl (T.glo 29)) a_nil))) (a_cons (d_bltM (cr_isx (T.fact 18 (f := fun K => isxB K prsM clsM tsM) rfl)) bt_isinstance rfl (T.free 17) (a_cons (p_var 0) (a_cons (d_ty rfl (T.glo 32)) a_nil))) a_nil)))))) (s_cons (p_set 1 sc__law_sorts.nd (d_addA (p_var 1) (d_frz (f_lst (a_cons (d_bltM (cr_isx (T.fact 18 (f := fun K => isxB K prsM clsM tsM) rfl)) bt_isinstance rfl (T.free 17) (a_cons (p_var 0) (a_cons (d_ty rfl (T.glo 30)) a_nil))) (a_cons (d_bltM (cr_isx (T.fact 18 (f := fun K => isxB K prsM clsM tsM) rfl)) bt_isinstance rfl (T.free 17) (a_cons (p_var 0) (a_cons (d_ty rfl (T.glo 31)) a_nil))) (a_cons (d_bltM (cr_isx (T.fact 18 (f := fun K => isxB K prsM clsM tsM) rfl)) bt_isinstance rfl (T.free 17) (a_cons (p_var 0) (a_cons (d_ty rfl (T.glo 28)) a_nil))) a_nil))))))) (s_cons (p_set 1 sc__law_sorts.nd (d_addA (p_var 1) (d_frz (f_lst (a_cons (d_bltM (cr_isx (T.fact 18 (f := fun K => isxB K prsM clsM tsM) rfl)) bt_isinstance rfl (T.free 17) (a_cons (p_var 0) (a_cons (d_ty rfl (T.glo 26)) a_nil))) (a_cons (d_bltM (cr_isx (T.fact 18 (f := fun K => isxB K prsM clsM tsM) rfl)) bt_isinstance rfl (T.free 17) (a_cons (p_var 0) (a_cons (d_ty rfl (T.glo 33)) a_nil))) (a_cons (d_bltM (cr_isx (T.fact 18 (f := fun K => isxB K prsM clsM tsM) rfl)) bt_isinstance rfl (T.free 17) (a_cons (p_var 0) (a_cons (d_ty rfl (T.glo 27)) a_nil))) a_nil))))))) (s_cons (p_set 1 sc__law_sorts.nd (d_addA (p_var 1) (d_frz (f_lst (a_cons (d_bltM (cr_isx (T.fact 18 (f := fun K => isxB K prsM clsM tsM) rfl)) bt_isinstance rfl (T.free 17) (a_cons (p_var 0) (a_cons (d_ty rfl (T.glo 35)) a_nil))) (a_cons (d_bltM (cr_isx (T.fact 18 (f := fun K => isxB K prsM clsM tsM) rfl)) bt_isinstance rfl (T.free 17) (a_cons (p_var 0) (a_cons (d_ty rfl (T.glo 25)) a_nil))) (a_cons (d_bltM (cr_isx (T.fact 18 (f := fun K => isxB K prsM clsM tsM) rfl)) bt_isinstance rfl (T.free 17) (a_cons (p_var 0) (a_cons (d_ty rfl (T.glo 36)) a_nil))) a_nil))))))) (s_cons (p_set 1 sc__law_sorts.nd (d_addA (p_var 1) (d_frz (f_lst (a_cons (d_bltM (cr_isx (T.fact 18 (f := fun K => isxB K prsM clsM tsM) rfl)) bt_isinstance rfl (T.free 17) (a_cons (p_var 0) (a_cons (d_ty rfl (T.glo 24)) a_nil))) (a_cons (d_bltM (cr_isx (T.fact 18 (f := fun K => isxB K prsM clsM tsM) rfl)) bt_isinstance rfl (T.free 17) (a_cons (p_var 0) (a_cons (d_ty rfl (T.glo 40)) a_nil))) (a_cons (d_bltM (cr_isx (T.fact 18 (f := fun K => isxB K prsM clsM tsM) rfl)) bt_isinstance rfl (T.free 17) (a_cons (p_var 0) (a_cons (d_ty rfl (T.glo 39)) a_nil))) a_nil))))))) (s_cons (p_set 1 sc__law_sorts.nd (d_addA (p_var 1) (d_frz (f_lst (a_cons (d_bltM (cr_isx (T.fact 18 (f := fun K => isxB K prsM clsM tsM) rfl)) bt_isinstance rfl (T.free 17) (a_cons (p_var 0) (a_cons (d_ty rfl (T.glo 42)) a_nil))) (a_cons (d_bltM (cr_isx (T.fact 18 (f := fun K => isxB K prsM clsM tsM) rfl)) bt_isinstance rfl (T.free 17) (a_cons (p_var 0) (a_cons (d_ty rfl (T.glo 23)) a_nil))) (a_cons (d_bltM (cr_isx (T.fact 18 (f := fun K => isxB K prsM clsM tsM) rfl)) bt_isinstance rfl (T.free 17) (a_cons (p_var 0) (a_cons (d_ty rfl (T.glo 34)) a_nil))) a_nil))))))) (s_cons (p_set 1 sc__law_sorts.nd (d_addA (p_var 1) (d_frz (f_lst (a_cons (d_bltM (cr_isx (T.fact 18 (f := fun K => isxB K prsM clsM tsM) rfl)) bt_isinstance rfl (T.free 17) (a_cons (p_var 0) (a_cons (d_ty rfl (T.glo 22)) a_nil))) (a_cons (d_bltM (cr_isx (T.fact 18 (f := fun K => isxB K prsM clsM tsM) rfl)) bt_isinstance rfl (T.free 17) (a_cons (p_var 0) (a_cons (d_ty rfl (T.glo 37)) a_nil))) (a_cons (d_bltM (cr_isx (T.fact 18 (f := fun K => isxB K prsM clsM tsM) rfl)) bt_isinstance rfl (T.free 17) (a_cons (p_var 0) (a_cons (d_ty rfl (T.glo 43)) a_nil))) a_nil))))))) (s_cons (p_set 1 sc__law_sorts.nd (d_addA (p_var 1) (d_frz (f_lst (a_cons (d_bltM (cr_isx (T.fact 18 (f := fun K => isxB K prsM clsM tsM) rfl)) bt_isinstance rfl (T.free 17) (a_cons (p_var 0) (a_cons (d_ty rfl (T.glo 21)) a_nil))) (a_cons (d_bltM (cr_isx (T.fact 18 (f := fun K => isxB K prsM clsM tsM) rfl)) bt_isinstance rfl (T.free 17) (a_cons (p_var 0) (a_cons (d_ty rfl (T.glo 41)) a_nil))) (a_cons (d_bltM (cr_isx (T.fact 18 (f := fun K => isxB K prsM clsM tsM) rfl)) bt_isinstance rfl (T.free 17) (a_cons (p_var 0) (a_cons (d_ty rfl (T.glo 38)) a_nil))) a_nil))))))) (s_one (s_ret (d_addA (p_var 1) (d_frz (f_lst (a_cons (d_bltM (cr_isx (T.fact 18 (f := fun K => isxB K prsM clsM tsM) rfl)) bt_isinstance rfl (T.free 17) (a_cons (p_var 0) (a_cons (d_ty rfl (T.glo 20)) a_nil))) a_nil))))))))))))))
theorem ok__law_bases (T : TxZ w K mg) : DfZ P w K mg base 1 d__law_bases ps__law_bases (spM K u__law_bases) := dfz_M (T.fun_ 1) sc__law_bases rfl rfl (by decide) (fun fd F => F.bindsN fun _ _ _ _ _ _ us hl => match us, hl with | [_], _ => rfl) fun cdv A outer s H E hr =>
  (s_cons (p_set 1 sc__law_bases.nd (d_frz (f_lst (a_cons (d_bltM (cr_isx (T.fact 18 (f := fun K => isxB K prsM clsM tsM) rfl)) bt_isinstance rfl (T.free 17) (a_cons (p_var 0) (a_cons (d_ty rfl (T.glo 9)) a_nil))) (a_cons (d_bltM (cr_isx (T.fact 18 (f := fun K => isxB K prsM clsM tsM) rfl)) bt_isinstance rfl (T.free 17) (a_cons (p_var 0) (a_cons (d_ty rfl (T.glo 11)) a_nil))) (a_cons (d_bltM (cr_isx (T.fact 18 (f := fun K => isxB K prsM clsM tsM) rfl)) bt_isinstance rfl (T.free 17) (a_cons (p_var 0) (a_cons (d_ty rfl (T.glo 13)) a_nil))) a_nil)))))) (s_one (s_ret (d_addA (p_var 1) (d_frz (f_lst (a_cons (d_bltM (cr_isy (T.fact 19 (f := fun K => isyB K prsY clsM tsY) rfl)) bt_isinstance rfl (T.free 17) (a_cons (p_var 0) (a_cons (d_bty rfl (T.free 45) bt_ValueError) a_nil))) (a_cons (d_bltM (cr_isy (T.fact 19 (f := fun K => isyB K prsY clsM tsY) rfl)) bt_isinstance rfl (T.free 17) (a_cons (p_var 0) (a_cons (d_bty rfl (T.free 46) bt_LookupError) a_nil))) (a_cons (d_bltM (cr_isy (T.fact 19 (f := fun K => isyB K prsY clsM tsY) rfl)) bt_isinstance rfl (T.free 17) (a_cons (p_var 0) (a_cons (d_bty rfl (T.free 47) bt_ArithmeticError) a_nil))) a_nil)))))))))
theorem ok__law_dip (T : TxZ w K mg) : DfZ P w K mg base 1 d__law_dip ps__law_dip (spM K u__law_dip) := dfz_M (T.fun_ 2) sc__law_dip rfl rfl (by decide) (fun fd F => F.bindsN fun _ _ _ _ _ _ us hl => match us, hl with | [_, _], _ => rfl) fun cdv A outer s H E hr =>
  (s_cons (s_if (t_gt (d_idxCel (p_var 0) d_int) d_int) (s_cons (s_asg (d_callB call_divmodW divmod_ok bt_divmod rfl (T.free 52) (a_cons (d_idxCel (p_var 0) d_int) (a_cons (p_var 1) a_nil))) (g_seq (n := 2) rfl (gs_cons (g_cel (p_var 0) d_int) (gs_cons (p_nm 2 sc__law_dip.nd) gs_nil)) (gsLen1 (gsLen1 gsLen0)))) (s_one (s_ret (p_var 2)))) s_nil) (s_cons (s_asg (d_add (d_idxCel (p_var 0) d_int) d_int) (g_cel (p_var 0) d_int)) (s_cons (p_set 3 sc__law_dip.nd (d_mod (d_callT (CallR.or call_int1 call_int_str) int_okC bt_int rfl (T.free 53) (a_cons (d_add (d_add (d_mul (d_idxCel (p_var 0) d_int) (d_add d_int (d_mul d_int (d_idxCel (p_var 0) d_int)))) (d_mul d_int (d_idxCel (p_var 0) d_int))) d_int) a_nil)) d_int)) (s_cons (s_asg (d_mod (d_callT (CallR.or call_int1 call_int_str) int_okC bt_int rfl (T.free 53) (a_cons (d_add (d_mul (p_var 3) d_int) (d_mul (d_idxCel (p_var 0) d_int) (d_idxCel (p_var 0) d_int))) a_nil)) d_int) (g_cel (p_var 0) d_int)) (s_one (s_ret (d_mod (d_callT (CallR.or call_int1 call_int_str) int_okC bt_int rfl (T.free 53) (a_cons (d_fdiv (d_idxCel (p_var 0) d_int) d_int) a_nil)) (p_var 1))))))))
theorem ok__law_of (T : TxZ w K mg) : DfZ P w K mg base 2 d__law_of ps__law_of (spM K u__law_of) := dfz_M (T.fun_ 3) sc__law_of rfl rfl (by decide) (fun fd F => F.bindsN fun _ _ _ _ _ _ us hl => match us, hl with | [_, _], _ => rfl) fun cdv A outer s H E hr =>
  (s_one (s_ret (d_idx (p_var 1) (d_call (ok__law_dip T) hr (by decide) rfl (T.glo 54) (a_cons (p_var 0) (a_cons (d_callB call_len len_ok bt_len rfl (T.free 49) (a_cons (p_var 1) a_nil)) a_nil))))))
theorem ok__law_value (T : TxZ w K mg) : DfZ P w K mg base 3 d__law_value ps__law_value (spM K u__law_value) := dfz_M (T.fun_ 4) sc__law_value rfl rfl (by decide) (fun fd F => F.bindsN fun _ _ _ _ _ _ us hl => match us, hl with | [_], _ => rfl) fun cdv A outer s H E hr =>
  (s_cons (p_set 1 sc__law_value.nd (d_frz (f_lst (a_cons d_non (a_cons d_bl (a_cons d_bl (a_cons d_int (a_cons d_int (a_cons (d_neg d_int) (a_cons d_int (a_cons (d_pow d_int d_int) (a_cons d_str (a_cons d_str (a_cons d_str (a_cons d_str (a_cons (d_tup a_nil) (a_cons (d_tup (a_cons d_int a_nil)) (a_cons (d_frz (f_lst a_nil)) (a_cons (d_frz (f_lst (a_cons d_int a_nil))) (a_cons (d_frz f_dic0) (a_cons (d_frz (f_disp (pps_cons d_str d_int pps_nil))) (a_cons (d_tup (a_cons d_str (a_cons d_non a_nil))) a_nil)))))))))))))))))))))) (s_one (s_ret (d_call (ok__law_of T) hr (by decide) rfl (T.glo 55) (a_cons (p_var 0) (a_cons (d_addA (p_var 1) (d_frz (f_lst (a_cons (d_tup (a_cons d_str (a_cons d_str (a_cons (d_tup (a_cons d_int a_nil)) a_nil)))) (a_cons (d_tup (a_cons (d_tup (a_cons d_str (a_cons d_str (a_cons (d_tup (a_cons d_int a_nil)) a_nil)))) a_nil)) (a_cons (d_frz (f_lst (a_cons d_str (a_cons d_str (a_cons (d_frz (f_lst (a_cons d_int a_nil))) a_nil))))) (a_cons d_str (a_cons d_str a_nil)))))))) a_nil))))))
theorem ok__law_held (T : TxZ w K mg) : DfZ P w K mg base 1 d__law_held ps__law_held (spM K u__law_held) := dfz_M (T.fun_ 5) sc__law_held rfl rfl (by decide) (fun fd F => F.bindsN fun _ _ _ _ _ _ us hl => match us, hl with | [_, _], _ => rfl) fun cdv A outer s H E hr =>
  (s_one (s_ret (d_if (t_inA (hu_of hr) (p_var 1) (d_frz (f_lst (a_cons d_int (a_cons d_int (a_cons d_int (a_cons d_int (a_cons d_int (a_cons d_int a_nil))))))))) (d_exf (T.fact 57 (f := fun K => errF K ["Broken", "InUse", "InvalidFurther", "InvalidHosts", "InvalidSteps", "InvalidWishes"] "index") rfl) (p_var 0)) (d_exf (T.fact 58 (f := fun K => errF K ["InvalidIndex", "InvalidKind", "InvalidMarks", "InvalidMoment", "InvalidName", "InvalidNumber", "InvalidPending", "InvalidPoint", "InvalidSpread", "InvalidStep", "InvalidTakers", "InvalidText", "InvalidWish", "NoRoom", "NotAPlan", "NotARing", "OtherPoints", "UnknownName"] "given") rfl) (p_var 0)))))
theorem ok__law_lot_right (T : TxZ w K mg) : DfZ P w K mg base 2 d__law_lot_right ps__law_lot_right (spM K u__law_lot_right) := dfz_M (T.fun_ 6) sc__law_lot_right rfl rfl (by decide) (fun fd F => F.bindsN fun _ _ _ _ _ _ us hl => match us, hl with | [_, _], _ => rfl) fun cdv A outer s H E hr =>
  (s_cons (s_for (passes_of rfl) rfl (i_rng1 rfl (T.free 15) (a_cons d_int a_nil)) (p_nm 2 sc__law_lot_right.nd) (s_cons (p_set 3 sc__law_lot_right.nd (d_if (t_lt (p_var 2) d_int) d_int (d_if (t_lt (p_var 2) d_int) d_int d_int))) (s_cons (s_if (t_ne (hu_of hr) (d_call (ok__law_sorts T) hr (by decide) rfl (T.glo 44) (a_cons (d_idx (p_var 0) (p_var 2)) a_nil)) (d_frz (f_lc (own := [("_law_k", 4)]) rfl rfl sc__law_lot_right.nd (i_rng1 rfl (T.free 15) (a_cons d_int a_nil)) (blkOk_by rfl) (ct_nm (by decide)) (fun _ _ _ _ _ => (p_cnm 4 sc__law_lot_right.nd)) (fun _ _ _ _ _ => pts_yes) (fun _ _ _ _ _ => (d_eq (hu_of hr) (p_var 4) (p_var 2)))))) (s_one (s_ret d_bl)) s_nil) (s_cons (s_if (t_ne (hu_of hr) (d_call (ok__law_bases T) hr (by decide) rfl (T.glo 48) (a_cons (d_idx (p_var 0) (p_var 2)) a_nil)) (d_frz (f_rep (d_frz (f_lc (own := [("_law_k", 4)]) rfl rfl sc__law_lot_right.nd (i_rng1 rfl (T.free 15) (a_cons d_int a_nil)) (blkOk_by rfl) (ct_nm (by decide)) (fun _ _ _ _ _ => (p_cnm 4 sc__law_lot_right.nd)) (fun _ _ _ _ _ => pts_yes) (fun _ _ _ _ _ => (d_eq (hu_of hr) (p_var 4) (p_var 3))))) d_int))) (s_one (s_ret d_bl)) s_nil) (s_one (s_if (t_bool (w_and (t_ne (hu_of hr) (p_var 2) d_int) (w_and1 (t_ne (hu_of hr) (d_bltM (cr_reprx (hu_of hr) hr.gd (T.fact 8 (f := fun K => modB K) rfl)) bt_repr rfl (T.free 7) (a_cons (d_call (ok__law_held T) hr (by decide) rfl (T.glo 59) (a_cons (d_idx (p_var 0) (p_var 2)) (a_cons (p_var 2) a_nil))) a_nil)) (d_bltM (cr_reprx (hu_of hr) hr.gd (T.fact 8 (f := fun K => modB K) rfl)) bt_repr rfl (T.free 7) (a_cons (p_var 1) a_nil)))))) (s_one (s_ret d_bl)) s_nil)))))) (s_one (s_ret (d_eq (hu_of hr) (d_callB call_len len_ok bt_len rfl (T.free 49) (a_cons (p_var 0) a_nil)) d_int))))
theorem er_InvalidText (T : TxZ w K mg) : PySem.XLg.Txt K mg "InvalidText" (He.ga K "InvalidText") (He.ma K (He.ga K "InvalidText") "__init__") := txtG (T.glo 16) (T.fact 60 (f := fun K => errB K "InvalidText" "given") rfl) d_InvalidText___init__ (T.fun_ 7) rfl rfl rfl rfl rfl rfl (fun fd F => F.bindsN fun _ _ _ _ _ _ us hl => match us, hl with | [_, _], _ => rfl)
theorem er_InvalidNumber (T : TxZ w K mg) : PySem.XLg.Txt K mg "InvalidNumber" (He.ga K "InvalidNumber") (He.ma K (He.ga K "InvalidNumber") "__init__") := txtG (T.glo 29) (T.fact 61 (f := fun K => errB K "InvalidNumber" "given") rfl) d_InvalidNumber___init__ (T.fun_ 8) rfl rfl rfl rfl rfl rfl (fun fd F => F.bindsN fun _ _ _ _ _ _ us hl => match us, hl with | [_, _], _ => rfl)
theorem er_InvalidSpread (T : TxZ w K mg) : PySem.XLg.Txt K mg "InvalidSpread" (He.ga K "InvalidSpread") (He.ma K (He.ga K "InvalidSpread") "__init__") := txtG (T.glo 32) (T.fact 62 (f := fun K => errB K "InvalidSpread" "given") rfl) d_InvalidSpread___init__ (T.fun_ 9) rfl rfl rfl rfl rfl rfl (fun fd F => F.bindsN fun _ _ _ _ _ _ us hl => match us, hl with | [_, _], _ => rfl)
theorem er_InvalidPending (T : TxZ w K mg) : PySem.XLg.Txt K mg "InvalidPending" (He.ga K "InvalidPending") (He.ma K (He.ga K "InvalidPending") "__init__") := txtG (T.glo 30) (T.fact 63 (f := fun K => errB K "InvalidPending" "given") rfl) d_InvalidPending___init__ (T.fun_ 10) rfl rfl rfl rfl rfl rfl (fun fd F => F.bindsN fun _ _ _ _ _ _ us hl => match us, hl with | [_, _], _ => rfl)
theorem er_InvalidPoint (T : TxZ w K mg) : PySem.XLg.Txt K mg "InvalidPoint" (He.ga K "InvalidPoint") (He.ma K (He.ga K "InvalidPoint") "__init__") := txtG (T.glo 31) (T.fact 64 (f := fun K => errB K "InvalidPoint" "given") rfl) d_InvalidPoint___init__ (T.fun_ 11) rfl rfl rfl rfl rfl rfl (fun fd F => F.bindsN fun _ _ _ _ _ _ us hl => match us, hl with | [_, _], _ => rfl)
theorem er_InvalidName (T : TxZ w K mg) : PySem.XLg.Txt K mg "InvalidName" (He.ga K "InvalidName") (He.ma K (He.ga K "InvalidName") "__init__") := txtG (T.glo 28) (T.fact 65 (f := fun K => errB K "InvalidName" "given") rfl) d_InvalidName___init__ (T.fun_ 12) rfl rfl rfl rfl rfl rfl (fun fd F => F.bindsN fun _ _ _ _ _ _ us hl => match us, hl with | [_, _], _ => rfl)
theorem er_InvalidMarks (T : TxZ w K mg) : PySem.XLg.Txt K mg "InvalidMarks" (He.ga K "InvalidMarks") (He.ma K (He.ga K "InvalidMarks") "__init__") := txtG (T.glo 26) (T.fact 66 (f := fun K => errB K "InvalidMarks" "given") rfl) d_InvalidMarks___init__ (T.fun_ 13) rfl rfl rfl rfl rfl rfl (fun fd F => F.bindsN fun _ _ _ _ _ _ us hl => match us, hl with | [_, _], _ => rfl)
theorem er_InvalidStep (T : TxZ w K mg) : PySem.XLg.Txt K mg "InvalidStep" (He.ga K "InvalidStep") (He.ma K (He.ga K "InvalidStep") "__init__") := txtG (T.glo 33) (T.fact 67 (f := fun K => errB K "InvalidStep" "given") rfl) d_InvalidStep___init__ (T.fun_ 14) rfl rfl rfl rfl rfl rfl (fun fd F => F.bindsN fun _ _ _ _ _ _ us hl => match us, hl with | [_, _], _ => rfl)
theorem er_InvalidMoment (T : TxZ w K mg) : PySem.XLg.Txt K mg "InvalidMoment" (He.ga K "InvalidMoment") (He.ma K (He.ga K "InvalidMoment") "__init__") := txtG (T.glo 27) (T.fact 68 (f := fun K => errB K "InvalidMoment" "given") rfl) d_InvalidMoment___init__ (T.fun_ 15) rfl rfl rfl rfl rfl rfl (fun fd F => F.bindsN fun _ _ _ _ _ _ us hl => match us, hl with | [_, _], _ => rfl)
theorem er_InvalidTakers (T : TxZ w K mg) : PySem.XLg.Txt K mg "InvalidTakers" (He.ga K "InvalidTakers") (He.ma K (He.ga K "InvalidTakers") "__init__") := txtG (T.glo 35) (T.fact 69 (f := fun K => errB K "InvalidTakers" "given") rfl) d_InvalidTakers___init__ (T.fun_ 16) rfl rfl rfl rfl rfl rfl (fun fd F => F.bindsN fun _ _ _ _ _ _ us hl => match us, hl with | [_, _], _ => rfl)
theorem er_InvalidKind (T : TxZ w K mg) : PySem.XLg.Txt K mg "InvalidKind" (He.ga K "InvalidKind") (He.ma K (He.ga K "InvalidKind") "__init__") := txtG (T.glo 25) (T.fact 70 (f := fun K => errB K "InvalidKind" "given") rfl) d_InvalidKind___init__ (T.fun_ 17) rfl rfl rfl rfl rfl rfl (fun fd F => F.bindsN fun _ _ _ _ _ _ us hl => match us, hl with | [_, _], _ => rfl)
theorem er_InvalidWish (T : TxZ w K mg) : PySem.XLg.Txt K mg "InvalidWish" (He.ga K "InvalidWish") (He.ma K (He.ga K "InvalidWish") "__init__") := txtG (T.glo 36) (T.fact 71 (f := fun K => errB K "InvalidWish" "given") rfl) d_InvalidWish___init__ (T.fun_ 18) rfl rfl rfl rfl rfl rfl (fun fd F => F.bindsN fun _ _ _ _ _ _ us hl => match us, hl with | [_, _], _ => rfl)
theorem er_InvalidIndex (T : TxZ w K mg) : PySem.XLg.Txt K mg "InvalidIndex" (He.ga K "InvalidIndex") (He.ma K (He.ga K "InvalidIndex") "__init__") := txtG (T.glo 24) (T.fact 72 (f := fun K => errB K "InvalidIndex" "given") rfl) d_InvalidIndex___init__ (T.fun_ 19) rfl rfl rfl rfl rfl rfl (fun fd F => F.bindsN fun _ _ _ _ _ _ us hl => match us, hl with | [_, _], _ => rfl)
theorem er_NotARing (T : TxZ w K mg) : PySem.XLg.Txt K mg "NotARing" (He.ga K "NotARing") (He.ma K (He.ga K "NotARing") "__init__") := txtG (T.glo 40) (T.fact 73 (f := fun K => errB K "NotARing" "given") rfl) d_NotARing___init__ (T.fun_ 20) rfl rfl rfl rfl rfl rfl (fun fd F => F.bindsN fun _ _ _ _ _ _ us hl => match us, hl with | [_, _], _ => rfl)
theorem er_NotAPlan (T : TxZ w K mg) : PySem.XLg.Txt K mg "NotAPlan" (He.ga K "NotAPlan") (He.ma K (He.ga K "NotAPlan") "__init__") := txtG (T.glo 39) (T.fact 74 (f := fun K => errB K "NotAPlan" "given") rfl) d_NotAPlan___init__ (T.fun_ 21) rfl rfl rfl rfl rfl rfl (fun fd F => F.bindsN fun _ _ _ _ _ _ us hl => match us, hl with | [_, _], _ => rfl)
theorem er_OtherPoints (T : TxZ w K mg) : PySem.XLg.Txt K mg "OtherPoints" (He.ga K "OtherPoints") (He.ma K (He.ga K "OtherPoints") "__init__") := txtG (T.glo 42) (T.fact 75 (f := fun K => errB K "OtherPoints" "given") rfl) d_OtherPoints___init__ (T.fun_ 22) rfl rfl rfl rfl rfl rfl (fun fd F => F.bindsN fun _ _ _ _ _ _ us hl => match us, hl with | [_, _], _ => rfl)
theorem er_InvalidHosts (T : TxZ w K mg) : PySem.XLi.Txt K mg "InvalidHosts" (He.ga K "InvalidHosts") (He.ma K (He.ga K "InvalidHosts") "__init__") := txtI (T.glo 23) (T.fact 76 (f := fun K => errB K "InvalidHosts" "index") rfl) d_InvalidHosts___init__ (T.fun_ 23) rfl rfl rfl rfl rfl rfl (fun fd F => F.bindsN fun _ _ _ _ _ _ us hl => match us, hl with | [_, _], _ => rfl)
theorem er_InvalidSteps (T : TxZ w K mg) : PySem.XLi.Txt K mg "InvalidSteps" (He.ga K "InvalidSteps") (He.ma K (He.ga K "InvalidSteps") "__init__") := txtI (T.glo 34) (T.fact 77 (f := fun K => errB K "InvalidSteps" "index") rfl) d_InvalidSteps___init__ (T.fun_ 24) rfl rfl rfl rfl rfl rfl (fun fd F => F.bindsN fun _ _ _ _ _ _ us hl => match us, hl with | [_, _], _ => rfl)
theorem er_InvalidFurther (T : TxZ w K mg) : PySem.XLi.Txt K mg "InvalidFurther" (He.ga K "InvalidFurther") (He.ma K (He.ga K "InvalidFurther") "__init__") := txtI (T.glo 22) (T.fact 78 (f := fun K => errB K "InvalidFurther" "index") rfl) d_InvalidFurther___init__ (T.fun_ 25) rfl rfl rfl rfl rfl rfl (fun fd F => F.bindsN fun _ _ _ _ _ _ us hl => match us, hl with | [_, _], _ => rfl)
theorem er_InvalidWishes (T : TxZ w K mg) : PySem.XLi.Txt K mg "InvalidWishes" (He.ga K "InvalidWishes") (He.ma K (He.ga K "InvalidWishes") "__init__") := txtI (T.glo 37) (T.fact 79 (f := fun K => errB K "InvalidWishes" "index") rfl) d_InvalidWishes___init__ (T.fun_ 26) rfl rfl rfl rfl rfl rfl (fun fd F => F.bindsN fun _ _ _ _ _ _ us hl => match us, hl with | [_, _], _ => rfl)
theorem er_UnknownName (T : TxZ w K mg) : PySem.XLg.Txt K mg "UnknownName" (He.ga K "UnknownName") (He.ma K (He.ga K "UnknownName") "__init__") := txtG (T.glo 43) (T.fact 80 (f := fun K => errB K "UnknownName" "given") rfl) d_UnknownName___init__ (T.fun_ 27) rfl rfl rfl rfl rfl rfl (fun fd F => F.bindsN fun _ _ _ _ _ _ us hl => match us, hl with | [_, _], _ => rfl)
theorem er_InUse (T : TxZ w K mg) : PySem.XLi.Txt K mg "InUse" (He.ga K "InUse") (He.ma K (He.ga K "InUse") "__init__") := txtI (T.glo 21) (T.fact 81 (f := fun K => errB K "InUse" "index") rfl) d_InUse___init__ (T.fun_ 28) rfl rfl rfl rfl rfl rfl (fun fd F => F.bindsN fun _ _ _ _ _ _ us hl => match us, hl with | [_, _], _ => rfl)
theorem er_NothingToUndo (T : TxZ w K mg) : PySem.XL0.TxtN K mg "NothingToUndo" (He.ga K "NothingToUndo") (He.ma K (He.ga K "NothingToUndo") "__init__") := txtN (T.glo 41) (T.fact 82 (f := fun K => errN K "NothingToUndo") rfl) d_NothingToUndo___init__ (T.fun_ 29) rfl rfl rfl rfl rfl rfl
theorem er_NoRoom (T : TxZ w K mg) : PySem.XLg.Txt K mg "NoRoom" (He.ga K "NoRoom") (He.ma K (He.ga K "NoRoom") "__init__") := txtG (T.glo 38) (T.fact 83 (f := fun K => errB K "NoRoom" "given") rfl) d_NoRoom___init__ (T.fun_ 30) rfl rfl rfl rfl rfl rfl (fun fd F => F.bindsN fun _ _ _ _ _ _ us hl => match us, hl with | [_, _], _ => rfl)
theorem er_Broken (T : TxZ w K mg) : PySem.XLi.Txt K mg "Broken" (He.ga K "Broken") (He.ma K (He.ga K "Broken") "__init__") := txtI (T.glo 20) (T.fact 84 (f := fun K => errB K "Broken" "index") rfl) d_Broken___init__ (T.fun_ 31) rfl rfl rfl rfl rfl rfl (fun fd F => F.bindsN fun _ _ _ _ _ _ us hl => match us, hl with | [_, _], _ => rfl)
theorem ok__law_placed (T : TxZ w K mg) : DfZ P w K mg base 1 d__law_placed ps__law_placed (spM K u__law_placed) := dfz_M (T.fun_ 32) sc__law_placed rfl rfl (by decide) (fun fd F => F.bindsN fun _ _ _ _ _ _ us hl => match us, hl with | [_], _ => rfl) fun cdv A outer s H E hr =>
  (s_cons (p_set 1 sc__law_placed.nd (d_frz (f_lst (a_cons (d_mkE_XLg (er_InvalidText T) hr (p_var 0)) (a_cons (d_mkE_XLg (er_InvalidNumber T) hr (p_var 0)) (a_cons (d_mkE_XLg (er_InvalidSpread T) hr (p_var 0)) (a_cons (d_mkE_XLg (er_InvalidPending T) hr (p_var 0)) (a_cons (d_mkE_XLg (er_InvalidPoint T) hr (p_var 0)) a_nil)))))))) (s_cons (p_set 1 sc__law_placed.nd (d_addA (p_var 1) (d_frz (f_lst (a_cons (d_mkE_XLg (er_InvalidName T) hr (p_var 0)) (a_cons (d_mkE_XLg (er_InvalidMarks T) hr (p_var 0)) (a_cons (d_mkE_XLg (er_InvalidStep T) hr (p_var 0)) (a_cons (d_mkE_XLg (er_InvalidMoment T) hr (p_var 0)) a_nil)))))))) (s_cons (p_set 1 sc__law_placed.nd (d_addA (p_var 1) (d_frz (f_lst (a_cons (d_mkE_XLg (er_InvalidTakers T) hr (p_var 0)) (a_cons (d_mkE_XLg (er_InvalidKind T) hr (p_var 0)) (a_cons (d_mkE_XLg (er_InvalidWish T) hr (p_var 0)) (a_cons (d_mkE_XLg (er_InvalidIndex T) hr (p_var 0)) a_nil)))))))) (s_cons (p_set 1 sc__law_placed.nd (d_addA (p_var 1) (d_frz (f_lst (a_cons (d_mkE_XLg (er_NotARing T) hr (p_var 0)) (a_cons (d_mkE_XLg (er_NotAPlan T) hr (p_var 0)) (a_cons (d_mkE_XLg (er_OtherPoints T) hr (p_var 0)) (a_cons (d_mkE_XLi (er_InvalidHosts T) hr (p_var 0)) (a_cons (d_mkE_XLi (er_InvalidSteps T) hr (p_var 0)) a_nil))))))))) (s_cons (p_set 1 sc__law_placed.nd (d_addA (p_var 1) (d_frz (f_lst (a_cons (d_mkE_XLi (er_InvalidFurther T) hr (p_var 0)) (a_cons (d_mkE_XLi (er_InvalidWishes T) hr (p_var 0)) (a_cons (d_mkE_XLg (er_UnknownName T) hr (p_var 0)) (a_cons (d_mkE_XLi (er_InUse T) hr (p_var 0)) a_nil)))))))) (s_one (s_ret (d_addA (p_var 1) (d_frz (f_lst (a_cons (d_mkN (er_NothingToUndo T) hr) (a_cons (d_mkE_XLg (er_NoRoom T) hr (p_var 0)) (a_cons (d_mkE_XLi (er_Broken T) hr (p_var 0)) a_nil)))))))))))))
theorem erw_InvalidText (T : TxZ w K mg) : PySem.XLg.TxtW K (He.ma K (He.ga K "InvalidText") "__init__") := txt_XLg d_InvalidText___init__ (T.fun_ 7) rfl rfl rfl rfl rfl rfl
theorem erw_InvalidNumber (T : TxZ w K mg) : PySem.XLg.TxtW K (He.ma K (He.ga K "InvalidNumber") "__init__") := txt_XLg d_InvalidNumber___init__ (T.fun_ 8) rfl rfl rfl rfl rfl rfl
theorem erw_InvalidSpread (T : TxZ w K mg) : PySem.XLg.TxtW K (He.ma K (He.ga K "InvalidSpread") "__init__") := txt_XLg d_InvalidSpread___init__ (T.fun_ 9) rfl rfl rfl rfl rfl rfl
theorem erw_InvalidPending (T : TxZ w K mg) : PySem.XLg.TxtW K (He.ma K (He.ga K "InvalidPending") "__init__") := txt_XLg d_InvalidPending___init__ (T.fun_ 10) rfl rfl rfl rfl rfl rfl
theorem erw_InvalidPoint (T : TxZ w K mg) : PySem.XLg.TxtW K (He.ma K (He.ga K "InvalidPoint") "__init__") := txt_XLg d_InvalidPoint___init__ (T.fun_ 11) rfl rfl rfl rfl rfl rfl
theorem erw_InvalidName (T : TxZ w K mg) : PySem.XLg.TxtW K (He.ma K (He.ga K "InvalidName") "__init__") := txt_XLg d_InvalidName___init__ (T.fun_ 12) rfl rfl rfl rfl rfl rfl
theorem erw_InvalidMarks (T : TxZ w K mg) : PySem.XLg.TxtW K (He.ma K (He.ga K "InvalidMarks") "__init__") := txt_XLg d_InvalidMarks___init__ (T.fun_ 13) rfl rfl rfl rfl rfl rfl
theorem erw_InvalidStep (T : TxZ w K mg) : PySem.XLg.TxtW K (He.ma K (He.ga K "InvalidStep") "__init__") := txt_XLg d_InvalidStep___init__ (T.fun_ 14) rfl rfl rfl rfl rfl rfl
theorem erw_InvalidMoment (T : TxZ w K mg) : PySem.XLg.TxtW K (He.ma K (He.ga K "InvalidMoment") "__init__") := txt_XLg d_InvalidMoment___init__ (T.fun_ 15) rfl rfl rfl rfl rfl rfl
theorem erw_InvalidTakers (T : TxZ w K mg) : PySem.XLg.TxtW K (He.ma K (He.ga K "InvalidTakers") "__init__") := txt_XLg d_InvalidTakers___init__ (T.fun_ 16) rfl rfl rfl rfl rfl rfl
theorem erw_InvalidKind (T : TxZ w K mg) : PySem.XLg.TxtW K (He.ma K (He.ga K "InvalidKind") "__init__") := txt_XLg d_InvalidKind___init__ (T.fun_ 17) rfl rfl rfl rfl rfl rfl
theorem erw_InvalidWish (T : TxZ w K mg) : PySem.XLg.TxtW K (He.ma K (He.ga K "InvalidWish") "__init__") := txt_XLg d_InvalidWish___init__ (T.fun_ 18) rfl rfl rfl rfl rfl rfl
theorem erw_InvalidIndex (T : TxZ w K mg) : PySem.XLg.TxtW K (He.ma K (He.ga K "InvalidIndex") "__init__") := txt_XLg d_InvalidIndex___init__ (T.fun_ 19) rfl rfl rfl rfl rfl rfl
theorem erw_NotARing (T : TxZ w K mg) : PySem.XLg.TxtW K (He.ma K (He.ga K "NotARing") "__init__") := txt_XLg d_NotARing___init__ (T.fun_ 20) rfl rfl rfl rfl rfl rfl
theorem erw_NotAPlan (T : TxZ w K mg) : PySem.XLg.TxtW K (He.ma K (He.ga K "NotAPlan") "__init__") := txt_XLg d_NotAPlan___init__ (T.fun_ 21) rfl rfl rfl rfl rfl rfl
theorem erw_OtherPoints (T : TxZ w K mg) : PySem.XLg.TxtW K (He.ma K (He.ga K "OtherPoints") "__init__") := txt_XLg d_OtherPoints___init__ (T.fun_ 22) rfl rfl rfl rfl rfl rfl
theorem erw_InvalidHosts (T : TxZ w K mg) : PySem.XLi.TxtW K (He.ma K (He.ga K "InvalidHosts") "__init__") := txt_XLi d_InvalidHosts___init__ (T.fun_ 23) rfl rfl rfl rfl rfl rfl
theorem erw_InvalidSteps (T : TxZ w K mg) : PySem.XLi.TxtW K (He.ma K (He.ga K "InvalidSteps") "__init__") := txt_XLi d_InvalidSteps___init__ (T.fun_ 24) rfl rfl rfl rfl rfl rfl
theorem erw_InvalidFurther (T : TxZ w K mg) : PySem.XLi.TxtW K (He.ma K (He.ga K "InvalidFurther") "__init__") := txt_XLi d_InvalidFurther___init__ (T.fun_ 25) rfl rfl rfl rfl rfl rfl
theorem erw_InvalidWishes (T : TxZ w K mg) : PySem.XLi.TxtW K (He.ma K (He.ga K "InvalidWishes") "__init__") := txt_XLi d_InvalidWishes___init__ (T.fun_ 26) rfl rfl rfl rfl rfl rfl
theorem erw_UnknownName (T : TxZ w K mg) : PySem.XLg.TxtW K (He.ma K (He.ga K "UnknownName") "__init__") := txt_XLg d_UnknownName___init__ (T.fun_ 27) rfl rfl rfl rfl rfl rfl
theorem erw_InUse (T : TxZ w K mg) : PySem.XLi.TxtW K (He.ma K (He.ga K "InUse") "__init__") := txt_XLi d_InUse___init__ (T.fun_ 28) rfl rfl rfl rfl rfl rfl
theorem erw_NoRoom (T : TxZ w K mg) : PySem.XLg.TxtW K (He.ma K (He.ga K "NoRoom") "__init__") := txt_XLg d_NoRoom___init__ (T.fun_ 30) rfl rfl rfl rfl rfl rfl
theorem erw_Broken (T : TxZ w K mg) : PySem.XLi.TxtW K (He.ma K (He.ga K "Broken") "__init__") := txt_XLi d_Broken___init__ (T.fun_ 31) rfl rfl rfl rfl rfl rfl
theorem ok__law_named (T : TxZ w K mg) : DfZ P w K mg base 1 d__law_named ps__law_named (spM K u__law_named) := dfz_M (T.fun_ 33) sc__law_named rfl rfl (by decide) (fun fd F => F.bindsN fun _ _ _ _ _ _ us hl => match us, hl with | [_], _ => rfl) fun cdv A outer s H E hr =>
  (s_cons (p_set 1 sc__law_named.nd (d_frz (f_lst (a_cons (d_mkK_XLg (er_InvalidText T) (erw_InvalidText T) hr (k_cons (p_var 0) k_nil)) (a_cons (d_mkK_XLg (er_InvalidNumber T) (erw_InvalidNumber T) hr (k_cons (p_var 0) k_nil)) (a_cons (d_mkK_XLg (er_InvalidSpread T) (erw_InvalidSpread T) hr (k_cons (p_var 0) k_nil)) a_nil)))))) (s_cons (p_set 1 sc__law_named.nd (d_addA (p_var 1) (d_frz (f_lst (a_cons (d_mkK_XLg (er_InvalidPending T) (erw_InvalidPending T) hr (k_cons (p_var 0) k_nil)) (a_cons (d_mkK_XLg (er_InvalidPoint T) (erw_InvalidPoint T) hr (k_cons (p_var 0) k_nil)) (a_cons (d_mkK_XLg (er_InvalidName T) (erw_InvalidName T) hr (k_cons (p_var 0) k_nil)) a_nil))))))) (s_cons (p_set 1 sc__law_named.nd (d_addA (p_var 1) (d_frz (f_lst (a_cons (d_mkK_XLg (er_InvalidMarks T) (erw_InvalidMarks T) hr (k_cons (p_var 0) k_nil)) (a_cons (d_mkK_XLg (er_InvalidStep T) (erw_InvalidStep T) hr (k_cons (p_var 0) k_nil)) (a_cons (d_mkK_XLg (er_InvalidMoment T) (erw_InvalidMoment T) hr (k_cons (p_var 0) k_nil)) a_nil))))))) (s_cons (p_set 1 sc__law_named.nd (d_addA (p_var 1) (d_frz (f_lst (a_cons (d_mkK_XLg (er_InvalidTakers T) (erw_InvalidTakers T) hr (k_cons (p_var 0) k_nil)) (a_cons (d_mkK_XLg (er_InvalidKind T) (erw_InvalidKind T) hr (k_cons (p_var 0) k_nil)) (a_cons (d_mkK_XLg (er_InvalidWish T) (erw_InvalidWish T) hr (k_cons (p_var 0) k_nil)) a_nil))))))) (s_cons (p_set 1 sc__law_named.nd (d_addA (p_var 1) (d_frz (f_lst (a_cons (d_mkK_XLg (er_InvalidIndex T) (erw_InvalidIndex T) hr (k_cons (p_var 0) k_nil)) (a_cons (d_mkK_XLg (er_NotARing T) (erw_NotARing T) hr (k_cons (p_var 0) k_nil)) (a_cons (d_mkK_XLg (er_NotAPlan T) (erw_NotAPlan T) hr (k_cons (p_var 0) k_nil)) (a_cons (d_mkK_XLg (er_OtherPoints T) (erw_OtherPoints T) hr (k_cons (p_var 0) k_nil)) a_nil)))))))) (s_cons (p_set 1 sc__law_named.nd (d_addA (p_var 1) (d_frz (f_lst (a_cons (d_mkK_XLi (er_InvalidHosts T) (erw_InvalidHosts T) hr (k_cons (p_var 0) k_nil)) (a_cons (d_mkK_XLi (er_InvalidSteps T) (erw_InvalidSteps T) hr (k_cons (p_var 0) k_nil)) (a_cons (d_mkK_XLi (er_InvalidFurther T) (erw_InvalidFurther T) hr (k_cons (p_var 0) k_nil)) a_nil))))))) (s_cons (p_set 1 sc__law_named.nd (d_addA (p_var 1) (d_frz (f_lst (a_cons (d_mkK_XLi (er_InvalidWishes T) (erw_InvalidWishes T) hr (k_cons (p_var 0) k_nil)) (a_cons (d_mkK_XLg (er_UnknownName T) (erw_UnknownName T) hr (k_cons (p_var 0) k_nil)) (a_cons (d_mkK_XLi (er_InUse T) (erw_InUse T) hr (k_cons (p_var 0) k_nil)) (a_cons (d_mkN (er_NothingToUndo T) hr) a_nil)))))))) (s_one (s_ret (d_addA (p_var 1) (d_frz (f_lst (a_cons (d_mkK_XLg (er_NoRoom T) (erw_NoRoom T) hr (k_cons (p_var 0) k_nil)) (a_cons (d_mkK_XLi (er_Broken T) (erw_Broken T) hr (k_cons (p_var 0) k_nil)) a_nil))))))))))))))
theorem ok__law_right (T : TxZ w K mg) : DfZ P w K mg base 4 d__law_right ps__law_right (spM K u__law_right) := dfz_M (T.fun_ 34) sc__law_right rfl rfl (by decide) (fun fd F => F.bindsN fun _ _ _ _ _ _ us hl => match us, hl with | [_], _ => rfl) fun cdv A outer s H E hr =>
  (s_cons (s_for (passes_of rfl) rfl (i_rng1 rfl (T.free 15) (a_cons d_int a_nil)) (p_nm 1 sc__law_right.nd) (s_cons (p_set 2 sc__law_right.nd (d_call (ok__law_value T) hr (by decide) rfl (T.glo 56) (a_cons (p_var 0) a_nil))) (s_one (s_if (t_bool (w_or (t_not (t_of (d_call (ok__law_lot_right T) hr (by decide) rfl (T.glo 86) (a_cons (d_call (ok__law_placed T) hr (by decide) rfl (T.glo 85) (a_cons (p_var 2) a_nil)) (a_cons (p_var 2) a_nil))))) (w_or1 (t_not (t_of (d_call (ok__law_lot_right T) hr (by decide) rfl (T.glo 86) (a_cons (d_call (ok__law_named T) hr (by decide) rfl (T.glo 87) (a_cons (p_var 2) a_nil)) (a_cons (p_var 2) a_nil)))))))) (s_one (s_ret d_bl)) s_nil)))) (s_one (s_ret d_bl)))
theorem ok__law_filled (T : TxZ w K mg) : DfZ P w K mg base 1 d__law_filled ps__law_filled (spF K u__law_filled) := dfz_F (T.fun_ 35) sc__law_filled rfl rfl (by decide) (fun fd F => F.bindsN fun _ _ _ _ _ _ us hl => match us, hl with | [_, _], _ => rfl) fun cdv A outer s H E hr =>
  (s_cons (p_set 2 sc__law_filled.nd (d_if (t_lt (p_var 1) (d_callB call_len len_ok bt_len rfl (T.free 49) (a_cons (p_var 0) a_nil))) (d_idx (p_var 0) (p_var 1)) d_int)) (s_cons (p_set 3 sc__law_filled.nd (d_add d_int (d_mul d_int (p_var 1)))) (s_cons (s_for (passes_of rfl) rfl (i_seq (d_frz (f_sl (p_var 0) o_none (o_some d_int)))) (p_nm 4 sc__law_filled.nd) (s_one (p_set 3 sc__law_filled.nd (d_mod (d_callT (CallR.or call_int1 call_int_str) int_okC bt_int rfl (T.free 53) (a_cons (d_add (d_add (d_mul (p_var 3) d_int) (d_mul (p_var 4) d_int)) d_int) a_nil)) d_int)))) (s_one (s_rto (f_lst (a_cons (d_if (t_bool (w_or (t_lt (p_var 2) d_int) (w_or1 (t_ge (p_var 2) (d_pow d_int d_int))))) (d_callB call_abs abs_ok bt_abs rfl (T.free 88) (a_cons (p_var 2) a_nil)) d_int) (a_cons (d_mod (d_callT (CallR.or call_int1 call_int_str) int_okC bt_int rfl (T.free 53) (a_cons (d_add (d_add (d_mul (p_var 3) d_int) (d_mul (p_var 2) (p_var 2))) (d_mul d_int (p_var 1))) a_nil)) d_int) (a_cons d_int a_nil)))))))))
theorem ok_law (T : TxZ w K mg) : DfZ P w K mg base 5 d_law ps_law (spM K u_law) := dfz_M (T.fun_ 36) sc_law rfl rfl (by decide) (fun fd F => F.bindsN fun _ _ _ _ _ _ us hl => match us, hl with | [_], _ => rfl) fun cdv A outer s H E hr =>
  (s_cons (p_set 1 sc_law.nd (d_frz (f_lst (a_cons (p_gint (T.gint 0)) (a_cons (p_gint (T.gint 1)) (a_cons (p_gint (T.gint 2)) (a_cons (p_gint (T.gint 3)) (a_cons (p_gint (T.gint 4)) (a_cons (p_gint (T.gint 5)) (a_cons (p_gint (T.gint 6)) a_nil)))))))))) (s_cons (s_if (t_ne (hu_of hr) (d_bltM (cr_reprx (hu_of hr) hr.gd (T.fact 8 (f := fun K => modB K) rfl)) bt_repr rfl (T.free 7) (a_cons (p_var 1) a_nil)) (d_bltM (cr_reprx (hu_of hr) hr.gd (T.fact 8 (f := fun K => modB K) rfl)) bt_repr rfl (T.free 7) (a_cons (d_frz (f_lst (a_cons (d_pow d_int d_int) (a_cons d_int (a_cons d_int (a_cons d_int (a_cons d_int (a_cons d_int (a_cons d_int a_nil))))))))) a_nil))) (s_one (s_ret d_bl)) s_nil) (s_cons (p_set 2 sc_law.nd (d_frz (f_lst (a_cons (d_mkB (er_BadValue T)) (a_cons (d_mkB (er_BadName T)) (a_cons (d_mkB (er_NoAnswer T)) a_nil)))))) (s_cons (s_for (passes_of rfl) rfl (i_rng1 rfl (T.free 15) (a_cons d_int a_nil)) (p_nm 3 sc_law.nd) (s_one (s_if (t_bool (w_or (t_ne (hu_of hr) (d_call (ok__law_sorts T) hr (by decide) rfl (T.glo 44) (a_cons (d_idx (p_var 2) (p_var 3)) a_nil)) (d_frz (f_rep (d_frz (f_lst (a_cons d_bl a_nil))) d_int))) (w_or1 (t_ne (hu_of hr) (d_call (ok__law_bases T) hr (by decide) rfl (T.glo 48) (a_cons (d_idx (p_var 2) (p_var 3)) a_nil)) (d_frz (f_rep (d_frz (f_lc (own := [("_law_k", 4)]) rfl rfl sc_law.nd (i_rng1 rfl (T.free 15) (a_cons d_int a_nil)) (blkOk_by rfl) (ct_nm (by decide)) (fun _ _ _ _ _ => (p_cnm 4 sc_law.nd)) (fun _ _ _ _ _ => pts_yes) (fun _ _ _ _ _ => (d_eq (hu_of hr) (p_var 4) (p_var 3))))) d_int)))))) (s_one (s_ret d_bl)) s_nil))) (s_one (s_ret (d_callB (cr_all rfl) all_ok bt_all rfl (T.free 91) (a_cons (d_frz (f_lc (own := [("_law_turn", 5)]) rfl rfl sc_law.nd (i_rng1 rfl (T.free 15) (a_cons (d_callB (call_max2 rfl) max2_ok bt_max rfl (T.free 51) (a_cons d_int (a_cons (d_callB (call_min2 rfl) min2_ok bt_min rfl (T.free 50) (a_cons (d_callB call_len len_ok bt_len rfl (T.free 49) (a_cons (p_var 0) a_nil)) (a_cons d_int a_nil))) a_nil))) a_nil)) (blkOk_by rfl) (ct_nm (by decide)) (fun _ _ _ _ _ => (p_cnm 5 sc_law.nd)) (fun _ _ _ _ _ => pts_yes) (fun _ _ _ _ _ => (d_call (ok__law_right T) hr (by decide) rfl (T.glo 90) (a_cons (d_cel (f_call (ok__law_filled T) hr (by decide) rfl (T.glo 89) (a_cons (p_var 0) (a_cons (p_var 5) a_nil)))) a_nil))))) a_nil))))))))
end
end K01
end Z

set_option Elab.async false
set_option linter.all false
set_option maxRecDepth 100000
set_option maxHeartbeats 0
namespace Z
namespace K01
open PySem PySem.Spec PyProof.Rows L2
theorem facts {P : Program} {w : World} {K : PySem.W.Frag} {h : Heap} {mg : PySem.Str → Option Value} {f : Addr} (X : K.In h) (G : h.Ns mainGlobals mg) (hfa : mg ("law" : PySem.Str) = some (.ref f)) (c : SaysG exF fnL tsL w K) :
    noLstB K = true ∧ ∃ fd : FuncData, (∀ (s : Shared) (u : Value), BindsTo s fd ⟨[u], []⟩ [("_law_script", u)]) ∧ ∀ base : Heap, K.In base → base.Ns mainGlobals mg → FnZ P w K mg base NoX 5 f fd ["_law_script"] (spM K u_law) := by
  have T : TxZ w K mg := ⟨⟨c.z, h, X, G⟩, fun i t h => c.tab i h⟩
  have e := hfa.symm.trans (T.glo 92)
  cases e
  exact ⟨T.fact 93 (f := noLstB) rfl, law_fd (T.fun_ 36 (d := d_law)) rfl rfl (fun _ _ _ _ _ _ us hl => match us, hl with | [_], _ => rfl) fun base => ok_law T⟩
end K01
end Z
open PySem PySem.W PySem.Calls PyProof.Rows
theorem PySem.Challenge.cw_ringshares_k01_limits_and_errors_holds : PySem.Challenge.rw_ringshares_k01_limits_and_errors.Holds := by
  w_on; o_law
  refine HandSHeadRun.head_any (r := OpenLaw.row PySem.Challenge.rw_ringshares_k01_limits_and_errors) (q := view (OpenLaw.row PySem.Challenge.rw_ringshares_k01_limits_and_errors).prog [48]) (H := Z.K01.hk) (ob := Z.K01.ob) (M := 20000) (loose := Z.K01.names) (d := HandSHeadRun.topDef (OpenLaw.row PySem.Challenge.rw_ringshares_k01_limits_and_errors).prog 48) (kwd := []) Z.K01.ob_eq
    (by kernel_rfl) (fun s => by kernel_rfl) Z.K01.run (by kernel_rfl) (by kernel_rfl) (by kernel_rfl) (by rfl) Z.K01.K01_ok1 Z.K01.K01_ok2 Z.K01.K01_ok3 ?hw ?hc
  case hw => w_witness2
  case hc =>
    refine Z.walk_Z (l := PySem.Challenge.rw_ringshares_k01_limits_and_errors) (n := 63) (k := 5) (x := "_law_script") (md := Z.K01.u_law) rfl (by decide) (by kernel_rfl) ⟨rfl, by decide, by decide⟩ ?F Z.K01.plain
    intro w mg fa h Y G hmg0
    obtain ⟨K, KX, c⟩ := Y
    have hmg : mg ("law" : PySem.Str) = some (.ref fa) := by
      have e : (HandSHeadRun.topDef (OpenLaw.row PySem.Challenge.rw_ringshares_k01_limits_and_errors).prog 48).name = ("law" : PySem.Str) := by kernel_rfl
      rw [← e]
      exact hmg0
    obtain ⟨n0, fd, hb, hF⟩ := Z.K01.facts (P := (PySem.Challenge.rw_ringshares_k01_limits_and_errors).prog) (w := w) KX G hmg c
    exact ⟨K, fd, KX, n0, hb, hF⟩

