import PyProof.Rows.All
import Wide.All
import OpenK.AllK
import Wide.FinOn
import HandS.Base
import HandS.Call
import HandS.Exc
import HandS.Defaults
import HandS.Property
import HandS.ClsMeth
import HandS.HeadHook1
import HandS.HeadHook2
import HandS.HeadHook3
import HandS.Head0
import HandS.Head1
import HandS.Head2
import KE.KStateDown
import HandS.Words
import HandS.ForMost
import HandS.Lambda
import HandS.Wide
import HandS.TupAny
import HandS.Flow
import HandS.Star
import HandS.IsInst
import HandS.SortInts
import HandS.RaiseMore
import HandS.Conv
import HandS.WideBits
import HandS.NoneIn
import HandS.Style
import HandS.Zip
import HandS.Iter
import HandS.DictComp
import HandS.MakeKw
import HandS.SetKeys
import KE.KSortTup
import HandS.Sort
import HandS.SortOrd
import HandS.SortRule
import PyProof.TupleCall
import KE.KDictList
import KE.KDictSum
import HandS.More
import PyProof.EnumMake
import PyProof.Draws
import KE.GoesMore
import HandS.RevTup
import PyProof.CallStr
import PyProof.Conv_bool
import KE.KFmtOwn
import HandS.Small
import HandS.OwnEq
import PyProof.P3In
import KE.KUnpack
import KE.KUnpackStar
import PyProof.DictCompW
import HandS.AnyAll
import HandS.Ends
import HandS.HeadEnd
import HandS.EndBits
import HandS.Dict
import KE.KRevSl
import HandS.List
import HandS.Strs
import HandS.SetFor
import HandS.ListItems
import HandS.ExcValue
import KE.KItemsList
import PyProof.FactsDict
import PyProof.MeetsSeq2
import HandS.TupSets
import PyProof.Rows.SortShellAny
import PyProof.MinMaxWalk
import KE.KDictKeyed
import KE.KDictWalk
import KE.KDictCopyH
import PyProof.Rows.Chain
import HandS.WordsDict
import PyProof.NeKinds
import PyProof.EqKinds
import Lean
import PySem.Challenge.RW_ringshares_k08_rings_compared
set_option Elab.async false
set_option linter.all false
set_option maxRecDepth 100000
set_option maxHeartbeats 4000000
namespace Z
open PySem PySem.Spec PyProof.Rows L2
/-! ### where a def stands -/
inductive At where
  | g (x : Str) | m (c x : Str) | p (c x : Str) | cm (c x : Str)
def recAd (K : PySem.W.Frag) (T : String) (p : Addr) : Addr := match PySem.W.recIn K p T with
  | some (.ref f :: _) => f
  | _ => 0
def recB (K : PySem.W.Frag) (T : String) (p : Addr) : Bool := match PySem.W.recIn K p T with
  | some (.ref _ :: _) => true
  | _ => false
theorem recB_ok {K : PySem.W.Frag} {T : String} {p : Addr} (h : recB K T p = true) : ∃ rest, PySem.W.recIn K p T = some (.ref (recAd K T p) :: rest) := by
  unfold recB at h
  unfold recAd
  generalize PySem.W.recIn K p T = q at h ⊢
  split at h
  · exact ⟨_, rfl⟩
  · cases h
def At.ad (K : PySem.W.Frag) : At → Addr
  | .g x => He.ga K x
  | .m c x => He.ma K (He.ga K c) x
  | .p c x => recAd K "property" (He.ma K (He.ga K c) x)
  | .cm c x => recAd K "classmethod" (He.ma K (He.ga K c) x)
/-- one def of the text -/
structure DefZ where
  at_ : At
  name : Str
  qual : Str
  params : Arguments
  body : List Stmt
  scope : Scope
  dfl : List He.Dv
def DefZ.ad (K : PySem.W.Frag) (d : DefZ) : Addr := d.at_.ad K
def DefZ.dvs (K : PySem.W.Frag) (d : DefZ) : List V := d.dfl.map (He.Dv.v K)
abbrev FnOb : Type := Option (Str × Str × Arguments × FuncBody × Scope × Addr × List (Str × Addr) × Addr)
def fnOb (K : PySem.W.Frag) (a : Addr) : FnOb := match K.lookup a with
  | some ⟨_, _, .func fd, _⟩ => some (fd.name, fd.qualname, fd.params, fd.body, fd.scope, fd.globals, fd.closure, fd.builtins)
  | _ => none
def DefZ.val (d : DefZ) : FnOb := some (d.name, d.qual, d.params, .stmts d.body, d.scope, mainGlobals, [], builtinsNs)
def DefZ.ok (K : PySem.W.Frag) (d : DefZ) : Bool := PySem.W.keepIn K (.ref (d.ad K)) && (match K.lookup (d.ad K) with
  | some ⟨_, _, .func fd, _⟩ => PySem.W.codeIn K fd.code d.qual && He.dflB K fd.defaults (d.dvs K)
  | _ => false)
abbrev FunZ (K : PySem.W.Frag) (d : DefZ) (fd : FuncData) : Prop := FunD K d.name d.qual d.params d.body d.scope (d.dvs K) [] (d.ad K) fd
theorem DefZ.fun {K : PySem.W.Frag} {d : DefZ} (e : fnOb K (d.ad K) = d.val) (c : d.ok K = true) : ∃ fd, FunZ K d fd := by
  obtain ⟨kp, c2⟩ := He.ba c
  unfold fnOb at e
  generalize hq : K.lookup (d.ad K) = q at e c2
  match q, hq, e, c2 with
  | some ⟨oc, od, .func fd, osl⟩, hq, e, c2 =>
    obtain ⟨k1, k2⟩ := He.ba c2
    obtain ⟨a1, a2, a3, a4, a5, a6, a7, a8, a9, a10, a11, a12, a13, a14, a15⟩ := fd
    have e : (some (a1, a2, a3, a4, a5, a6, a7, a15) : FnOb) = some (d.name, d.qual, d.params, .stmts d.body, d.scope, mainGlobals, [], builtinsNs) := e
    simp only [Option.some.injEq, Prod.mk.injEq] at e
    obtain ⟨rfl, rfl, rfl, rfl, rfl, rfl, rfl, rfl⟩ := e
    exact ⟨_, ⟨oc, od, a8, a9, a10, a11, a12, a13, a14, osl, rfl, hq, k1, He.dflB_ok k2, .inl rfl⟩, kp⟩
/-! ### what the head is to tell -/
abbrev AlZ : Type := Bool × List FnOb
def obsK (ex : PySem.W.Frag → Bool) (fn : List DefZ) (K : PySem.W.Frag) : AlZ := (ex K && fn.all fun d => d.ok K, fn.map fun d => fnOb K (d.ad K))
def valZ (fn : List DefZ) : AlZ := (true, fn.map DefZ.val)
def SaysZ (ex : PySem.W.Frag → Bool) (fn : List DefZ) (K : PySem.W.Frag) : Prop := obsK ex fn K = valZ fn
/-- what an object names, its dict and its record's parts too -/
def namesZ (o : Obj) : List Addr := He.refsD o
def growZ (g : Addr → Option Obj) (as : List Addr) : List Addr := (as ++ as.flatMap fun a => match g a with
  | some o => namesZ o
  | none => []).eraseDups
def asZ (g : Addr → Option Obj) : Nat → List Addr
  | 0 => [mainGlobals, cStatics]
  | n + 1 => growZ g (asZ g n)
def obsZG (n : Nat) (ex : PySem.W.Frag → Bool) (fn : List DefZ) (g : Addr → Option Obj) : AlZ := obsK ex fn (He.frG g (asZ g n))
def hookZ (n : Nat) (ex : PySem.W.Frag → Bool) (fn : List DefZ) : PySem.W.Hook where
  α := AlZ
  obs := fun s => obsZG n ex fn s.heap.get?
  val := fun _ => valZ fn
  says := fun _ h => ∃ K : PySem.W.Frag, K.In h ∧ SaysZ ex fn K
  of := fun _ _ e => ⟨_, He.frG_in, e⟩
  keeps := fun _ _ _ ⟨K, hK, c⟩ k => ⟨K, PySem.W.Frag.In.keeps hK k, c⟩
section
variable {ex : PySem.W.Frag → Bool} {fn : List DefZ} {K : PySem.W.Frag}
theorem SaysZ.ex_ok (c : SaysZ ex fn K) : ex K = true := (He.ba (congrArg (fun z : AlZ => z.1) c)).1
theorem SaysZ.at_ (c : SaysZ ex fn K) (i : Nat) {d : DefZ} (h : fn[i]? = some d := by rfl) : ∃ fd, FunZ K d fd := by
  have c2 : (fn.all fun d => d.ok K) = true := (He.ba (congrArg (fun z : AlZ => z.1) c)).2
  have e : fn.map (fun d => fnOb K (d.ad K)) = fn.map DefZ.val := congrArg (fun z : AlZ => z.2) c
  have e2 : (fn.map fun d => fnOb K (d.ad K))[i]? = (fn.map DefZ.val)[i]? := by rw [e]
  rw [List.getElem?_map, List.getElem?_map, h] at e2
  exact DefZ.fun (Option.some.inj e2) (List.all_eq_true.mp c2 d (List.mem_of_getElem? h))
end
/-! ### facts as Bools -/
/-- f is a property of the class c -/
def propB (K : PySem.W.Frag) (c f : Str) : Bool := He.eqO (PySem.W.findIn K (.ref (He.ga K c)) f) (some (some (.ref (He.ma K (He.ga K c) f)))) && (He.eqO (PySem.W.specialIn K (.ref (He.ma K (He.ga K c) f)) "__get__") (some (some (.builtin "property.__get__"))) && (decide (PySem.W.takesIn K (.ref (He.ma K (He.ga K c) f)) = some true) &&
  recB K "property" (He.ma K (He.ga K c) f)))
theorem propB_ok {K : PySem.W.Frag} {c f : Str} (h : propB K c f = true) : PropOf K (He.ga K c) f (He.ma K (He.ga K c) f) (At.ad K (.p c f)) := by
  obtain ⟨h1, h⟩ := He.ba h
  obtain ⟨h2, h⟩ := He.ba h
  obtain ⟨h3, h4⟩ := He.ba h
  exact ⟨He.eqO_ok h1, He.eqO_ok h2, of_decide_eq_true h3, recB_ok h4⟩
/-- m is a classmethod of the class c -/
def cmetB (K : PySem.W.Frag) (c m : Str) : Bool := PySem.W.readsIn K (He.ga K c) (.type "type") && (He.eqO (PySem.W.specialIn K (.ref (He.ga K c)) "__getattribute__") (some (some (.builtin "type.__getattribute__"))) &&
  ((match PySem.W.findCls K (.ref (He.ga K c)) (.type "type") m with
    | some (.get (.builtin b) (.ref p) .none (.ref C)) => decide (b = "classmethod.__get__") && (decide (p = He.ma K (He.ga K c) m) && decide (C = He.ga K c))
    | _ => false) && (recB K "classmethod" (He.ma K (He.ga K c) m) && PySem.W.fnIn K (At.ad K (.cm c m)))))
theorem cmetB_ok {K : PySem.W.Frag} {c m : Str} (h : cmetB K c m = true) : ClX.CRead K (He.ga K c) (.type "type") ∧ ClX.CMet K (He.ga K c) (.type "type") m (He.ma K (He.ga K c) m) (At.ad K (.cm c m)) := by
  obtain ⟨h1, h⟩ := He.ba h
  obtain ⟨h2, h⟩ := He.ba h
  obtain ⟨h3, h⟩ := He.ba h
  obtain ⟨h4, h5⟩ := He.ba h
  refine ⟨⟨h1, He.eqO_ok h2⟩, ⟨?_, recB_ok h4, h5⟩⟩
  split at h3
  · rename_i b p C e
    obtain ⟨q1, q2⟩ := He.ba h3
    obtain ⟨q2, q3⟩ := He.ba q2
    rw [e, of_decide_eq_true q1, of_decide_eq_true q2, of_decide_eq_true q3]
  · cases h3
end Z

set_option Elab.async false
set_option linter.all false
set_option maxRecDepth 100000
namespace Z
open PySem PySem.Spec PyProof.Rows L2
/-! ### the head in one run: the heap is laid out as a list first, the facts are looked at there -/
def frO {α : Type} (o : Obj) (k : Obj → α) : α := match o with
  | ⟨c, d, dt, sl⟩ => k ⟨c, d, dt, sl⟩
theorem frO_eq {α : Type} (o : Obj) (k : Obj → α) : frO o k = k o := by cases o; rfl
def frL {α : Type} : PySem.W.Frag → (PySem.W.Frag → α) → α
  | [], k => k []
  | (a, o) :: r, k => frO o fun o => frL r fun r => k ((a, o) :: r)
theorem frL_eq {α : Type} : ∀ (l : PySem.W.Frag) (k : PySem.W.Frag → α), frL l k = k l
  | [], _ => rfl
  | (a, o) :: r, k => by
    show (frO o fun o => frL r fun r => k ((a, o) :: r)) = _
    rw [frO_eq, frL_eq r]
def downTo : Nat → List Addr
  | 0 => []
  | n + 1 => n :: downTo n
def obsF (n : Nat) (ex : PySem.W.Frag → Bool) (fn : List DefZ) (g : Addr → Option Obj) : AlZ := frL (He.frG g (downTo n)) (obsK ex fn)
def hookF (n : Nat) (ex : PySem.W.Frag → Bool) (fn : List DefZ) : PySem.W.Hook where
  α := AlZ
  obs := fun s => obsF n ex fn s.heap.get?
  val := fun _ => valZ fn
  says := fun _ h => ∃ K : PySem.W.Frag, K.In h ∧ SaysZ ex fn K
  of := fun _ _ e => ⟨_, He.frG_in, (frL_eq _ _).symm.trans e⟩
  keeps := fun _ _ _ ⟨K, hK, c⟩ k => ⟨K, PySem.W.Frag.In.keeps hK k, c⟩
theorem obsF_eq {n : Nat} {ex : PySem.W.Frag → Bool} {fn : List DefZ} {g : Addr → Option Obj} {s : Shared} (h : ∀ a, g a = s.heap.get? a) : obsF n ex fn g = (hookF n ex fn).obs s := by
  have e : g = s.heap.get? := funext h
  rw [e] <;> rfl
/-! facts that are looked at early (the same as isiB, noLstB) -/
def insF (K : PySem.W.Frag) (c : Str) : Bool := (He.Fa.cls c).ok K && (He.eqO (PySem.W.findIn K (.ref (He.ga K c)) "__class__") (some (some (.builtin "object.__class__"))) && (He.eqO (PySem.W.specialIn K (.builtin "object.__class__") "__get__") (some (some (.builtin "getset_descriptor.__get__"))) &&
  (decide (PySem.W.takesIn K (.builtin "object.__class__") = some true) && decide (PySem.W.mroIn K (He.ga K c) (.type "object") = some true))))
def isiF (K : PySem.W.Frag) (cs : List Str) (tys : List String) : Bool := (cs.all fun c => insF K c) && ((cs.all fun c => tys.all fun T => decide (PySem.W.kitOne K (.ref (He.ga K c)) (.type T) = some false)) &&
  ((cs.all fun c => cs.all fun C => decide (PySem.W.kitOne K (.ref (He.ga K c)) (.ref (He.ga K C)) = some (decide (c = C)))) && (["NoneType", "bool", "int", "str", "tuple", "list", "dict"].all fun t => cs.all fun C => decide (PySem.W.kitOne K (.type t) (.ref (He.ga K C)) = some false))))
def noLstF (K : PySem.W.Frag) : Bool := K.all fun p => match p.2.cls with
  | .type t => !decide (t = "list")
  | _ => true
end Z

set_option Elab.async false
set_option linter.all false
set_option maxRecDepth 100000
namespace Z
open PySem PySem.Spec PyProof.Rows L2
def entSI (e : DictEntry) : Option (Str × Int) := match e.key, e.val with
  | .str x _, .int i _ => some (x, i)
  | _, _ => none
def kvB (K : PySem.W.Frag) (a : Addr) (kvs : List (Str × Int)) : Bool := match K.lookup a with
  | some ⟨_, _, .dict es _, _⟩ => decide (es.toList.map entSI = kvs.map some)
  | _ => false
/-! ### the head with tables -/
abbrev TabZ : Type := Str × List Str
abbrev AlG : Type := AlZ × List (Option (List (Option (Str × Int))))
def obsKG (ex : PySem.W.Frag → Bool) (fn : List DefZ) (ts : List TabZ) (K : PySem.W.Frag) : AlG := (obsK ex fn K, ts.map fun t => He.dicW K (He.ga K t.1))
def valG (fn : List DefZ) (ts : List TabZ) (w : World) : AlG := (valZ fn, ts.map fun t => some (He.keysIn w.params t.2))
def SaysG (ex : PySem.W.Frag → Bool) (fn : List DefZ) (ts : List TabZ) (w : World) (K : PySem.W.Frag) : Prop := obsKG ex fn ts K = valG fn ts w
def obsG (n : Nat) (ex : PySem.W.Frag → Bool) (fn : List DefZ) (ts : List TabZ) (g : Addr → Option Obj) : AlG := frL (He.frG g (downTo n)) (obsKG ex fn ts)
def hookG (n : Nat) (ex : PySem.W.Frag → Bool) (fn : List DefZ) (ts : List TabZ) : PySem.W.Hook where
  α := AlG
  obs := fun s => obsG n ex fn ts s.heap.get?
  val := fun w => valG fn ts w
  says := fun w h => ∃ K : PySem.W.Frag, K.In h ∧ SaysG ex fn ts w K
  of := fun _ _ e => ⟨_, He.frG_in, (frL_eq _ _).symm.trans e⟩
  keeps := fun _ _ _ ⟨K, hK, c⟩ k => ⟨K, PySem.W.Frag.In.keeps hK k, c⟩
end Z

set_option Elab.async false
set_option linter.all false
set_option maxRecDepth 100000
namespace Z
open PySem PySem.Spec PyProof.Rows L2
/-! ### the head in several runs of the same top: each run looks at a part of what is wanted, so no one declaration holds all of it -/
noncomputable def endZ (r : PySem.W.OpenRow) (M : Nat) (w : World) (os : OsState) : Option PySem.W.SharedT := HandSHeadRun.endF (HandSHeadRun.stepQ (HandSHeadRun.denQ HandSHeadRun.tabQ) r.prog w) M r.prog w os
def RunP (r : PySem.W.OpenRow) (M : Nat) (w : World) {α : Type} (k : PySem.W.SharedT → α) (a : α) : Prop := ∀ os : OsState, (endZ r M w os).map k = some a
def obsP {α : Type} (n : Nat) (k : PySem.W.Frag → α) (s : PySem.W.SharedT) : α := frL (He.frG (HandSHeadRun.getT s) (downTo n)) k
theorem obsP_eq {α : Type} (n : Nat) (k : PySem.W.Frag → α) (s : PySem.W.SharedT) : obsP n k s = k (He.frG (HandSHeadRun.getT s) (downTo n)) := frL_eq _ _
section
variable {r : PySem.W.OpenRow} {M : Nat} {w : World}
theorem RunP.both {α β γ : Type} {k1 : PySem.W.SharedT → α} {k2 : PySem.W.SharedT → β} {k : PySem.W.SharedT → γ} {a : α} {b : β} {c : γ} (h1 : RunP r M w k1 a) (h2 : RunP r M w k2 b) (h : ∀ s, k1 s = a → k2 s = b → k s = c) : RunP r M w k c := fun os => by
  obtain ⟨s, e, e1⟩ := Option.map_eq_some_iff.mp (h1 os)
  have e2 := h2 os
  rw [e] at e2 ⊢
  exact congrArg some (h s e1 (Option.some.inj e2))
/-- one more list of facts, looked at in a run of its own -/
theorem RunP.more {n : Nat} {ex ea eb : PySem.W.Frag → Bool} {fn : List DefZ} {ts : List TabZ} (he : ∀ K, ex K = (ea K && eb K)) (h1 : RunP r M w (obsP n ea) true)
    (h2 : RunP r M w (fun s => obsG n eb fn ts (HandSHeadRun.getT s)) (valG fn ts w)) : RunP r M w (fun s => obsG n ex fn ts (HandSHeadRun.getT s)) (valG fn ts w) := h1.both h2 fun s e1 e2 => by
  rw [obsP_eq] at e1
  have e3 : obsKG eb fn ts (He.frG (HandSHeadRun.getT s) (downTo n)) = valG fn ts w := (frL_eq _ _).symm.trans e2
  show frL _ _ = _
  rw [frL_eq, ← e3]
  unfold obsKG obsK
  rw [he, e1, Bool.true_and]
theorem RunP.row {q : Program} {loose : List PySem.Str} {H : PySem.W.Hook} {ob : PySem.W.SharedT → H.α}
    (h1 : RunP r M w (fun s => (HandSHeadRun.looksF r.prog (PySem.W.boot_heap w.params) s.abs, HandSHeadRun.seenQ q loose (importedModules r.prog.main.body) (fun s => PySem.W.xlAt q [] s && PySem.W.recOk r.toRowW.records s) s.abs)) (true, PySem.W.openGood q loose))
    (h2 : RunP r M w ob (H.val w)) : HandSHeadRun.RunEq r q H ob M loose w := h1.both h2 fun s e1 e2 => by
  have a := congrArg Prod.fst e1
  have b := congrArg Prod.snd e1
  show (_, _, _) = _
  exact Prod.ext a (Prod.ext b e2)
end
end Z

set_option Elab.async false
set_option linter.all false
set_option maxRecDepth 100000
namespace Z
open PySem PySem.Spec PyProof.Rows L2
/-! ### an own class and the built-in kinds -/
def kndL : List String := ["NoneType", "bool", "int", "str", "tuple", "list", "dict"]
/-- the class c and the built-in kinds: none is a kind of the other -/
def oeB (K : PySem.W.Frag) (c : Str) : Bool := kndL.all fun T => decide (PySem.W.subIn K (.type T) (.ref (He.ga K c)) = some false) && decide (PySem.W.subIn K (.ref (He.ga K c)) (.type T) = some false)
def neC (K : PySem.W.Frag) (c : Str) : Bool := He.eqO (PySem.W.findIn K (.ref (He.ga K c)) "__ne__") (some (some (.builtin "object.__ne__"))) && decide (PySem.W.mroIn K (He.ga K c) (.type "object") = some true)
end Z

set_option Elab.async false
set_option linter.all false
set_option maxRecDepth 100000
set_option maxHeartbeats 0
namespace Z
namespace K08
open PySem PySem.Spec PyProof.Rows L2
def top (i : Nat) : Stmt := PySem.Challenge.pw_ringshares_k08_rings_compared.main.body.getD i (.Pass ⟨0, 0, 0, 0⟩)
abbrev st__law_dip : Stmt := top 40
def d__law_dip : DefZ := ⟨.g "_law_dip", "_law_dip", "_law_dip", defArgs st__law_dip, defBody st__law_dip, defScope st__law_dip, []⟩
abbrev st__law_of : Stmt := top 41
def d__law_of : DefZ := ⟨.g "_law_of", "_law_of", "_law_of", defArgs st__law_of, defBody st__law_of, defScope st__law_of, []⟩
abbrev st__law_rule : Stmt := top 49
def d__law_rule : DefZ := ⟨.g "_law_rule", "_law_rule", "_law_rule", defArgs st__law_rule, defBody st__law_rule, defScope st__law_rule, []⟩
abbrev st__law_title : Stmt := top 43
def d__law_title : DefZ := ⟨.g "_law_title", "_law_title", "_law_title", defArgs st__law_title, defBody st__law_title, defScope st__law_title, []⟩
abbrev st__law_titles : Stmt := top 44
def d__law_titles : DefZ := ⟨.g "_law_titles", "_law_titles", "_law_titles", defArgs st__law_titles, defBody st__law_titles, defScope st__law_titles, []⟩
abbrev st__law_yards : Stmt := top 45
def d__law_yards : DefZ := ⟨.g "_law_yards", "_law_yards", "_law_yards", defArgs st__law_yards, defBody st__law_yards, defScope st__law_yards, []⟩
abbrev st__law_free : Stmt := top 46
def d__law_free : DefZ := ⟨.g "_law_free", "_law_free", "_law_free", defArgs st__law_free, defBody st__law_free, defScope st__law_free, []⟩
abbrev st__law_vast : Stmt := top 42
def d__law_vast : DefZ := ⟨.g "_law_vast", "_law_vast", "_law_vast", defArgs st__law_vast, defBody st__law_vast, defScope st__law_vast, []⟩
abbrev st__law_place : Stmt := top 47
def d__law_place : DefZ := ⟨.g "_law_place", "_law_place", "_law_place", defArgs st__law_place, defBody st__law_place, defScope st__law_place, []⟩
abbrev st__law_band : Stmt := top 48
def d__law_band : DefZ := ⟨.g "_law_band", "_law_band", "_law_band", defArgs st__law_band, defBody st__law_band, defScope st__law_band, []⟩
abbrev st__law_build : Stmt := top 50
def d__law_build : DefZ := ⟨.g "_law_build", "_law_build", "_law_build", defArgs st__law_build, defBody st__law_build, defScope st__law_build, []⟩
abbrev st__law_width : Stmt := top 51
def d__law_width : DefZ := ⟨.g "_law_width", "_law_width", "_law_width", defArgs st__law_width, defBody st__law_width, defScope st__law_width, []⟩
abbrev st_is_integer : Stmt := top 20
def d_is_integer : DefZ := ⟨.g "is_integer", "is_integer", "is_integer", defArgs st_is_integer, defBody st_is_integer, defScope st_is_integer, []⟩
abbrev st_check_number : Stmt := top 28
def d_check_number : DefZ := ⟨.g "check_number", "check_number", "check_number", defArgs st_check_number, defBody st_check_number, defScope st_check_number, []⟩
abbrev st_is_name : Stmt := top 21
def d_is_name : DefZ := ⟨.g "is_name", "is_name", "is_name", defArgs st_is_name, defBody st_is_name, defScope st_is_name, []⟩
abbrev st_are_points : Stmt := top 23
def d_are_points : DefZ := ⟨.g "are_points", "are_points", "are_points", defArgs st_are_points, defBody st_are_points, defScope st_are_points, []⟩
abbrev st_is_host : Stmt := top 29
def d_is_host : DefZ := ⟨.g "is_host", "is_host", "is_host", defArgs st_is_host, defBody st_is_host, defScope st_is_host, []⟩
abbrev st_check_hosts : Stmt := top 30
def d_check_hosts : DefZ := ⟨.g "check_hosts", "check_hosts", "check_hosts", defArgs st_check_hosts, defBody st_check_hosts, defScope st_check_hosts, []⟩
abbrev st_Ring___init__ : Stmt := inClass (top 32) 0
def d_Ring___init__ : DefZ := ⟨.m "Ring" "__init__", "__init__", "Ring.__init__", defArgs st_Ring___init__, defBody st_Ring___init__, defScope st_Ring___init__, []⟩
abbrev st_written : Stmt := top 22
def d_written : DefZ := ⟨.g "written", "written", "written", defArgs st_written, defBody st_written, defScope st_written, []⟩
abbrev st_host_of : Stmt := top 31
def d_host_of : DefZ := ⟨.g "host_of", "host_of", "host_of", defArgs st_host_of, defBody st_host_of, defScope st_host_of, []⟩
abbrev st_Ring_read : Stmt := inClass (top 32) 1
def d_Ring_read : DefZ := ⟨.cm "Ring" "read", "read", "Ring.read", defArgs st_Ring_read, defBody st_Ring_read, defScope st_Ring_read, []⟩
abbrev st__law_sheet : Stmt := top 53
def d__law_sheet : DefZ := ⟨.g "_law_sheet", "_law_sheet", "_law_sheet", defArgs st__law_sheet, defBody st__law_sheet, defScope st__law_sheet, []⟩
abbrev st__law_made : Stmt := top 52
def d__law_made : DefZ := ⟨.g "_law_made", "_law_made", "_law_made", defArgs st__law_made, defBody st__law_made, defScope st__law_made, []⟩
abbrev st__law_other_crew : Stmt := top 55
def d__law_other_crew : DefZ := ⟨.g "_law_other_crew", "_law_other_crew", "_law_other_crew", defArgs st__law_other_crew, defBody st__law_other_crew, defScope st__law_other_crew, []⟩
abbrev st__law_other : Stmt := top 56
def d__law_other : DefZ := ⟨.g "_law_other", "_law_other", "_law_other", defArgs st__law_other, defBody st__law_other, defScope st__law_other, []⟩
abbrev st_Ring_spread : Stmt := inClass (top 32) 6
def d_Ring_spread : DefZ := ⟨.p "Ring" "spread", "spread", "Ring.spread", defArgs st_Ring_spread, defBody st_Ring_spread, defScope st_Ring_spread, []⟩
abbrev st_Ring_pending : Stmt := inClass (top 32) 7
def d_Ring_pending : DefZ := ⟨.p "Ring" "pending", "pending", "Ring.pending", defArgs st_Ring_pending, defBody st_Ring_pending, defScope st_Ring_pending, []⟩
abbrev st_Ring___str__ : Stmt := inClass (top 32) 15
def d_Ring___str__ : DefZ := ⟨.m "Ring" "__str__", "__str__", "Ring.__str__", defArgs st_Ring___str__, defBody st_Ring___str__, defScope st_Ring___str__, []⟩
abbrev st_Ring___eq__ : Stmt := inClass (top 32) 16
def d_Ring___eq__ : DefZ := ⟨.m "Ring" "__eq__", "__eq__", "Ring.__eq__", defArgs st_Ring___eq__, defBody st_Ring___eq__, defScope st_Ring___eq__, []⟩
abbrev st__law_pair_right : Stmt := top 57
def d__law_pair_right : DefZ := ⟨.g "_law_pair_right", "_law_pair_right", "_law_pair_right", defArgs st__law_pair_right, defBody st__law_pair_right, defScope st__law_pair_right, []⟩
abbrev st__law_value : Stmt := top 54
def d__law_value : DefZ := ⟨.g "_law_value", "_law_value", "_law_value", defArgs st__law_value, defBody st__law_value, defScope st__law_value, []⟩
abbrev st__law_right : Stmt := top 58
def d__law_right : DefZ := ⟨.g "_law_right", "_law_right", "_law_right", defArgs st__law_right, defBody st__law_right, defScope st__law_right, []⟩
abbrev st__law_filled : Stmt := top 39
def d__law_filled : DefZ := ⟨.g "_law_filled", "_law_filled", "_law_filled", defArgs st__law_filled, defBody st__law_filled, defScope st__law_filled, []⟩
abbrev st_law : Stmt := top 59
def d_law : DefZ := ⟨.g "law", "law", "law", defArgs st_law, defBody st_law, defScope st_law, []⟩
def ex0 : List (PySem.W.Frag → Bool) := [fun K => (He.Fa.free "len").ok K,
  fun K => (He.Fa.free "min").ok K,
  fun K => (He.Fa.free "max").ok K,
  fun K => (He.Fa.free "range").ok K,
  fun K => (He.Fa.free "divmod").ok K,
  fun K => (He.Fa.free "int").ok K,
  fun K => (He.Fa.glo "_law_dip").ok K,
  fun K => (He.Fa.glo "_law_of").ok K,
  fun K => (He.Fa.glo "_law_rule").ok K,
  fun K => (He.Fa.glo "_law_title").ok K,
  fun K => (He.Fa.glo "_law_titles").ok K,
  fun K => (He.Fa.glo "_law_yards").ok K,
  fun K => (He.Fa.glo "_law_vast").ok K,
  fun K => (He.Fa.glo "_law_place").ok K,
  fun K => (He.Fa.glo "_law_free").ok K,
  fun K => (He.Fa.free "sorted").ok K,
  fun K => (He.Fa.free "tuple").ok K,
  fun K => (He.Fa.glo "_law_band").ok K,
  fun K => (He.Fa.glo "_law_width").ok K,
  fun K => (He.Fa.glo "_law_build").ok K]
def ex1 : List (PySem.W.Frag → Bool) := [fun K => (He.Fa.free "isinstance").ok K,
  fun K => isiF K ["Ring"] ["int", "bool", "str", "tuple"],
  fun K => (He.Fa.free "bool").ok K,
  fun K => (He.Fa.glo "is_integer").ok K,
  fun K => (He.Fa.int "MOST_POINTS" 1000000000000000000).ok K,
  fun K => (He.Fa.glo "check_number").ok K,
  fun K => (He.Fa.int "MOST_FACTOR" 5).ok K,
  fun K => (He.Fa.free "str").ok K,
  fun K => (He.Fa.glo "SPREADS").ok K,
  fun K => He.tupB K "SPREADS" ((["hosts", "racks"] : List PySem.Str).map He.Dv.str),
  fun K => (He.Fa.glo "PENDINGS").ok K,
  fun K => He.tupB K "PENDINGS" ((["plain", "with"] : List PySem.Str).map He.Dv.str),
  fun K => (He.Fa.free "enumerate").ok K,
  fun K => (He.Fa.int "MOST_HOSTS" 12).ok K,
  fun K => (He.Fa.int "LONGEST_NAME" 8).ok K,
  fun K => (He.Fa.str "LETTERS" "abcdefghijklmnopqrstuvwxyz").ok K,
  fun K => (He.Fa.str "DIGITS" "0123456789").ok K,
  fun K => (He.Fa.free "all").ok K,
  fun K => (He.Fa.glo "is_name").ok K,
  fun K => (He.Fa.free "zip").ok K]
def ex2 : List (PySem.W.Frag → Bool) := [fun K => (He.Fa.int "MOST_MARKS" 16).ok K,
  fun K => (He.Fa.glo "are_points").ok K,
  fun K => (He.Fa.free "any").ok K,
  fun K => (He.Fa.glo "is_host").ok K,
  fun K => (He.Fa.glo "check_hosts").ok K,
  fun K => (He.Fa.cls "Ring").ok K,
  fun K => (He.Fa.noat "Ring" "numbers").ok K,
  fun K => (He.Fa.noat "Ring" "words").ok K,
  fun K => (He.Fa.noat "Ring" "held_hosts").ok K,
  fun K => (He.Fa.noat "Ring" "racks").ok K,
  fun K => (He.Fa.noat "Ring" "marks").ok K,
  fun K => (He.Fa.mkr "Ring").ok K,
  fun K => (He.Fa.glo "Ring").ok K,
  fun K => (He.Fa.int "LONGEST_NUMBER" 19).ok K,
  fun K => (He.Fa.glo "written").ok K,
  fun K => (He.Fa.glo "host_of").ok K,
  fun K => (He.Fa.int "HEAD_WORDS" 7).ok K,
  fun K => (He.Fa.glo "_law_sheet").ok K,
  fun K => cmetB K "Ring" "read",
  fun K => (He.Fa.glo "_law_made").ok K]
def ex3 : List (PySem.W.Frag → Bool) := [fun K => (He.Fa.free "list").ok K,
  fun K => (He.Fa.glo "_law_other_crew").ok K,
  fun K => (He.Fa.glo "_law_other").ok K,
  fun K => propB K "Ring" "spread",
  fun K => propB K "Ring" "pending",
  fun K => (He.Fa.meth "Ring" "__str__").ok K,
  fun K => oeB K "Ring",
  fun K => (He.Fa.meth "Ring" "__eq__").ok K,
  fun K => neC K "Ring",
  fun K => (He.Fa.free "repr").ok K,
  fun K => (He.Fa.glo "_law_pair_right").ok K,
  fun K => (He.Fa.glo "_law_value").ok K,
  fun K => (He.Fa.free "abs").ok K,
  fun K => (He.Fa.glo "_law_filled").ok K,
  fun K => (He.Fa.glo "_law_right").ok K,
  fun K => (He.Fa.glo "law").ok K,
  fun K => noLstF K]
def exC : List (List (PySem.W.Frag → Bool)) := [ex0, ex1, ex2, ex3]
def exL : List (PySem.W.Frag → Bool) := exC.flatten
def fn0 : List DefZ := [d__law_dip, d__law_of, d__law_rule, d__law_title, d__law_titles, d__law_yards, d__law_free, d__law_vast, d__law_place, d__law_band, d__law_build, d__law_width, d_is_integer, d_check_number, d_is_name, d_are_points, d_is_host, d_check_hosts, d_Ring___init__, d_written]
def fn1 : List DefZ := [d_host_of, d_Ring_read, d__law_sheet, d__law_made, d__law_other_crew, d__law_other, d_Ring_spread, d_Ring_pending, d_Ring___str__, d_Ring___eq__, d__law_pair_right, d__law_value, d__law_right, d__law_filled, d_law]
def fnC : List (List DefZ) := [fn0, fn1]
def fnL : List DefZ := fnC.flatten
def names0 : List PySem.Str := ["_wall", "BadValue", "BadName", "InvalidText", "InvalidNumber", "InvalidSpread", "InvalidPending", "InvalidPoint", "InvalidHosts", "UnknownName", "MOST_POINTS", "MOST_FACTOR", "MOST_HOSTS", "MOST_MARKS", "LETTERS", "DIGITS", "LONGEST_NAME", "LONGEST_NUMBER", "is_integer", "is_name", "written", "are_points", "SPREADS", "PENDINGS", "HEAD_WORDS", "check_number", "is_host", "check_hosts", "host_of", "Ring"]
def names1 : List PySem.Str := ["walk_of", "chosen", "keepers_of", "check_point", "check_host", "_law_filled", "_law_dip", "_law_of", "_law_vast", "_law_title", "_law_titles", "_law_yards", "_law_free", "_law_place", "_law_band", "_law_rule", "_law_build", "_law_width", "_law_made", "_law_sheet", "_law_value", "_law_other_crew", "_law_other", "_law_pair_right", "_law_right"]
def names : List PySem.Str := names0 ++ names1
abbrev exF : PySem.W.Frag → Bool := fun K => exL.all fun f => f K
abbrev R : PySem.W.OpenRow := PySem.W.OpenLaw.row PySem.Challenge.rw_ringshares_k08_rings_compared
abbrev hk : PySem.W.Hook := hookF 1000 exF fnL
def ob (s : PySem.W.SharedT) : AlZ := obsF 1000 exF fnL (HandSHeadRun.getT s)
theorem ob_eq (s : PySem.W.SharedT) : ob s = hk.obs s.abs := obsF_eq (HandSHeadRun.getT_eq s)
theorem run (w : World) : HandSHeadRun.RunEq R (PySem.W.view R.prog [59]) hk ob 20000 names w := by
  intro os
  kernel_rfl
end K08
end Z

set_option Elab.async false
set_option linter.all false
set_option maxRecDepth 100000
set_option maxHeartbeats 4000000
namespace Z
open PySem PySem.Spec PyProof.Rows L2
/-! ### pure values -/
inductive D where
  | non | bl (b : Bool) | int (i : Int) | str (x : Str)
  | tup (ds : List D) | lst (ds : List D) | dic (kvs : List (Key × D)) | obj (c : Str) (fs : List (Str × D)) | cel (n : Nat) | opq (v : V) | ty (c : Str)
/-- the ghost: what is frozen, where the cells lie -/
structure G where
  F : Hp
  ad : List Addr
section
variable (K : PySem.W.Frag) (g : G)
mutual
inductive Rep : V → D → Prop
  | non : Rep .non .non
  | bl (b : Bool) : Rep (.bl b) (.bl b)
  | int (i : Int) : Rep (.int i) (.int i)
  | str (x : Str) : Rep (.str x) (.str x)
  | tup {a vs ds} : SqT K g.F a vs → RepL vs ds → Rep (.ref a) (.tup ds)
  | lst {a vs ds} : Rd g.F a (.lst vs) → RepL vs ds → Rep (.ref a) (.lst ds)
  | dic {a kvs ds} : g.F a = some (.dK kvs) → RepK kvs ds → Rep (.ref a) (.dic ds)
  | obj {a dx c fs ds} : g.F a = some (.ins (He.ga K c) dx fs) → RepF fs ds → Rep (.ref a) (.obj c ds)
  | cel {a n} : g.ad[n]? = some a → Rep (.ref a) (.cel n)
  | opq (v : V) : Rep v (.opq v)
  | ty (c : Str) : Rep (.ref (He.ga K c)) (.ty c)
inductive RepL : List V → List D → Prop
  | nil : RepL [] []
  | cons {v d vs ds} : Rep v d → RepL vs ds → RepL (v :: vs) (d :: ds)
inductive RepK : List (Key × V) → List (Key × D) → Prop
  | nil : RepK [] []
  | cons {k v d vs ds} : Rep v d → RepK vs ds → RepK ((k, v) :: vs) ((k, d) :: ds)
inductive RepF : List (Str × V) → List (Str × D) → Prop
  | nil : RepF [] []
  | cons {k v d vs ds} : Rep v d → RepF vs ds → RepF ((k, v) :: vs) ((k, d) :: ds)
end
end
section
variable {K : PySem.W.Frag} {g g' : G}
/-- the ghost grows -/
structure GLe (g g' : G) : Prop where
  F : ∀ (a : Addr) (u : HO), g.F a = some u → g'.F a = some u
  ad : ∀ (n : Nat) (a : Addr), g.ad[n]? = some a → g'.ad[n]? = some a
theorem GLe.refl : GLe g g := ⟨fun _ _ h => h, fun _ _ h => h⟩
theorem GLe.trans {g'' : G} (a : GLe g g') (b : GLe g' g'') : GLe g g'' := ⟨fun x u h => b.F x u (a.F x u h), fun n x h => b.ad n x (a.ad n x h)⟩
theorem rd_mono {F F' : Hp} {a : Addr} {u : HO} (h : ∀ a u, F a = some u → F' a = some u) (r : Rd F a u) : Rd F' a u := by
  rcases r with r | ⟨o, r⟩
  · exact .inl (h _ _ r)
  · exact .inr ⟨o, h _ _ r⟩
theorem sqT_mono {F F' : Hp} {a : Addr} {vs : List V} (h : ∀ a u, F a = some u → F' a = some u) (r : SqT K F a vs) : SqT K F' a vs := by
  rcases r with r | r
  · exact .inl (rd_mono h r)
  · exact .inr r
mutual
theorem Rep.mono (L : GLe g g') : ∀ {v d}, Rep K g v d → Rep K g' v d
  | _, _, .non => .non
  | _, _, .bl b => .bl b
  | _, _, .int i => .int i
  | _, _, .str x => .str x
  | _, _, .tup h r => .tup (sqT_mono L.F h) (RepL.mono L r)
  | _, _, .lst h r => .lst (rd_mono L.F h) (RepL.mono L r)
  | _, _, .dic h r => .dic (L.F _ _ h) (RepK.mono L r)
  | _, _, .obj h r => .obj (L.F _ _ h) (RepF.mono L r)
  | _, _, .cel h => .cel (L.ad _ _ h)
  | _, _, .opq v => .opq v
  | _, _, .ty c => .ty c
theorem RepL.mono (L : GLe g g') : ∀ {v d}, RepL K g v d → RepL K g' v d
  | _, _, .nil => .nil
  | _, _, .cons h r => .cons (Rep.mono L h) (RepL.mono L r)
theorem RepK.mono (L : GLe g g') : ∀ {v d}, RepK K g v d → RepK K g' v d
  | _, _, .nil => .nil
  | _, _, .cons h r => .cons (Rep.mono L h) (RepK.mono L r)
theorem RepF.mono (L : GLe g g') : ∀ {v d}, RepF K g v d → RepF K g' v d
  | _, _, .nil => .nil
  | _, _, .cons h r => .cons (Rep.mono L h) (RepF.mono L r)
end
theorem RepL.length : ∀ {vs ds}, RepL K g vs ds → vs.length = ds.length
  | _, _, .nil => rfl
  | _, _, .cons _ r => by simp [RepL.length r]
theorem RepL.append : ∀ {vs ds ws es}, RepL K g vs ds → RepL K g ws es → RepL K g (vs ++ ws) (ds ++ es)
  | _, _, _, _, .nil, s => s
  | _, _, _, _, .cons h r, s => .cons h (RepL.append r s)
theorem RepL.get : ∀ {vs : List V} {ds : List D} {i : Nat} {d : D}, RepL K g vs ds → ds[i]? = some d → ∃ v, vs[i]? = some v ∧ Rep K g v d
  | _, _, _, _, .nil, e => by simp at e
  | _, _, 0, _, .cons h r, e => by simp at e; subst e; exact ⟨_, rfl, h⟩
  | _, _, i + 1, _, .cons h r, e => by
    obtain ⟨v, h1, h2⟩ := RepL.get r (i := i) (by simpa using e)
    exact ⟨v, by simpa using h1, h2⟩
theorem RepL.getV : ∀ {vs : List V} {ds : List D} {i : Nat} {v : V}, RepL K g vs ds → vs[i]? = some v → ∃ d, ds[i]? = some d ∧ Rep K g v d
  | _, _, _, _, .nil, e => by simp at e
  | _, _, 0, _, .cons h r, e => by simp at e; subst e; exact ⟨_, rfl, h⟩
  | _, _, i + 1, _, .cons h r, e => by
    obtain ⟨v, h1, h2⟩ := RepL.getV r (i := i) (by simpa using e)
    exact ⟨v, by simpa using h1, h2⟩
theorem RepL.set {v d} (h : Rep K g v d) : ∀ {vs ds} (i : Nat), RepL K g vs ds → RepL K g (vs.set i v) (ds.set i d)
  | _, _, _, .nil => .nil
  | _, _, 0, .cons _ r => .cons h r
  | _, _, i + 1, .cons q r => .cons q (RepL.set h i r)
theorem RepL.take : ∀ {vs ds} (n : Nat), RepL K g vs ds → RepL K g (vs.take n) (ds.take n)
  | _, _, 0, _ => .nil
  | _, _, _ + 1, .nil => .nil
  | _, _, n + 1, .cons q r => .cons q (RepL.take n r)
theorem RepL.drop : ∀ {vs ds} (n : Nat), RepL K g vs ds → RepL K g (vs.drop n) (ds.drop n)
  | _, _, 0, r => r
  | _, _, _ + 1, .nil => .nil
  | _, _, n + 1, .cons q r => RepL.drop n r
/-! ### what stands at a cell, at an owned slot -/
def OwnAt (K : PySem.W.Frag) (g : G) (H : Hp) (a : Addr) : D → Prop
  | .lst ds => ∃ vs, H a = some (.lst vs) ∧ RepL K g vs ds
  | .dic ds => ∃ kvs, H a = some (.dK kvs) ∧ RepK K g kvs ds
  | .obj c ds => ∃ dx fs, H a = some (.ins (He.ga K c) dx fs) ∧ RepF K g fs ds
  | _ => False
theorem OwnAt.has {H : Hp} {a : Addr} {d : D} (h : OwnAt K g H a d) : ∃ u, H a = some u := by
  cases d with
  | lst ds => obtain ⟨_, h, _⟩ := h; exact ⟨_, h⟩
  | dic ds => obtain ⟨_, h, _⟩ := h; exact ⟨_, h⟩
  | obj c ds => obtain ⟨_, _, h, _⟩ := h; exact ⟨_, h⟩
  | _ => exact h.elim
theorem OwnAt.mono {H H' : Hp} {a : Addr} {d : D} (L : GLe g g') (e : ∀ u, H a = some u → H' a = some u) (h : OwnAt K g H a d) : OwnAt K g' H' a d := by
  cases d with
  | lst ds => obtain ⟨vs, h, r⟩ := h; exact ⟨vs, e _ h, r.mono L⟩
  | dic ds => obtain ⟨vs, h, r⟩ := h; exact ⟨vs, e _ h, r.mono L⟩
  | obj c ds => obtain ⟨dx, fs, h, r⟩ := h; exact ⟨dx, fs, e _ h, r.mono L⟩
  | _ => exact h.elim
/-! ### what stands at a cell: a list, a dict, an object, the code table of a lambda, a dict of tuple keys -/
def kyD : Key → D
  | .inl i => .int i
  | .inr x => .str x
def kTupD (k : List Key) : D := .tup (k.map kyD)
def OwnC (K : PySem.W.Frag) (g : G) (H : Hp) (a : Addr) : D → Prop
  | .ty q => ∃ ps, H a = some (.tbl ps) ∧ TriplesOk ps.toList ∧ ∀ (pos : Pos) (cv : Value), codeAmong pos ps.toList = some cv → ∃ c, cv = .ref c ∧ g.F c = some (LamX.CodeO c q)
  | .tup ks => ∃ kvs, H a = some (.dT kvs) ∧ kvs.map (fun p => kTupD p.1) = ks ∧ ∀ p ∈ kvs, p.2 = V.bl true
  | d => OwnAt K g H a d
theorem OwnAt.toC {H : Hp} {a : Addr} {d : D} (h : OwnAt K g H a d) : OwnC K g H a d := by
  cases d with
  | lst ds => exact h
  | dic ds => exact h
  | obj c ds => exact h
  | _ => exact (h : False).elim
theorem OwnC.has {H : Hp} {a : Addr} {d : D} (h : OwnC K g H a d) : ∃ u, H a = some u := by
  cases d with
  | ty q => obtain ⟨_, h, _⟩ := h; exact ⟨_, h⟩
  | tup q => obtain ⟨_, h, _⟩ := h; exact ⟨_, h⟩
  | lst ds => exact OwnAt.has (K := K) (g := g) (d := .lst ds) h
  | dic ds => exact OwnAt.has (K := K) (g := g) (d := .dic ds) h
  | obj c ds => exact OwnAt.has (K := K) (g := g) (d := .obj c ds) h
  | _ => exact (h : False).elim
theorem OwnC.mono {H H' : Hp} {a : Addr} {d : D} (L : GLe g g') (e : ∀ u, H a = some u → H' a = some u) (h : OwnC K g H a d) : OwnC K g' H' a d := by
  cases d with
  | ty q => obtain ⟨ps, h, h1, h2⟩ := h; exact ⟨ps, e _ h, h1, fun pos cv q => let ⟨c, z1, z2⟩ := h2 pos cv q; ⟨c, z1, L.F _ _ z2⟩⟩
  | tup q => obtain ⟨ps, h, h1, h2⟩ := h; exact ⟨ps, e _ h, h1, h2⟩
  | lst ds => exact OwnAt.mono (d := .lst ds) L e h
  | dic ds => exact OwnAt.mono (d := .dic ds) L e h
  | obj c ds => exact OwnAt.mono (d := .obj c ds) L e h
  | _ => exact (h : False).elim
abbrev S := List D
inductive Sl where
  | unb | val (d : D) | own (d : D)
abbrev EnvD := List Sl
structure SRel (K : PySem.W.Frag) (g : G) (H : Hp) (s : S) : Prop where
  sub : ∀ a u, g.F a = some u → H a = some u ∨ ((∃ kvs, u = .dK kvs) ∧ ∃ o, H a = some (.frz o u))
  len : g.ad.length = s.length
  cell : ∀ (n : Nat) (c : D), s[n]? = some c → ∃ a, g.ad[n]? = some a ∧ g.F a = none ∧ OwnC K g H a c
  inj : ∀ (n m : Nat) (a : Addr), g.ad[n]? = some a → g.ad[m]? = some a → n = m
theorem SRel.has {H : Hp} {s : S} (r : SRel K g H s) {a : Addr} (h : a ∈ g.ad) : ∃ u, H a = some u := by
  obtain ⟨n, hn⟩ := List.mem_iff_getElem?.mp h
  have hl : n < s.length := by rw [← r.len]; exact (List.getElem?_eq_some_iff.mp hn).1
  obtain ⟨b, h1, _, h2⟩ := r.cell n s[n] (List.getElem?_eq_getElem hl)
  rw [hn] at h1
  cases h1
  exact h2.has
theorem OwnAt.noT {H : Hp} {a : Addr} {d : D} (h : OwnAt K g H a d) (vs : List V) : H a ≠ some (.tup vs) := fun q => by
  cases d with
  | lst ds => obtain ⟨_, h, _⟩ := h; rw [h] at q; cases q
  | dic ds => obtain ⟨_, h, _⟩ := h; rw [h] at q; cases q
  | obj c ds => obtain ⟨_, _, h, _⟩ := h; rw [h] at q; cases q
  | _ => exact h.elim
theorem OwnC.noT {H : Hp} {a : Addr} {d : D} (h : OwnC K g H a d) (vs : List V) : H a ≠ some (.tup vs) := fun q => by
  cases d with
  | ty _ => obtain ⟨_, h, _⟩ := h; rw [h] at q; cases q
  | tup _ => obtain ⟨_, h, _⟩ := h; rw [h] at q; cases q
  | lst ds => exact OwnAt.noT (K := K) (g := g) (d := .lst ds) h vs q
  | dic ds => exact OwnAt.noT (K := K) (g := g) (d := .dic ds) h vs q
  | obj c ds => exact OwnAt.noT (K := K) (g := g) (d := .obj c ds) h vs q
  | _ => exact (h : False).elim
/-- a place that a step may take among the frozen ones: none yet, or a tuple -/
def Fre (H : Hp) (a : Addr) : Prop := H a = none ∨ ∃ vs, H a = some (.tup vs)
theorem Fre.no {H : Hp} {a : Addr} {u : HO} (z : Fre H a) (h : H a = some u) (n : ∀ vs, u ≠ .tup vs) : False := by
  rcases z with z | ⟨vs, z⟩
  · rw [h] at z; cases z
  · rw [h] at z; cases z; exact n vs rfl
theorem Fre.own {H : Hp} {a : Addr} {d : D} (z : Fre H a) (h : OwnAt K g H a d) : False := by
  rcases z with z | ⟨vs, z⟩
  · obtain ⟨u, hu⟩ := h.has; rw [hu] at z; cases z
  · exact h.noT vs z
theorem SRel.noT {H : Hp} {s : S} (r : SRel K g H s) {a : Addr} (h : a ∈ g.ad) (vs : List V) : H a ≠ some (.tup vs) := by
  obtain ⟨n, hn⟩ := List.mem_iff_getElem?.mp h
  have hl : n < s.length := by rw [← r.len]; exact (List.getElem?_eq_some_iff.mp hn).1
  obtain ⟨b, h1, _, h2⟩ := r.cell n s[n] (List.getElem?_eq_getElem hl)
  rw [hn] at h1
  cases h1
  exact h2.noT vs
structure EnvRel (K : PySem.W.Frag) (g : G) (H : Hp) (σ : L2.St) (e : EnvD) : Prop where
  len : e.length = σ.length
  val : ∀ (i : Nat) (d : D), e[i]? = some (Sl.val d) → ∃ v, σ[i]? = some (some v) ∧ Rep K g v d
  own : ∀ (i : Nat) (d : D), e[i]? = some (Sl.own d) → ∃ a, σ[i]? = some (some (.ref a)) ∧ g.F a = none ∧ a ∉ g.ad ∧ OwnAt K g H a d
  apart : ∀ (i j : Nat) (d d' : D) (a : Addr), e[i]? = some (Sl.own d) → e[j]? = some (Sl.own d') → σ[i]? = some (some (.ref a)) → σ[j]? = some (some (.ref a)) → i = j
/-- an expression's step: all but the cells stays -/
structure Step (K : PySem.W.Frag) (g : G) (H : Hp) (g' : G) (H' : Hp) (s' : S) : Prop where
  rel : SRel K g' H' s'
  le : GLe g g'
  new : ∀ a u, g'.F a = some u → g.F a = some u ∨ Fre H a
  newc : ∀ a, a ∈ g'.ad → a ∈ g.ad ∨ H a = none
  keep : ∀ a u, H a = some u → a ∉ g.ad → H' a = some u
theorem Step.refl {H : Hp} {s : S} (r : SRel K g H s) : Step K g H g H s := ⟨r, .refl, fun _ _ h => .inl h, fun _ h => .inl h, fun _ _ h _ => h⟩
theorem mem_ad (L : GLe g g') {a : Addr} (h : a ∈ g.ad) : a ∈ g'.ad := by
  obtain ⟨n, hn⟩ := List.mem_iff_getElem?.mp h
  exact List.mem_iff_getElem?.mpr ⟨n, L.ad n a hn⟩
theorem Step.has {H H' : Hp} {s' : S} (x : Step K g H g' H' s') {a : Addr} {u : HO} (h : H a = some u) : ∃ u', H' a = some u' := by
  by_cases ha : a ∈ g.ad
  · exact x.rel.has (mem_ad x.le ha)
  · exact ⟨u, x.keep a u h ha⟩
theorem Step.noneOf {H H' : Hp} {s' : S} (x : Step K g H g' H' s') {a : Addr} (h : H' a = none) : H a = none := by
  cases e : H a with
  | none => rfl
  | some u => obtain ⟨u', q⟩ := x.has e; rw [h] at q; cases q
theorem Step.freOf {H H' : Hp} {s' : S} (x : Step K g H g' H' s') {a : Addr} (h : Fre H' a) : Fre H a := by
  rcases h with h | ⟨vs, h⟩
  · exact .inl (x.noneOf h)
  · cases e : H a with
    | none => exact .inl e
    | some u =>
      by_cases ha : a ∈ g.ad
      · exact absurd h (x.rel.noT (mem_ad x.le ha) vs)
      · have := x.keep a u e ha
        rw [h] at this; cases this
        exact .inr ⟨vs, e⟩
theorem Step.trans {g'' : G} {H H' H'' : Hp} {s' s'' : S} (x : Step K g H g' H' s') (y : Step K g' H' g'' H'' s'') : Step K g H g'' H'' s'' where
  rel := y.rel
  le := x.le.trans y.le
  new := fun a u h => by
    rcases y.new a u h with q | q
    · exact x.new a u q
    · exact .inr (x.freOf q)
  newc := fun a h => by
    rcases y.newc a h with q | q
    · exact x.newc a q
    · exact .inr (x.noneOf q)
  keep := fun a u h ha => by
    have h1 := x.keep a u h ha
    refine y.keep a u h1 fun z => ?_
    rcases x.newc a z with q | q
    · exact ha q
    · rw [h] at q; cases q
theorem EnvRel.step {σ : L2.St} {e : EnvD} {H H' : Hp} {s' : S} (r : EnvRel K g H σ e) (x : Step K g H g' H' s') : EnvRel K g' H' σ e where
  len := r.len
  val := fun i d h => by
    obtain ⟨v, h1, h2⟩ := r.val i d h
    exact ⟨v, h1, h2.mono x.le⟩
  own := fun i d h => by
    obtain ⟨a, h1, h2, h3, h4⟩ := r.own i d h
    obtain ⟨u, hu⟩ := h4.has
    refine ⟨a, h1, ?_, fun z => ?_, h4.mono x.le fun u hu => x.keep a u hu h3⟩
    · cases q : g'.F a with
      | none => rfl
      | some u' =>
        rcases x.new a u' q with z | z
        · rw [h2] at z; cases z
        · exact (z.own h4).elim
    · rcases x.newc a z with z | z
      · exact h3 z
      · rw [hu] at z; cases z
  apart := r.apart
/-! ### readings -/
abbrev ME := EnvD → S → Option (D × S)
def trE (K : PySem.W.Frag) (m : ME) : TE := fun σ H Q => ∃ g e s d s', SRel K g H s ∧ EnvRel K g H σ e ∧ m e s = some (d, s') ∧ ∀ v g' H', Step K g H g' H' s' → Rep K g' v d → Q v H'
abbrev MT := EnvD → S → Option (Bool × S)
def trT (K : PySem.W.Frag) (m : MT) : TT := fun σ H Q => ∃ g e s b s', SRel K g H s ∧ EnvRel K g H σ e ∧ m e s = some (b, s') ∧ ∀ g' H', Step K g H g' H' s' → Q b H'
abbrev MA := EnvD → S → Option (List D × S)
def trA (K : PySem.W.Frag) (m : MA) : TA := fun σ H Q => ∃ g e s ds s', SRel K g H s ∧ EnvRel K g H σ e ∧ m e s = some (ds, s') ∧ ∀ vs g' H', Step K g H g' H' s' → RepL K g' vs ds → Q vs H'
/-- a new object, owned by nobody yet -/
def trF (K : PySem.W.Frag) (m : ME) : TE := fun σ H Q => ∃ g e s d s', SRel K g H s ∧ EnvRel K g H σ e ∧ m e s = some (d, s') ∧
  ∀ a g' H', Step K g H g' H' s' → H a = none → g'.F a = none → a ∉ g'.ad → OwnAt K g' H' a d → Q (.ref a) H'
theorem PE.imp {X : Cx} {e : Expr} {t t' : TE} (h : PE X e t) (i : ∀ σ H Q, t' σ H Q → t σ H Q) : PE X e t' := ⟨fun pins s σ H Q I q => h.run pins s σ H Q I (i _ _ _ q)⟩
theorem PT.imp {X : Cx} {e : Expr} {t t' : TT} (h : PT X e t) (i : ∀ σ H Q, t' σ H Q → t σ H Q) : PT X e t' := ⟨fun pins s σ H Q I q => h.run pins s σ H Q I (i _ _ _ q)⟩
theorem PW.imp {X : Cx} {e : Expr} {t t' : TT} (h : PW X e t) (i : ∀ σ H Q, t' σ H Q → t σ H Q) : PW X e t' := ⟨fun w pins s σ H Q I q => h.run w pins s σ H Q I (i _ _ _ q)⟩
theorem PA.imp {X : Cx} {es : List Expr} {t t' : TA} (h : PA X es t) (i : ∀ σ H Q, t' σ H Q → t σ H Q) : PA X es t' := ⟨fun p pins s σ H Q I q => h.run p pins s σ H Q I (i _ _ _ q)⟩
theorem PS.imp {X : Cx} {e : Stmt} {t t' : TS} (h : PS X e t) (i : ∀ D σ H, t' D σ H → t D σ H) : PS X e t' := ⟨fun pins s σ H D I q => h.run pins s σ H D I (i _ _ _ q)⟩
theorem PSs.imp {X : Cx} {e : List Stmt} {t t' : TS} (h : PSs X e t) (i : ∀ D σ H, t' D σ H → t D σ H) : PSs X e t' := ⟨fun pins s σ H D I q => h.run pins s σ H D I (i _ _ _ q)⟩
theorem PI.imp {X : Cx} {tg e : Expr} {t t' : TI} (h : PI X tg e t) (i : ∀ σ H Q, t' σ H Q → t σ H Q) : PI X tg e t' := ⟨fun pins s σ H Q I q => h.run pins s σ H Q I (i _ _ _ q)⟩
theorem PG.imp {X : Cx} {e : Expr} {t t' : TG} (h : PG X e t) (i : ∀ v σ H Q, t' v σ H Q → t v σ H Q) : PG X e t' := ⟨fun pins s σ H v u Q I r q => h.run pins s σ H v u Q I r (i _ _ _ _ q)⟩
theorem PE.or {X : Cx} {e : Expr} {t t' : TE} (h : PE X e t) (h' : PE X e t') : PE X e (fun σ H Q => t σ H Q ∨ t' σ H Q) := ⟨fun pins s σ H Q I q => q.elim (h.run pins s σ H Q I) (h'.run pins s σ H Q I)⟩
theorem PS.or {X : Cx} {e : Stmt} {t t' : TS} (h : PS X e t) (h' : PS X e t') : PS X e (fun D σ H => t D σ H ∨ t' D σ H) := ⟨fun pins s σ H Q I q => q.elim (h.run pins s σ H Q I) (h'.run pins s σ H Q I)⟩
theorem PI.or {X : Cx} {tg e : Expr} {t t' : TI} (h : PI X tg e t) (h' : PI X tg e t') : PI X tg e (fun σ H Q => t σ H Q ∨ t' σ H Q) := ⟨fun pins s σ H Q I q => q.elim (h.run pins s σ H Q I) (h'.run pins s σ H Q I)⟩
/-- frozen: a new object is one of the values -/
def G.frz (g : G) (a : Addr) (u : HO) : G := ⟨upd g.F a u, g.ad⟩
theorem GLe.frz {a : Addr} {u : HO} (h : g.F a = none) : GLe g (g.frz a u) := ⟨fun b w e => by
  show upd g.F a u b = some w
  rw [upd_ne (fun z => by subst z; rw [h] at e; cases e)]; exact e, fun _ _ e => e⟩
theorem OwnAt.frozen {H : Hp} {a : Addr} {d : D} (h : OwnAt K g H a d) (hf : g.F a = none) : ∃ u, H a = some u ∧ Rep K (g.frz a u) (.ref a) d ∧ (∀ o w, u ≠ .frz o w) := by
  cases d with
  | lst ds => obtain ⟨vs, h, r⟩ := h; exact ⟨_, h, .lst (.inl upd_same) (r.mono (.frz hf)), fun _ _ z => nomatch z⟩
  | dic ds => obtain ⟨vs, h, r⟩ := h; exact ⟨_, h, .dic upd_same (r.mono (.frz hf)), fun _ _ z => nomatch z⟩
  | obj c ds => obtain ⟨dx, vs, h, r⟩ := h; exact ⟨_, h, .obj upd_same (r.mono (.frz hf)), fun _ _ z => nomatch z⟩
  | _ => exact h.elim
theorem SRel.frz {H : Hp} {s : S} {a : Addr} {u : HO} (r : SRel K g H s) (h : H a = some u) (hf : g.F a = none) (hc : a ∉ g.ad) : SRel K (g.frz a u) H s where
  sub := fun b w e => by
    by_cases hb : b = a
    · subst hb
      have e : upd g.F b u b = some w := e
      rw [upd_same] at e; cases e
      exact .inl h
    · have e : upd g.F a u b = some w := e
      rw [upd_ne hb] at e
      exact r.sub b w e
  len := r.len
  cell := fun n c e => by
    obtain ⟨b, h1, h2, h3⟩ := r.cell n c e
    refine ⟨b, h1, ?_, h3.mono (.frz hf) fun _ q => q⟩
    show upd g.F a u b = none
    rw [upd_ne fun z => by subst z; exact hc (List.mem_iff_getElem?.mpr ⟨n, h1⟩)]
    exact h2
  inj := r.inj
theorem Step.frz {H H' : Hp} {s' : S} {a : Addr} {u : HO} (x : Step K g H g' H' s') (hn : H a = none) (h : H' a = some u) (hf : g'.F a = none) (hc : a ∉ g'.ad) : Step K g H (g'.frz a u) H' s' where
  rel := x.rel.frz h hf hc
  le := x.le.trans (.frz hf)
  new := fun b w e => by
    by_cases hb : b = a
    · subst hb; exact .inr (.inl hn)
    · have e : upd g'.F a u b = some w := e
      rw [upd_ne hb] at e
      exact x.new b w e
  newc := x.newc
  keep := x.keep
/-- what is new may be a value -/
theorem trF.E {m : ME} {σ : L2.St} {H : Hp} {Q : VK} (h : trE K m σ H Q) : trF K m σ H Q := by
  obtain ⟨g, e, s, d, s', r, r', hm, k⟩ := h
  refine ⟨g, e, s, d, s', r, r', hm, fun a g' H' st hn hf hc o => ?_⟩
  obtain ⟨u, h1, h2, _⟩ := o.frozen hf
  exact k _ _ _ (st.frz hn h1 hf hc) h2
theorem d_frz {X : Cx} {e : Expr} {m : ME} (h : PE X e (trF X.K m)) : PE X e (trE X.K m) := PE.imp h fun _ _ _ q => trF.E q
end
end Z

set_option Elab.async false
set_option linter.all false
set_option maxRecDepth 100000
set_option maxHeartbeats 4000000
namespace Z
open PySem PySem.Spec PyProof.Rows L2
/-! ### combinators -/
def bnd {α β : Type} (x : Option (α × S)) (f : α → S → Option (β × S)) : Option (β × S) := match x with
  | some (a, s) => f a s
  | none => none
def lft {α : Type} (x : Option α) (s : S) : Option (α × S) := match x with
  | some a => some (a, s)
  | none => none
theorem bnd_some {α β : Type} {x : Option (α × S)} {f : α → S → Option (β × S)} {r : β × S} (h : bnd x f = some r) : ∃ a s, x = some (a, s) ∧ f a s = some r := by
  cases x with
  | none => cases h
  | some p => exact ⟨p.1, p.2, rfl, h⟩
theorem lft_some {α : Type} {x : Option α} {s : S} {r : α × S} (h : lft x s = some r) : x = some r.1 ∧ r.2 = s := by
  cases x with
  | none => cases h
  | some p => cases h; exact ⟨rfl, rfl⟩
def mVar (i : Nat) : ME := fun e s => match e[i]? with
  | some (.val d) => some (d, s)
  | _ => none
def mC (d : D) : ME := fun _ s => some (d, s)
def mOp (f : D → D → Option D) (ma mb : ME) : ME := fun e s => bnd (ma e s) fun a s => bnd (mb e s) fun b s => lft (f a b) s
def mUn (f : D → Option D) (ma : ME) : ME := fun e s => bnd (ma e s) fun a s => lft (f a) s
section
variable {X : Cx} {K : PySem.W.Frag} {g : G} {H : Hp} {s : S}
/-- what a two-place operation does with values -/
def OpOk (K : PySem.W.Frag) (r : R2) (f : D → D → Option D) : Prop := ∀ (g : G) (H : Hp) (s : S) (x y : V) (a b d : D) (Q : VK), SRel K g H s → Rep K g x a → Rep K g y b → f a b = some d →
  (∀ v g' H', Step K g H g' H' s → Rep K g' v d → Q v H') → r x y H Q
/-- .. that makes an object -/
def OpOkF (K : PySem.W.Frag) (r : R2) (f : D → D → Option D) : Prop := ∀ (g : G) (H : Hp) (s : S) (x y : V) (a b d : D) (Q : VK), SRel K g H s → Rep K g x a → Rep K g y b → f a b = some d →
  (∀ p g' H', Step K g H g' H' s → H p = none → g'.F p = none → p ∉ g'.ad → OwnAt K g' H' p d → Q (.ref p) H') → r x y H Q
theorem OpOkF.E {r : R2} {f : D → D → Option D} (h : OpOkF K r f) : OpOk K r f := fun g H s x y a b d Q R ra rb e k => h g H s x y a b d Q R ra rb e fun p g' H' st hn hf hc o => by
  obtain ⟨u, h1, h2, _⟩ := o.frozen hf
  exact k _ _ _ (st.frz hn h1 hf hc) h2
theorem trE_op {r : R2} {f : D → D → Option D} {ma mb : ME} (h : OpOk K r f) {σ : L2.St} {H : Hp} {Q : VK} (q : trE K (mOp f ma mb) σ H Q) : tOp r (trE K ma) (trE K mb) σ H Q := by
  obtain ⟨g, e, s, d, s', R, E, hm, k⟩ := q
  obtain ⟨a, s1, h1, hm⟩ := bnd_some hm
  obtain ⟨b, s2, h2, hm⟩ := bnd_some hm
  obtain ⟨h3, h4⟩ := lft_some hm
  dsimp only at h3 h4
  subst h4
  refine ⟨g, e, s, a, s1, R, E, h1, fun x g1 H1 st1 ra => ⟨g1, e, s1, b, s', st1.rel, E.step st1, h2, fun y g2 H2 st2 rb => ?_⟩⟩
  exact h g2 H2 s' x y a b d Q st2.rel (ra.mono st2.le) rb h3 fun v g3 H3 st3 rd => k v g3 H3 ((st1.trans st2).trans st3) rd
/-- .. of one value -/
def UnOk (K : PySem.W.Frag) (r : V → Hp → VK → Prop) (f : D → Option D) : Prop := ∀ (g : G) (H : Hp) (s : S) (x : V) (a d : D) (Q : VK), SRel K g H s → Rep K g x a → f a = some d →
  (∀ v g' H', Step K g H g' H' s → Rep K g' v d → Q v H') → r x H Q
theorem trE_un {r : V → Hp → VK → Prop} {f : D → Option D} {ma : ME} (h : UnOk K r f) {σ : L2.St} {H : Hp} {Q : VK} (q : trE K (mUn f ma) σ H Q) : tUn r (trE K ma) σ H Q := by
  obtain ⟨g, e, s, d, s', R, E, hm, k⟩ := q
  obtain ⟨a, s1, h1, hm⟩ := bnd_some hm
  obtain ⟨h3, h4⟩ := lft_some hm
  dsimp only at h3 h4
  subst h4
  exact ⟨g, e, s, a, s', R, E, h1, fun x g1 H1 st1 ra => h g1 H1 s' x a d Q st1.rel ra h3 fun v g3 H3 st3 rd => k v g3 H3 (st1.trans st3) rd⟩
/-! ### names, constants -/
theorem d_var {i : Nat} {x : Str} {pos : Pos} (hN : X.N[i]? = some x) (hv : Vis X.env.scope x) (hd : (x == ("__debug__" : Str)) = false := by decide +kernel) (hcd : (x == ("__classdict__" : Str)) = false := by decide +kernel) : PE X (.Name x pos) (trE X.K (mVar i)) :=
  PE.imp (pe_var hN hv hd hcd) fun σ H Q ⟨g, e, s, d, s', R, E, hm, k⟩ => by
    unfold mVar at hm
    split at hm
    · rename_i d' h
      cases hm
      obtain ⟨v, h1, h2⟩ := E.val i d h
      exact ⟨v, h1, k _ _ _ (.refl R) h2⟩
    · cases hm
theorem d_c {e : Expr} {v : V} {d : D} (h : PE X e (tC v)) (r : ∀ g, Rep X.K g v d) : PE X e (trE X.K (mC d)) := PE.imp h fun σ H Q ⟨g, e, s, d, s', R, E, hm, k⟩ => by
  cases hm
  exact k _ _ _ (.refl R) (r g)
theorem d_int {i : Int} {j pos} : PE X (.Constant (.int i) j pos) (trE X.K (mC (.int i))) := d_c pe_int fun _ => .int i
theorem d_bl {b : Bool} {j pos} : PE X (.Constant (.bool b) j pos) (trE X.K (mC (.bl b))) := d_c pe_bl fun _ => .bl b
theorem d_non {j pos} : PE X (.Constant .none j pos) (trE X.K (mC .non)) := d_c pe_non fun _ => .non
theorem d_str {x : Str} {j pos} : PE X (.Constant (.str x) j pos) (trE X.K (mC (.str x))) := d_c pe_str fun _ => .str x
/-- a constant of the module -/
theorem d_glob {x : Str} {v : V} {d : D} {pos : Pos} (hg : Gl X x) (hm : ∃ u, X.mg x = some u ∧ RelV v u) (r : ∀ g, Rep X.K g v d) (hd : (x == ("__debug__" : Str)) = false := by decide +kernel) : PE X (.Name x pos) (trE X.K (mC d)) := by
  obtain ⟨u, h1, h2⟩ := hm
  exact d_c (pe_glob hg h1 h2 hd) r
/-! ### arithmetic -/
def CMulZ (i j : Int) : Prop := i.natAbs.log2 + j.natAbs.log2 < 100000000
instance (i j : Int) : Decidable (CMulZ i j) := inferInstanceAs (Decidable (_ < _))
theorem CMulZ.ok {i j : Int} (h : CMulZ i j) : IntMulOk i j := by
  have b : ∀ x : Int, Builtin.Int.intBits x ≤ x.natAbs.log2 + 1 := fun x => by
    unfold Builtin.Int.intBits
    split <;> omega
  have h1 := b i
  have h2 := b j
  have h3 : i.natAbs.log2 + j.natAbs.log2 < 100000000 := h
  have eb : bitsLine = 134217728 := by decide
  intro w
  rw [Bool.and_eq_true] at w
  have w2 := of_decide_eq_true (show decide _ = true from w.2)
  rw [eb] at w2
  omega
theorem op_mulZ : OpR X (binaryOp .Mult) (rI CMulZ fun i j => .int (i * j)) := opI fun _ _ _ _ _ _ _ hc q => mul_int q hc.ok
def addD : D → D → Option D
  | .int i, .int j => some (.int (i + j))
  | .str x, .str y => if x.length + y.length ≤ sizeLine then some (.str (x ++ y)) else none
  | .tup a, .tup b => if a.length + b.length ≤ sizeLine then some (.tup (a ++ b)) else none
  | _, _ => none
def catD : D → D → Option D
  | .lst a, .lst b => if a.length + b.length ≤ sizeLine then some (.lst (a ++ b)) else none
  | _, _ => none
theorem fresh_upd {H : Hp} {p : Addr} {u : HO} {d : D} (R : SRel K g H s) (hp : H p = none) (h : ∀ g', GLe g g' → OwnAt K g' (upd H p u) p d) :
    Step K g H g (upd H p u) s ∧ g.F p = none ∧ p ∉ g.ad ∧ OwnAt K g (upd H p u) p d := by
  have hk : ∀ a w, H a = some w → upd H p u a = some w := fun a w e => by rw [upd_ne (ne_of_none e hp)]; exact e
  have hf : g.F p = none := by
    cases q : g.F p with
    | none => rfl
    | some w =>
      rcases R.sub p w q with z | ⟨_, o, z⟩ <;> (rw [hp] at z; cases z)
  have hc : p ∉ g.ad := fun z => by
    obtain ⟨w, q⟩ := R.has z
    rw [hp] at q; cases q
  refine ⟨⟨⟨fun a w e => ?_, R.len, fun n c e => ?_, R.inj⟩, .refl, fun _ _ h => .inl h, fun _ h => .inl h, fun a w e _ => hk a w e⟩, hf, hc, h g .refl⟩
  · rcases R.sub a w e with z | ⟨z1, o, z⟩
    · exact .inl (hk _ _ z)
    · exact .inr ⟨z1, o, hk _ _ z⟩
  · obtain ⟨a, h1, h2, h3⟩ := R.cell n c e
    exact ⟨a, h1, h2, h3.mono .refl fun u hu => hk _ _ hu⟩
/-- a new tuple, frozen at once -/
theorem fresh_tup {H : Hp} {p : Addr} {vs : List V} {ds : List D} (R : SRel K g H s) (hp : H p = none) (r : RepL K g vs ds) :
    ∃ g', Step K g H g' (upd H p (.tup vs)) s ∧ Rep K g' (.ref p) (.tup ds) := by
  have hk : ∀ a w, H a = some w → upd H p (.tup vs) a = some w := fun a w e => by rw [upd_ne (ne_of_none e hp)]; exact e
  have hf : g.F p = none := by
    cases q : g.F p with
    | none => rfl
    | some w =>
      rcases R.sub p w q with z | ⟨_, o, z⟩ <;> (rw [hp] at z; cases z)
  have hc : p ∉ g.ad := fun z => by
    obtain ⟨w, q⟩ := R.has z
    rw [hp] at q; cases q
  have R' : SRel K g (upd H p (.tup vs)) s := ⟨fun a w e => by
      rcases R.sub a w e with z | ⟨z1, o, z⟩
      · exact .inl (hk _ _ z)
      · exact .inr ⟨z1, o, hk _ _ z⟩, R.len, fun n c e => by
      obtain ⟨a, h1, h2, h3⟩ := R.cell n c e
      exact ⟨a, h1, h2, h3.mono .refl fun u hu => hk _ _ hu⟩, R.inj⟩
  have st : Step K g H g (upd H p (.tup vs)) s := ⟨R', .refl, fun _ _ h => .inl h, fun _ h => .inl h, fun a w e _ => hk a w e⟩
  exact ⟨_, st.frz hp upd_same hf hc, .tup (.inl (.inl upd_same)) (r.mono (.frz hf))⟩
theorem sqT_H {a : Addr} {vs : List V} (R : SRel K g H s) (h : SqT K g.F a vs) : SqT K H a vs := by
  rcases h with (h | ⟨o, h⟩) | h
  · rcases R.sub _ _ h with z | ⟨⟨_, z⟩, _⟩
    · exact .inl (.inl z)
    · cases z
  · rcases R.sub _ _ h with z | ⟨⟨_, z⟩, _⟩
    · exact .inl (.inr ⟨o, z⟩)
    · cases z
  · exact .inr h
theorem rd_H {a : Addr} {vs : List V} (R : SRel K g H s) (h : Rd g.F a (.lst vs)) : Rd H a (.lst vs) := by
  rcases h with h | ⟨o, h⟩
  · rcases R.sub _ _ h with z | ⟨⟨_, z⟩, _⟩
    · exact .inl z
    · cases z
  · rcases R.sub _ _ h with z | ⟨⟨_, z⟩, _⟩
    · exact .inr ⟨o, z⟩
    · cases z
/-- two lists added -/
def rCatZ : R2 := fun x y H Q => ∃ l b xs zs, x = .ref l ∧ y = .ref b ∧ Rd H l (.lst xs) ∧ Rd H b (.lst zs) ∧ xs.length + zs.length ≤ sizeLine ∧ ∀ p, H p = none → Q (.ref p) (upd H p (.lst (xs ++ zs)))
theorem op_catZ : OpR X (binaryOp .Add) rCatZ := by
  intro pins s σ H x y v u Q I rx ry h
  obtain ⟨l, b, xs, zs, rfl, rfl, hH, hB, hz, q⟩ := h
  cases rx
  cases ry
  obtain ⟨z, its, n, r, e⟩ := hH.ok I.hok
  obtain ⟨z2, its2, n2, r2, e2⟩ := hB.ok I.hok
  have l1 := r.length
  have l2 := r2.length
  refine PySem.P.add_list e e2 ?_ (by rw [List.size_toArray, List.size_toArray]; omega)
  have ea : its.toArray ++ its2.toArray = (its ++ its2).toArray := by simp
  rw [ea]
  have hf : H s.heap.objs.size = none := I.hok.fresh (Nat.le_refl _)
  refine ⟨.ref s.heap.objs.size, _, I.laid (t' := s.toks) (fun b u e => Heap.get?_push_of_some _ e) (Nat.le_refl _) ?_, rfl, q _ hf⟩
  exact ⟨by rw [List.length_append]; exact hz, its ++ its2, 0, r.append r2, Heap.get?_push_size _ rfl⟩
theorem OpR.or {f : Value → Value → Sem Value} {r r' : R2} (h : OpR X f r) (h' : OpR X f r') : OpR X f (fun x y H Q => r x y H Q ∨ r' x y H Q) := fun pins s σ H x y v u Q I rx ry q => q.elim (h pins s σ H x y v u Q I rx ry) (h' pins s σ H x y v u Q I rx ry)
theorem cat_ok : OpOkF K rCatZ catD := by
  intro g H s x y a b d Q R ra rb e k
  unfold catD at e
  split at e
  · rename_i as bs
    split at e
    · cases e
      cases ra with
      | lst h1 r1 =>
        cases rb with
        | lst h2 r2 =>
          refine ⟨_, _, _, _, rfl, rfl, rd_H R h1, rd_H R h2, by rw [r1.length, r2.length]; assumption, fun p hp => ?_⟩
          obtain ⟨st, hf, hc, o⟩ := fresh_upd (u := .lst _) (d := .lst (as ++ bs)) R hp fun g' L => ⟨_, upd_same, (r1.append r2).mono L⟩
          exact k p g _ st hp hf hc o
    · cases e
  · cases e
abbrev rAddZ (K : PySem.W.Frag) : R2 := fun x y H Q => rI0 (fun i j => .int (i + j)) x y H Q ∨ (∃ i j, x = .str i ∧ y = .str j ∧ i.length + j.length ≤ sizeLine ∧ Q (.str (i ++ j)) H) ∨ rCatA K x y H Q
theorem op_addZ : OpR X (binaryOp .Add) (rAddZ X.K) := OpR.or op_add (OpR.or op_add_str op_catA)
theorem add_ok : OpOk K (rAddZ K) addD := by
  intro g H s x y a b d Q R ra rb e k
  unfold addD at e
  split at e
  · cases e
    cases ra; cases rb
    exact .inl ⟨_, _, rfl, rfl, k _ _ _ (.refl R) (.int _)⟩
  · split at e
    · cases e
      cases ra; cases rb
      exact .inr (.inl ⟨_, _, rfl, rfl, by assumption, k _ _ _ (.refl R) (.str _)⟩)
    · cases e
  · rename_i as bs
    split at e
    · cases e
      cases ra with
      | tup h1 r1 =>
        cases rb with
        | tup h2 r2 =>
          refine .inr (.inr ⟨_, _, _, _, rfl, rfl, sqT_H R h1, sqT_H R h2, by rw [r1.length, r2.length]; assumption, fun z => ?_, fun _ z => ?_, fun _ _ p hp => ?_⟩)
          · subst z
            cases r1
            exact k _ _ _ (.refl R) (.tup h2 r2)
          · subst z
            cases r2
            rw [List.append_nil] at k
            exact k _ _ _ (.refl R) (.tup h1 r1)
          · obtain ⟨g', st, r⟩ := fresh_tup R hp (r1.append r2)
            exact k _ _ _ st r
    · cases e
  · cases e
theorem d_add {a b : Expr} {ma mb : ME} {pos : Pos} (ha : PE X a (trE X.K ma)) (hb : PE X b (trE X.K mb)) : PE X (.BinOp a .Add b pos) (trE X.K (mOp addD ma mb)) := PE.imp (pe_op op_addZ ha hb) fun _ _ _ => trE_op add_ok
theorem int_ok {C : Int → Int → Prop} {f : Int → Int → V} {f' : D → D → Option D} (h : ∀ a b d, f' a b = some d → ∃ i j d', a = .int i ∧ b = .int j ∧ C i j ∧ d = d' ∧ ∀ g, Rep K g (f i j) d') : OpOk K (rI C f) f' := by
  intro g H s x y a b d Q R ra rb e k
  obtain ⟨i, j, d', rfl, rfl, hc, rfl, r⟩ := h a b d e
  cases ra; cases rb
  exact ⟨_, _, rfl, rfl, hc, k _ _ _ (.refl R) (r g)⟩
def subD : D → D → Option D
  | .int i, .int j => some (.int (i - j))
  | _, _ => none
def mulD : D → D → Option D
  | .int i, .int j => if CMulZ i j then some (.int (i * j)) else none
  | _, _ => none
def fdivD : D → D → Option D
  | .int i, .int j => if 0 < j ∧ j.natAbs.log2 < 9000 then some (.int (i / j)) else none
  | _, _ => none
def modD : D → D → Option D
  | .int i, .int j => if 0 < j then some (.int (i % j)) else none
  | _, _ => none
def powD : D → D → Option D
  | .int i, .int j => if 0 ≤ j ∧ j ≤ 1000000 ∧ i.natAbs < 2 ^ 64 then some (.int (i ^ j.toNat)) else none
  | _, _ => none
theorem d_sub {a b : Expr} {ma mb : ME} {pos : Pos} (ha : PE X a (trE X.K ma)) (hb : PE X b (trE X.K mb)) : PE X (.BinOp a .Sub b pos) (trE X.K (mOp subD ma mb)) := PE.imp (pe_op op_sub ha hb) fun _ _ _ => trE_op (by
  intro g H s x y a b d Q R ra rb e k
  unfold subD at e
  split at e
  · cases e; cases ra; cases rb
    exact ⟨_, _, rfl, rfl, k _ _ _ (.refl R) (.int _)⟩
  · cases e)
theorem d_mul {a b : Expr} {ma mb : ME} {pos : Pos} (ha : PE X a (trE X.K ma)) (hb : PE X b (trE X.K mb)) : PE X (.BinOp a .Mult b pos) (trE X.K (mOp mulD ma mb)) := PE.imp (pe_op op_mulZ ha hb) fun _ _ _ => trE_op (by
  intro g H s x y a b d Q R ra rb e k
  unfold mulD at e
  split at e
  · split at e
    · cases e; cases ra; cases rb
      exact ⟨_, _, rfl, rfl, by assumption, k _ _ _ (.refl R) (.int _)⟩
    · cases e
  · cases e)
theorem d_fdiv {a b : Expr} {ma mb : ME} {pos : Pos} (ha : PE X a (trE X.K ma)) (hb : PE X b (trE X.K mb)) : PE X (.BinOp a .FloorDiv b pos) (trE X.K (mOp fdivD ma mb)) := PE.imp (pe_op op_fdivW ha hb) fun _ _ _ => trE_op (by
  intro g H s x y a b d Q R ra rb e k
  unfold fdivD at e
  split at e
  · split at e
    · cases e; cases ra; cases rb
      exact ⟨_, _, rfl, rfl, by assumption, k _ _ _ (.refl R) (.int _)⟩
    · cases e
  · cases e)
theorem d_mod {a b : Expr} {ma mb : ME} {pos : Pos} (ha : PE X a (trE X.K ma)) (hb : PE X b (trE X.K mb)) : PE X (.BinOp a .Mod b pos) (trE X.K (mOp modD ma mb)) := PE.imp (pe_op op_mod ha hb) fun _ _ _ => trE_op (by
  intro g H s x y a b d Q R ra rb e k
  unfold modD at e
  split at e
  · split at e
    · cases e; cases ra; cases rb
      exact ⟨_, _, rfl, rfl, by assumption, k _ _ _ (.refl R) (.int _)⟩
    · cases e
  · cases e)
theorem d_pow {a b : Expr} {ma mb : ME} {pos : Pos} (ha : PE X a (trE X.K ma)) (hb : PE X b (trE X.K mb)) : PE X (.BinOp a .Pow b pos) (trE X.K (mOp powD ma mb)) := PE.imp (pe_op op_pow ha hb) fun _ _ _ => trE_op (by
  intro g H s x y a b d Q R ra rb e k
  unfold powD at e
  split at e
  · split at e
    · cases e; cases ra; cases rb
      exact ⟨_, _, rfl, rfl, by assumption, k _ _ _ (.refl R) (.int _)⟩
    · cases e
  · cases e)
def negD : D → Option D
  | .int i => some (.int (-i))
  | _ => none
theorem d_neg {a : Expr} {ma : ME} {pos : Pos} (ha : PE X a (trE X.K ma)) : PE X (.UnaryOp .USub a pos) (trE X.K (mUn negD ma)) := PE.imp (pe_un un_neg ha) fun _ _ _ => trE_un (by
  intro g H s x a d Q R ra e k
  unfold negD at e
  split at e
  · cases e; cases ra
    exact ⟨_, rfl, k _ _ _ (.refl R) (.int _)⟩
  · cases e)
/-- xs * n, n below 2 ^ 24 -/
def repD : D → D → Option D
  | .lst a, .int n => if 0 ≤ n ∧ n ≤ 1000 ∧ a.length ≤ 1000 then some (.lst (List.replicate n.toNat a).flatten) else none
  | _, _ => none
def rRepZ : R2 := fun x y H Q => ∃ l k xs, x = .ref l ∧ y = .int k ∧ Rd H l (.lst xs) ∧ 0 ≤ k ∧ k ≤ 1000 ∧ xs.length ≤ 1000 ∧ ∀ p, H p = none → Q (.ref p) (upd H p (.lst (List.replicate k.toNat xs).flatten))
end
end Z

set_option Elab.async false
set_option linter.all false
set_option maxRecDepth 100000
set_option maxHeartbeats 4000000
namespace Z
open PySem PySem.Spec PyProof.Rows L2
/-! ### data -/
mutual
def toP : D → Option PyData
  | .non => some .none
  | .bl b => some (.bool b)
  | .int i => some (.int i)
  | .str x => some (.str x)
  | .tup ds => (toPL ds).map .tuple
  | .lst ds => (toPL ds).map .list
  | _ => none
def toPL : List D → Option (List PyData)
  | [] => some []
  | d :: ds => match toP d with
    | some p => (toPL ds).map (p :: ·)
    | none => none
end
section
variable {X : Cx} {K : PySem.W.Frag} {g : G} {H : Hp} {s : S}
mutual
theorem dp_of (R : SRel K g H s) : ∀ {v : V} {d : D} {p : PyData}, Rep K g v d → toP d = some p → Dp K H v p
  | _, _, _, .non, e => by simp only [toP] at e; cases e; exact .non
  | _, _, _, .bl b, e => by simp only [toP] at e; cases e; exact .bl b
  | _, _, _, .int b, e => by simp only [toP] at e; cases e; exact .int b
  | _, _, _, .str b, e => by simp only [toP] at e; cases e; exact .str b
  | _, _, _, .tup h r, e => by
    simp only [toP] at e
    obtain ⟨q, h1, rfl⟩ := Option.map_eq_some_iff.mp e
    exact .tup (sqT_H R h) (dpL_of R r h1)
  | _, _, _, .lst h r, e => by
    simp only [toP] at e
    obtain ⟨q, h1, rfl⟩ := Option.map_eq_some_iff.mp e
    exact .lst (.inl (rd_H R h)) (dpL_of R r h1)
  | _, _, _, .dic _ _, e => by simp only [toP] at e; cases e
  | _, _, _, .obj _ _, e => by simp only [toP] at e; cases e
  | _, _, _, .cel _, e => by simp only [toP] at e; cases e
  | _, _, _, .opq _, e => by simp only [toP] at e; cases e
theorem dpL_of (R : SRel K g H s) : ∀ {v : List V} {d : List D} {p : List PyData}, RepL K g v d → toPL d = some p → DpAll K H v p
  | _, _, _, .nil, e => by simp only [toPL] at e; cases e; exact .nil
  | _, _, _, .cons h r, e => by
    simp only [toPL] at e
    split at e
    · rename_i p hp
      obtain ⟨q, h1, rfl⟩ := Option.map_eq_some_iff.mp e
      exact .cons (dp_of R h hp) (dpL_of R r h1)
    · cases e
end
/-! ### == -/
def toV0 : D → Option V
  | .non => some .non
  | .bl b => some (.bl b)
  | .int i => some (.int i)
  | .str x => some (.str x)
  | _ => none
theorem rep_V0 {v : V} {d : D} {x : V} (r : Rep K g v d) (h : toV0 d = some x) : v = x := by
  cases r <;> simp only [toV0] at h <;> cases h <;> rfl
def eqB (a b : D) : Option Bool := match toV0 a, toV0 b with
  | some x, some y => if scal x y = true then some (decide (x = y)) else none
  | _, _ => match toP a, toP b with
    | some p, some q => if SeqAt.shaped p = true ∧ SeqAt.shaped q = true then some (PyData.eqv p q) else none
    | _, _ => none
def eqD (a b : D) : Option D := (eqB a b).map .bl
def neD (a b : D) : Option D := (eqB a b).map fun k => .bl (!k)
abbrev rEqZ (K : PySem.W.Frag) : R2 := fun x y H Q => rEq x y H Q ∨ rEqD K x y H Q
abbrev rNeZ (K : PySem.W.Frag) : R2 := fun x y H Q => rNe x y H Q ∨ rNeD K x y H Q
theorem eq_ok : OpOk K (rEqZ K) eqD := by
  intro g H s x y a b d Q R ra rb e k
  unfold eqD at e
  obtain ⟨c, h, rfl⟩ := Option.map_eq_some_iff.mp e
  unfold eqB at h
  split at h
  · rename_i u w h1 h2
    split at h
    · cases h
      rw [rep_V0 ra h1, rep_V0 rb h2]
      exact .inl ⟨by assumption, k _ _ _ (.refl R) (.bl _)⟩
    · cases h
  · split at h
    · rename_i p q h1 h2
      split at h
      · rename_i hs
        cases h
        exact .inr ⟨p, q, dp_of R ra h1, dp_of R rb h2, hs.1, hs.2, k _ _ _ (.refl R) (.bl _)⟩
      · cases h
    · cases h
theorem ne_ok : OpOk K (rNeZ K) neD := by
  intro g H s x y a b d Q R ra rb e k
  unfold neD at e
  obtain ⟨c, h, rfl⟩ := Option.map_eq_some_iff.mp e
  unfold eqB at h
  split at h
  · rename_i u w h1 h2
    split at h
    · cases h
      rw [rep_V0 ra h1, rep_V0 rb h2]
      exact .inl ⟨by assumption, k _ _ _ (.refl R) (.bl _)⟩
    · cases h
  · split at h
    · rename_i p q h1 h2
      split at h
      · rename_i hs
        cases h
        exact .inr ⟨p, q, dp_of R ra h1, dp_of R rb h2, hs.1, hs.2, k _ _ _ (.refl R) (.bl _)⟩
      · cases h
    · cases h
variable {a b c : Expr} {ma mb mc : ME} {pos : Pos}
theorem d_eq (hu : X.A.units + 64 < cLine) (ha : PE X a (trE X.K ma)) (hb : PE X b (trE X.K mb)) : PE X (.Compare a [.Eq] [b] pos) (trE X.K (mOp eqD ma mb)) := PE.imp (pe_cmpR (OpR.or op_eq (op_eqD hu)) ha hb (nomark _)) fun _ _ _ => trE_op eq_ok
/-! ### order -/
def ltD : D → D → Option D
  | .int i, .int j => some (.bl (decide (i < j)))
  | .str x, .str y => some (.bl (decide (x.cps.toList < y.cps.toList)))
  | _, _ => none
def leD : D → D → Option D
  | .int i, .int j => some (.bl (decide (i ≤ j)))
  | .str x, .str y => some (.bl (!decide (y.cps.toList < x.cps.toList)))
  | _, _ => none
def gtD : D → D → Option D
  | .int i, .int j => some (.bl (decide (j < i)))
  | .str x, .str y => some (.bl (decide (y.cps.toList < x.cps.toList)))
  | _, _ => none
def geD : D → D → Option D
  | .int i, .int j => some (.bl (decide (j ≤ i)))
  | .str x, .str y => some (.bl (!decide (x.cps.toList < y.cps.toList)))
  | _, _ => none
abbrev rSS (f : Str → Str → Bool) : R2 := fun x y H Q => ∃ i j, x = .str i ∧ y = .str j ∧ Q (.bl (f i j)) H
theorem ord_ok {fi : Int → Int → Bool} {fs : Str → Str → Bool} {f : D → D → Option D} (h1 : ∀ i j, f (.int i) (.int j) = some (.bl (fi i j))) (h2 : ∀ i j, f (.str i) (.str j) = some (.bl (fs i j)))
    (h3 : ∀ a b d, f a b = some d → (∃ i j, a = .int i ∧ b = .int j) ∨ ∃ i j, a = .str i ∧ b = .str j) : OpOk K (fun x y H Q => rI0 (fun i j => .bl (fi i j)) x y H Q ∨ rSS fs x y H Q) f := by
  intro g H s x y a b d Q R ra rb e k
  rcases h3 a b d e with ⟨i, j, rfl, rfl⟩ | ⟨i, j, rfl, rfl⟩
  · rw [h1] at e; cases e; cases ra; cases rb
    exact .inl ⟨_, _, rfl, rfl, k _ _ _ (.refl R) (.bl _)⟩
  · rw [h2] at e; cases e; cases ra; cases rb
    exact .inr ⟨_, _, rfl, rfl, k _ _ _ (.refl R) (.bl _)⟩
theorem lt_ok : OpOk K (fun x y H Q => rI0 (fun i j => .bl (decide (i < j))) x y H Q ∨ rSS (fun x y => decide (x.cps.toList < y.cps.toList)) x y H Q) ltD := ord_ok (fun _ _ => rfl) (fun _ _ => rfl) fun a b d h => by
  unfold ltD at h; split at h <;> first | exact .inl ⟨_, _, rfl, rfl⟩ | exact .inr ⟨_, _, rfl, rfl⟩ | cases h
theorem le_ok : OpOk K (fun x y H Q => rI0 (fun i j => .bl (decide (i ≤ j))) x y H Q ∨ rSS (fun x y => !decide (y.cps.toList < x.cps.toList)) x y H Q) leD := ord_ok (fun _ _ => rfl) (fun _ _ => rfl) fun a b d h => by
  unfold leD at h; split at h <;> first | exact .inl ⟨_, _, rfl, rfl⟩ | exact .inr ⟨_, _, rfl, rfl⟩ | cases h
theorem gt_ok : OpOk K (fun x y H Q => rI0 (fun i j => .bl (decide (j < i))) x y H Q ∨ rSS (fun x y => decide (y.cps.toList < x.cps.toList)) x y H Q) gtD := ord_ok (fun _ _ => rfl) (fun _ _ => rfl) fun a b d h => by
  unfold gtD at h; split at h <;> first | exact .inl ⟨_, _, rfl, rfl⟩ | exact .inr ⟨_, _, rfl, rfl⟩ | cases h
theorem ge_ok : OpOk K (fun x y H Q => rI0 (fun i j => .bl (decide (j ≤ i))) x y H Q ∨ rSS (fun x y => !decide (x.cps.toList < y.cps.toList)) x y H Q) geD := ord_ok (fun _ _ => rfl) (fun _ _ => rfl) fun a b d h => by
  unfold geD at h; split at h <;> first | exact .inl ⟨_, _, rfl, rfl⟩ | exact .inr ⟨_, _, rfl, rfl⟩ | cases h
abbrev oLt : OpR X (compareOp .Lt) (fun x y H Q => rI0 (fun i j => .bl (decide (i < j))) x y H Q ∨ rSS (fun x y => decide (x.cps.toList < y.cps.toList)) x y H Q) := OpR.or op_lt op_lt_str
abbrev oLe : OpR X (compareOp .LtE) (fun x y H Q => rI0 (fun i j => .bl (decide (i ≤ j))) x y H Q ∨ rSS (fun x y => !decide (y.cps.toList < x.cps.toList)) x y H Q) := OpR.or op_le op_le_str
abbrev oGt : OpR X (compareOp .Gt) (fun x y H Q => rI0 (fun i j => .bl (decide (j < i))) x y H Q ∨ rSS (fun x y => decide (y.cps.toList < x.cps.toList)) x y H Q) := OpR.or op_gt op_gt_str
abbrev oGe : OpR X (compareOp .GtE) (fun x y H Q => rI0 (fun i j => .bl (decide (j ≤ i))) x y H Q ∨ rSS (fun x y => !decide (x.cps.toList < y.cps.toList)) x y H Q) := OpR.or op_ge op_ge_str
theorem d_lt (ha : PE X a (trE X.K ma)) (hb : PE X b (trE X.K mb)) : PE X (.Compare a [.Lt] [b] pos) (trE X.K (mOp ltD ma mb)) := PE.imp (pe_cmpR oLt ha hb (nomark _)) fun _ _ _ => trE_op lt_ok
/-- a op b op' c -/
def mChain (f f' : D → D → Option D) (ma mb mc : ME) : ME := fun e s => bnd (ma e s) fun a s => bnd (mb e s) fun b s => bnd (lft (f a b) s) fun k s => match k with
  | .bl true => bnd (mc e s) fun c s => lft (f' b c) s
  | .bl false => some (.bl false, s)
  | _ => none
theorem trE_chain {r r' : R2} {f f' : D → D → Option D} (h : OpOk K r f) (h' : OpOk K r' f') {σ : L2.St} {H : Hp} {Q : VK} (q : trE K (mChain f f' ma mb mc) σ H Q) : tChain r r' (trE K ma) (trE K mb) (trE K mc) σ H Q := by
  obtain ⟨g, e, s, d, s', R, E, hm, k⟩ := q
  obtain ⟨a, s1, h1, hm1⟩ := bnd_some hm
  obtain ⟨b, s2, h2, hm2⟩ := bnd_some hm1
  obtain ⟨z, s3, h3, hm3⟩ := bnd_some hm2
  obtain ⟨h4, h5⟩ := lft_some h3
  dsimp only at h4 h5
  subst h5
  refine ⟨g, e, s, a, s1, R, E, h1, fun x g1 H1 st1 ra => ⟨g1, e, s1, b, s3, st1.rel, E.step st1, h2, fun y g2 H2 st2 rb => ?_⟩⟩
  have rd := ra.mono st2.le
  refine h g2 H2 s3 x y a b z _ st2.rel rd rb h4 fun v g3 H3 st3 rz => ?_
  have st := (st1.trans st2).trans st3
  split at hm3
  · cases rz
    refine ⟨true, rfl, ?_⟩
    rw [if_pos rfl]
    obtain ⟨cc, s5, h6, hm4⟩ := bnd_some hm3
    obtain ⟨h7, h8⟩ := lft_some hm4
    dsimp only at h7 h8
    subst h8
    refine ⟨g3, e, s3, cc, s', st.rel, E.step st, h6, fun w g4 H4 st4 rc => ?_⟩
    exact h' g4 H4 s' y w b cc d Q st4.rel (rb.mono (st3.le.trans st4.le)) rc h7 fun v g5 H5 st5 rv => k v g5 H5 ((st.trans st4).trans st5) rv
  · cases rz
    cases hm3
    refine ⟨false, rfl, ?_⟩
    rw [if_neg Bool.false_ne_true]
    exact k _ _ _ st (.bl _)
  · cases hm3
theorem d_lele (ha : PE X a (trE X.K ma)) (hb : PE X b (trE X.K mb)) (hc : PE X c (trE X.K mc)) : PE X (.Compare a [.LtE, .LtE] [b, c] pos) (trE X.K (mChain leD leD ma mb mc)) := PE.imp (pe_chain oLe oLe ha hb hc (nomark c)) fun _ _ _ => trE_chain le_ok le_ok
/-! ### is None -/
def isND : D → Option D
  | .non => some (.bl true)
  | .opq _ => none
  | _ => some (.bl false)
def notND : D → Option D
  | .non => some (.bl false)
  | .opq _ => none
  | _ => some (.bl true)
end
end Z

set_option Elab.async false
set_option linter.all false
set_option maxRecDepth 100000
set_option maxHeartbeats 4000000
namespace Z
open PySem PySem.Spec PyProof.Rows L2
section
variable {X : Cx} {K : PySem.W.Frag} {g : G} {H : Hp} {s : S}
/-! ### dicts: looking -/
def keyD : D → Option Key
  | .int i => some (.inl i)
  | .str x => some (.inr x)
  | _ => none
theorem rep_key {v : V} {d : D} {k : Key} (r : Rep K g v d) (h : keyD d = some k) : v = kV k := by
  cases r <;> simp only [keyD] at h <;> cases h <;> rfl
def lookD (kvs : List (Key × D)) (k : Key) : Option D := (kvs.find? fun kv => decide (kv.1 = k)).map (·.2)
theorem repK_look {k : Key} : ∀ {vs : List (Key × V)} {ds : List (Key × D)}, RepK K g vs ds → (valV vs k = none ∧ lookD ds k = none) ∨ ∃ v d, valV vs k = some v ∧ lookD ds k = some d ∧ Rep K g v d
  | _, _, .nil => .inl ⟨rfl, rfl⟩
  | _, _, .cons (k := k') (v := v) (d := d) h r => by
    by_cases e : k' = k
    · exact .inr ⟨v, d, by simp [valV, e], by simp [lookD, e], h⟩
    · rcases repK_look (k := k) r with ⟨h1, h2⟩ | ⟨v, d, h1, h2, h3⟩
      · exact .inl ⟨by rw [← h1]; simp [valV, e], by rw [← h2]; simp [lookD, e]⟩
      · exact .inr ⟨v, d, by rw [← h1]; simp [valV, e], by rw [← h2]; simp [lookD, e], h3⟩
theorem rdK_H {a : Addr} {kvs : List (Key × V)} (R : SRel K g H s) (h : g.F a = some (.dK kvs)) : Rd H a (.dK kvs) := by
  rcases R.sub _ _ h with z | ⟨_, o, z⟩
  · exact .inl z
  · exact .inr ⟨o, z⟩
/-! ### in -/
def memS (w z : Str) : Bool := match w.cps.toList with
  | [c] => decide (c ∈ z.cps.toList)
  | _ => !(Builtin.Str.occurrences z w 0 z.length 1).isEmpty
def flats : List D → Option (List V)
  | [] => some []
  | d :: ds => match toV0 d with
    | some v => (flats ds).map (v :: ·)
    | none => none
def inB (x y : D) : Option Bool := match y with
  | .str z => match x with
    | .str w => some (memS w z)
    | _ => none
  | .lst ys => match toV0 x, flats ys with
    | some v, some vs => some (inV v vs)
    | _, _ => none
  | .tup ys => match toV0 x, flats ys with
    | some v, some vs => some (inV v vs)
    | _, _ => none
  | _ => none
def inD (x y : D) : Option D := (inB x y).map .bl
def notInD (x y : D) : Option D := (inB x y).map fun b => .bl (!b)
theorem flat_V0 {d : D} {v : V} (h : toV0 d = some v) : flatV v = true := by
  cases d <;> simp only [toV0] at h <;> cases h <;> rfl
theorem flats_of : ∀ {us : List V} {ds : List D} {vs : List V}, RepL K g us ds → flats ds = some vs → us = vs ∧ vs.all flatV = true
  | _, _, _, .nil, e => by simp only [flats] at e; cases e; exact ⟨rfl, rfl⟩
  | _, _, _, .cons h r, e => by
    simp only [flats] at e
    split at e
    · rename_i v hv
      obtain ⟨q, h1, rfl⟩ := Option.map_eq_some_iff.mp e
      obtain ⟨e1, e2⟩ := flats_of r h1
      rw [rep_V0 h hv, e1]
      exact ⟨rfl, by rw [List.all_cons, flat_V0 hv, e2]; rfl⟩
    · cases e
abbrev rInZ (K : PySem.W.Frag) : R2 := fun x y H Q => (∃ (c : Nat) (z : Str), x = .str ⟨#[c]⟩ ∧ y = .str z ∧ Q (.bl (decide (c ∈ z.cps.toList))) H) ∨ (∃ i j, x = .str i ∧ y = .str j ∧ Q (.bl (!(Builtin.Str.occurrences j i 0 j.length 1).isEmpty)) H) ∨ rIn K false x y H Q
abbrev rNotInZ (K : PySem.W.Frag) : R2 := fun x y H Q => (∃ (c : Nat) (z : Str), x = .str ⟨#[c]⟩ ∧ y = .str z ∧ Q (.bl (!decide (c ∈ z.cps.toList))) H) ∨ (∃ i j, x = .str i ∧ y = .str j ∧ Q (.bl (!(!(Builtin.Str.occurrences j i 0 j.length 1).isEmpty))) H) ∨ rIn K true x y H Q
theorem str_one {w : Str} {c : Nat} (h : w.cps.toList = [c]) : w = ⟨#[c]⟩ := by
  obtain ⟨⟨l⟩⟩ := w
  cases h
  rfl
theorem in_ok : OpOk K (rInZ K) inD := by
  intro g H s x y a b d Q R ra rb e k
  unfold inD at e
  obtain ⟨c, h, rfl⟩ := Option.map_eq_some_iff.mp e
  unfold inB at h
  split at h
  · split at h
    · cases h; cases ra; cases rb
      rename_i z _ w
      have hk := k _ _ _ (.refl R) (.bl (memS w z))
      unfold memS at hk
      split at hk
      · rename_i c hc
        exact .inl ⟨c, z, by rw [str_one hc], rfl, hk⟩
      · exact .inr (.inl ⟨_, _, rfl, rfl, hk⟩)
    · cases h
  · split at h
    · rename_i v vs h1 h2
      cases h
      cases rb with
      | lst hl rl =>
        obtain ⟨rfl, hf⟩ := flats_of rl h2
        rw [rep_V0 ra h1]
        exact .inr (.inr ⟨_, _, rfl, .inl (.inl (rd_H R hl)), flat_V0 h1, hf, k _ _ _ (.refl R) (.bl _)⟩)
    · cases h
  · split at h
    · rename_i v vs h1 h2
      cases h
      cases rb with
      | tup hl rl =>
        obtain ⟨rfl, hf⟩ := flats_of rl h2
        rw [rep_V0 ra h1]
        exact .inr (.inr ⟨_, _, rfl, .inr (sqT_H R hl), flat_V0 h1, hf, k _ _ _ (.refl R) (.bl _)⟩)
    · cases h
  · cases h
theorem notIn_ok : OpOk K (rNotInZ K) notInD := by
  intro g H s x y a b d Q R ra rb e k
  unfold notInD at e
  obtain ⟨c, h, rfl⟩ := Option.map_eq_some_iff.mp e
  unfold inB at h
  split at h
  · split at h
    · cases h; cases ra; cases rb
      rename_i z _ w
      have hk := k _ _ _ (.refl R) (.bl (!memS w z))
      unfold memS at hk
      split at hk
      · rename_i c hc
        exact .inl ⟨c, z, by rw [str_one hc], rfl, hk⟩
      · exact .inr (.inl ⟨_, _, rfl, rfl, hk⟩)
    · cases h
  · split at h
    · rename_i v vs h1 h2
      cases h
      cases rb with
      | lst hl rl =>
        obtain ⟨rfl, hf⟩ := flats_of rl h2
        rw [rep_V0 ra h1]
        exact .inr (.inr ⟨_, _, rfl, .inl (.inl (rd_H R hl)), flat_V0 h1, hf, k _ _ _ (.refl R) (.bl _)⟩)
    · cases h
  · split at h
    · rename_i v vs h1 h2
      cases h
      cases rb with
      | tup hl rl =>
        obtain ⟨rfl, hf⟩ := flats_of rl h2
        rw [rep_V0 ra h1]
        exact .inr (.inr ⟨_, _, rfl, .inr (sqT_H R hl), flat_V0 h1, hf, k _ _ _ (.refl R) (.bl _)⟩)
    · cases h
  · cases h
variable {a b c : Expr} {ma mb mc : ME} {pos : Pos}
theorem oIn : OpR X (compareOp .In) (rInZ X.K) := OpR.or op_in_sign (OpR.or op_in_str op_in_seq)
theorem oNotIn : OpR X (compareOp .NotIn) (rNotInZ X.K) := OpR.or op_notIn_sign (OpR.or op_notIn_str op_notIn_seq)
/-- k in d -/
def inDic (x y : D) : Option D := match y with
  | .dic kvs => (keyD x).map fun k => .bl (lookD kvs k).isSome
  | _ => none
def notInDic (x y : D) : Option D := match y with
  | .dic kvs => (keyD x).map fun k => .bl (!(lookD kvs k).isSome)
  | _ => none
theorem dget_of {x y : V} {kvs : List (Key × D)} {k : Key} {a : D} (R : SRel K g H s) (rx : Rep K g x (.dic kvs)) (ry : Rep K g y a) (hk : keyD a = some k) : ∃ p o, x = .ref p ∧ DGet H p y o ∧ (o = none ∧ lookD kvs k = none ∨ ∃ v d, o = some v ∧ lookD kvs k = some d ∧ Rep K g v d) := by
  cases rx with
  | dic h r =>
    refine ⟨_, _, rfl, .inl ⟨_, k, rdK_H R h, rep_key ry hk, rfl⟩, ?_⟩
    exact repK_look r
theorem inDic_ok : OpOk K (fun y x H Q => ∃ a o, x = .ref a ∧ DGet H a y o ∧ Q (.bl o.isSome) H) inDic := by
  intro g H s y x b a d Q R rb ra e k
  unfold inDic at e
  split at e
  · obtain ⟨kk, h, rfl⟩ := Option.map_eq_some_iff.mp e
    obtain ⟨p, o, rfl, hd, h2⟩ := dget_of R ra rb h
    refine ⟨p, o, rfl, hd, ?_⟩
    rcases h2 with ⟨rfl, h3⟩ | ⟨v, d, rfl, h3, _⟩ <;> (rw [h3] at k; exact k _ _ _ (.refl R) (.bl _))
  · cases e
theorem d_inDic (hu : X.A.units + 64 < cLine) (ha : PE X a (trE X.K ma)) (hb : PE X b (trE X.K mb)) (hm : behindInMarks .In b = false := by rfl) : PE X (.Compare a [.In] [b] pos) (trE X.K (mOp inDic ma mb)) := PE.imp (pe_cmp (pc_din (by omega) ha hb) hm) fun _ _ _ => trE_op inDic_ok
/-- either of two readings -/
def orM (m m' : ME) : ME := fun e s => match m e s with
  | some r => some r
  | none => m' e s
/-! ### truth, logic -/
def truD : D → Option Bool
  | .non => some false
  | .bl b => some b
  | .int i => some (i != 0)
  | .str y => if y.length ≤ sizeLine then some ((y.length : Int) != 0) else none
  | .lst ds => some (!ds.isEmpty)
  | .tup ds => some (!ds.isEmpty)
  | _ => none
theorem isEmpty_rep : ∀ {vs : List V} {ds : List D}, RepL K g vs ds → vs.isEmpty = ds.isEmpty
  | _, _, .nil => rfl
  | _, _, .cons _ _ => rfl
theorem tru_of {v : V} {d : D} {k : Bool} (R : SRel K g H s) (r : Rep K g v d) (h : truD d = some k) : TruV K v H k := by
  cases r with
  | non => simp only [truD] at h; cases h; rfl
  | bl b => simp only [truD] at h; cases h; rfl
  | int i => simp only [truD] at h; cases h; rfl
  | str y =>
    simp only [truD] at h
    split at h
    · cases h; exact ⟨by assumption, rfl⟩
    · cases h
  | lst hl r => simp only [truD] at h; cases h; exact .inl ⟨_, .inl (rd_H R hl), by rw [isEmpty_rep r]⟩
  | tup hl r => simp only [truD] at h; cases h; exact .inr (.inl ⟨_, sqT_H R hl, by rw [isEmpty_rep r]⟩)
  | _ => simp only [truD] at h <;> cases h
def mAnd (ma mb : ME) : ME := fun e s => bnd (ma e s) fun a s => bnd (lft (truD a) s) fun k s => match k with
  | true => mb e s
  | false => some (a, s)
def mOr (ma mb : ME) : ME := fun e s => bnd (ma e s) fun a s => bnd (lft (truD a) s) fun k s => match k with
  | true => some (a, s)
  | false => mb e s
def notD (a : D) : Option D := (truD a).map fun k => .bl (!k)
variable {rest : List Expr}
theorem d_and (ha : PE X a (trE X.K ma)) (hb : PE X (.BoolOp .And (b :: rest) pos) (trE X.K mb)) : PE X (.BoolOp .And (a :: b :: rest) pos) (trE X.K (mAnd ma mb)) := PE.imp (pe_andT ha hb) fun σ H Q ⟨g, e, s, d, s', R, E, hm, k⟩ => by
  obtain ⟨a, s1, h1, hm1⟩ := bnd_some hm
  obtain ⟨z, s2, h2, hm2⟩ := bnd_some hm1
  obtain ⟨h3, h4⟩ := lft_some h2
  dsimp only at h3 h4
  subst h4
  refine ⟨g, e, s, a, s2, R, E, h1, fun x g1 H1 st1 ra => ⟨z, tru_of st1.rel ra h3, ?_⟩⟩
  cases z with
  | true => exact ⟨g1, e, s2, d, s', st1.rel, E.step st1, hm2, fun v g2 H2 st2 rv => k v g2 H2 (st1.trans st2) rv⟩
  | false => cases hm2; exact k _ _ _ st1 ra
theorem d_one {op} (ha : PE X a (trE X.K ma)) : PE X (.BoolOp op [a] pos) (trE X.K ma) := pe_one ha
theorem d_not (ha : PE X a (trE X.K ma)) : PE X (.UnaryOp .Not a pos) (trE X.K (mUn notD ma)) := PE.imp (pe_notT ha) fun σ H Q ⟨g, e, s, d, s', R, E, hm, k⟩ => by
  obtain ⟨a, s1, h1, hm1⟩ := bnd_some hm
  obtain ⟨h3, h4⟩ := lft_some hm1
  dsimp only at h3 h4
  subst h4
  obtain ⟨z, h5, rfl⟩ := Option.map_eq_some_iff.mp h3
  exact ⟨g, e, s, a, s', R, E, h1, fun x g1 H1 st1 ra => ⟨z, tru_of st1.rel ra h5, k _ _ _ st1 (.bl _)⟩⟩
/-! ### tests -/
def mT (m : ME) : MT := fun e s => bnd (m e s) fun d s => lft (truD d) s
/-- a plain expression as a test -/
theorem t_of (ha : PE X a (trE X.K ma)) (he : ∀ whole, isTrue a X.env whole = (do let v ← whole; standAt a.pos; holding [v] (truthy v)) := by intro _; rfl) : PT X a (trT X.K (mT ma)) := PT.imp (pt_truth ha he) fun σ H Q ⟨g, e, s, b, s', R, E, hm, k⟩ => by
  obtain ⟨a, s1, h1, hm1⟩ := bnd_some hm
  obtain ⟨h3, h4⟩ := lft_some hm1
  dsimp only at h3 h4
  subst h4
  exact ⟨g, e, s, a, s', R, E, h1, fun x g1 H1 st1 ra => ⟨b, tru_of st1.rel ra h3, k _ _ st1⟩⟩
def Bly (f : D → D → Option D) : Prop := ∀ a b d, f a b = some d → ∃ k, d = .bl k
theorem trT_op {r : R2} {f : D → D → Option D} (h : OpOk K r f) (hb : Bly f) {σ : L2.St} {H : Hp} {Q : Bool → Hp → Prop} (q : trT K (mT (mOp f ma mb)) σ H Q) : tTest (tOp r (trE K ma) (trE K mb)) σ H Q := by
  obtain ⟨g, e, s, t, s', R, E, hm, k⟩ := q
  obtain ⟨d, s0, hm0, hmt⟩ := bnd_some hm
  obtain ⟨h6, h7⟩ := lft_some hmt
  dsimp only at h6 h7
  subst h7
  obtain ⟨a, s1, h1, hm1⟩ := bnd_some hm0
  obtain ⟨b, s2, h2, hm2⟩ := bnd_some hm1
  obtain ⟨h3, h4⟩ := lft_some hm2
  dsimp only at h3 h4
  subst h4
  obtain ⟨kk, rfl⟩ := hb _ _ _ h3
  cases h6
  refine ⟨g, e, s, a, s1, R, E, h1, fun x g1 H1 st1 ra => ⟨g1, e, s1, b, s', st1.rel, E.step st1, h2, fun y g2 H2 st2 rb => ?_⟩⟩
  refine h g2 H2 s' x y a b _ _ st2.rel (ra.mono st2.le) rb h3 fun v g3 H3 st3 rd => ?_
  cases rd
  exact ⟨_, rfl, k g3 H3 ((st1.trans st2).trans st3)⟩
theorem bly_eq : Bly eqD := fun a b d h => by unfold eqD at h; obtain ⟨c, _, rfl⟩ := Option.map_eq_some_iff.mp h; exact ⟨_, rfl⟩
theorem bly_ne : Bly neD := fun a b d h => by unfold neD at h; obtain ⟨c, _, rfl⟩ := Option.map_eq_some_iff.mp h; exact ⟨_, rfl⟩
theorem bly_lt : Bly ltD := fun a b d h => by unfold ltD at h; split at h <;> cases h <;> exact ⟨_, rfl⟩
theorem bly_le : Bly leD := fun a b d h => by unfold leD at h; split at h <;> cases h <;> exact ⟨_, rfl⟩
theorem bly_gt : Bly gtD := fun a b d h => by unfold gtD at h; split at h <;> cases h <;> exact ⟨_, rfl⟩
theorem bly_ge : Bly geD := fun a b d h => by unfold geD at h; split at h <;> cases h <;> exact ⟨_, rfl⟩
theorem t_eq (hu : X.A.units + 64 < cLine) (ha : PE X a (trE X.K ma)) (hb : PE X b (trE X.K mb)) : PT X (.Compare a [.Eq] [b] pos) (trT X.K (mT (mOp eqD ma mb))) := PT.imp (pt_cmpR (OpR.or op_eq (op_eqD hu)) ha hb (nomark _)) fun _ _ _ => trT_op eq_ok bly_eq
theorem t_ne (hu : X.A.units + 64 < cLine) (ha : PE X a (trE X.K ma)) (hb : PE X b (trE X.K mb)) : PT X (.Compare a [.NotEq] [b] pos) (trT X.K (mT (mOp neD ma mb))) := PT.imp (pt_cmpR (OpR.or op_ne (op_neD hu)) ha hb (nomark _)) fun _ _ _ => trT_op ne_ok bly_ne
theorem t_lt (ha : PE X a (trE X.K ma)) (hb : PE X b (trE X.K mb)) : PT X (.Compare a [.Lt] [b] pos) (trT X.K (mT (mOp ltD ma mb))) := PT.imp (pt_cmpR oLt ha hb (nomark _)) fun _ _ _ => trT_op lt_ok bly_lt
theorem t_gt (ha : PE X a (trE X.K ma)) (hb : PE X b (trE X.K mb)) : PT X (.Compare a [.Gt] [b] pos) (trT X.K (mT (mOp gtD ma mb))) := PT.imp (pt_cmpR oGt ha hb (nomark _)) fun _ _ _ => trT_op gt_ok bly_gt
theorem t_ge (ha : PE X a (trE X.K ma)) (hb : PE X b (trE X.K mb)) : PT X (.Compare a [.GtE] [b] pos) (trT X.K (mT (mOp geD ma mb))) := PT.imp (pt_cmpR oGe ha hb (nomark _)) fun _ _ _ => trT_op ge_ok bly_ge
/-- either of two readings, of tests -/
def orT (m m' : MT) : MT := fun e s => match m e s with
  | some r => some r
  | none => m' e s
variable {ta tb : MT}
def tAndZ (ta tb : MT) : MT := fun e s => bnd (ta e s) fun k s => match k with
  | true => tb e s
  | false => some (false, s)
def tOrZ (ta tb : MT) : MT := fun e s => bnd (ta e s) fun k s => match k with
  | true => some (true, s)
  | false => tb e s
def tNotZ (ta : MT) : MT := fun e s => bnd (ta e s) fun k s => some (!k, s)
theorem w_and1 (ha : PT X a (trT X.K ta)) : PW X (.BoolOp .And [a] pos) (trT X.K ta) := pw_and1 ha
theorem w_or1 (ha : PT X a (trT X.K ta)) : PW X (.BoolOp .Or [a] pos) (trT X.K ta) := pw_or1 ha
theorem w_and (ha : PT X a (trT X.K ta)) (hb : PW X (.BoolOp .And (b :: rest) pos) (trT X.K tb)) : PW X (.BoolOp .And (a :: b :: rest) pos) (trT X.K (tAndZ ta tb)) := PW.imp (pw_and ha hb) fun σ H Q ⟨g, e, s, t, s', R, E, hm, k⟩ => by
  obtain ⟨z, s1, h1, hm1⟩ := bnd_some hm
  refine ⟨g, e, s, z, s1, R, E, h1, fun g1 H1 st1 => ?_⟩
  cases z with
  | true => exact iteT ⟨g1, e, s1, t, s', st1.rel, E.step st1, hm1, fun g2 H2 st2 => k g2 H2 (st1.trans st2)⟩
  | false => cases hm1; exact iteF (k _ _ st1)
theorem w_or (ha : PT X a (trT X.K ta)) (hb : PW X (.BoolOp .Or (b :: rest) pos) (trT X.K tb)) : PW X (.BoolOp .Or (a :: b :: rest) pos) (trT X.K (tOrZ ta tb)) := PW.imp (pw_or ha hb) fun σ H Q ⟨g, e, s, t, s', R, E, hm, k⟩ => by
  obtain ⟨z, s1, h1, hm1⟩ := bnd_some hm
  refine ⟨g, e, s, z, s1, R, E, h1, fun g1 H1 st1 => ?_⟩
  cases z with
  | false => exact iteF ⟨g1, e, s1, t, s', st1.rel, E.step st1, hm1, fun g2 H2 st2 => k g2 H2 (st1.trans st2)⟩
  | true => cases hm1; exact iteT (k _ _ st1)
theorem t_bool {e : Expr} {m : MT} (h : PW X e (trT X.K m)) : PT X e (trT X.K m) := h.pt
theorem t_not (ha : PT X a (trT X.K ta)) : PT X (.UnaryOp .Not a pos) (trT X.K (tNotZ ta)) := PT.imp (pt_not ha) fun σ H Q ⟨g, e, s, t, s', R, E, hm, k⟩ => by
  obtain ⟨z, s1, h1, hm1⟩ := bnd_some hm
  cases hm1
  exact ⟨g, e, s, z, s', R, E, h1, fun g1 H1 st1 => k g1 H1 st1⟩
theorem trT_chain {r r' : R2} {f f' : D → D → Option D} (h : OpOk K r f) (h' : OpOk K r' f') (hb : Bly f') {σ : L2.St} {H : Hp} {Q : Bool → Hp → Prop} (q : trT K (mT (mChain f f' ma mb mc)) σ H Q) : tTest (tChain r r' (trE K ma) (trE K mb) (trE K mc)) σ H Q := by
  obtain ⟨g, e, s, t, s', R, E, hm, k⟩ := q
  obtain ⟨d, s0, hm0, hmt⟩ := bnd_some hm
  obtain ⟨h6, h7⟩ := lft_some hmt
  dsimp only at h6 h7
  subst h7
  have hd : ∃ kk, d = .bl kk := by
    obtain ⟨a, s1, h1, hm1⟩ := bnd_some hm0
    obtain ⟨b, s2, h2, hm2⟩ := bnd_some hm1
    obtain ⟨z, s3, h3, hm3⟩ := bnd_some hm2
    split at hm3
    · obtain ⟨c, s4, h8, hm4⟩ := bnd_some hm3
      obtain ⟨h9, h10⟩ := lft_some hm4
      exact hb _ _ _ h9
    · cases hm3; exact ⟨_, rfl⟩
    · cases hm3
  obtain ⟨kk, rfl⟩ := hd
  cases h6
  refine trE_chain h h' ⟨g, e, s, _, _, R, E, hm0, fun v g' H' st rv => ?_⟩
  cases rv
  exact ⟨_, rfl, k _ _ st⟩
theorem t_lele (ha : PE X a (trE X.K ma)) (hb : PE X b (trE X.K mb)) (hc : PE X c (trE X.K mc)) : PT X (.Compare a [.LtE, .LtE] [b, c] pos) (trT X.K (mT (mChain leD leD ma mb mc))) := PT.imp (pt_chain oLe oLe ha hb hc (nomark c)) fun _ _ _ => trT_chain le_ok le_ok bly_le
theorem t_lelt (ha : PE X a (trE X.K ma)) (hb : PE X b (trE X.K mb)) (hc : PE X c (trE X.K mc)) : PT X (.Compare a [.LtE, .Lt] [b, c] pos) (trT X.K (mT (mChain leD ltD ma mb mc))) := PT.imp (pt_chain oLe oLt ha hb hc (nomark c)) fun _ _ _ => trT_chain le_ok lt_ok bly_lt
/-! ### a if t else b -/
def mIf (t : MT) (ma mb : ME) : ME := fun e s => bnd (t e s) fun k s => match k with
  | true => ma e s
  | false => mb e s
theorem d_if (hc : PT X c (trT X.K ta)) (ha : PE X a (trE X.K ma)) (hb : PE X b (trE X.K mb)) : PE X (.IfExp c a b pos) (trE X.K (mIf ta ma mb)) := PE.imp (pe_ifExp hc ha hb) fun σ H Q ⟨g, e, s, d, s', R, E, hm, k⟩ => by
  obtain ⟨z, s1, h1, hm1⟩ := bnd_some hm
  refine ⟨g, e, s, z, s1, R, E, h1, fun g1 H1 st1 => ?_⟩
  cases z with
  | true => exact iteT ⟨g1, e, s1, d, s', st1.rel, E.step st1, hm1, fun v g2 H2 st2 rv => k v g2 H2 (st1.trans st2) rv⟩
  | false => exact iteF ⟨g1, e, s1, d, s', st1.rel, E.step st1, hm1, fun v g2 H2 st2 rv => k v g2 H2 (st1.trans st2) rv⟩
end
end Z

set_option Elab.async false
set_option linter.all false
set_option maxRecDepth 100000
set_option maxHeartbeats 4000000
namespace Z
open PySem PySem.Spec PyProof.Rows L2
section
variable {X : Cx} {K : PySem.W.Frag} {g : G} {H : Hp} {s : S}
variable {a b c : Expr} {es : List Expr} {me mb mc : ME} {ma : MA} {pos : Pos}
/-! ### argument lists, displays -/
def aNil : MA := fun _ s => some ([], s)
def aCons (m : ME) (ma : MA) : MA := fun e s => bnd (m e s) fun d s => bnd (ma e s) fun ds s => some (d :: ds, s)
def itemsD : D → Option (List D)
  | .lst ds => some ds
  | .tup ds => some ds
  | _ => none
def aStar (m : ME) (ma : MA) : MA := fun e s => bnd (m e s) fun d s => bnd (lft (itemsD d) s) fun xs s => bnd (ma e s) fun ds s => some (xs ++ ds, s)
theorem a_nil : PA X [] (trA X.K aNil) := PA.imp pa_nil fun σ H Q ⟨g, e, s, ds, s', R, E, hm, k⟩ => by
  cases hm
  exact k _ _ _ (.refl R) .nil
theorem a_cons (h : PE X a (trE X.K me)) (ha : PA X es (trA X.K ma)) (hs : starEach (a :: es) X.env = (false, eval a X.env) :: starEach es X.env := by rfl) : PA X (a :: es) (trA X.K (aCons me ma)) := PA.imp (pa_cons h ha hs) fun σ H Q ⟨g, e, s, ds, s', R, E, hm, k⟩ => by
  obtain ⟨d, s1, h1, hm1⟩ := bnd_some hm
  obtain ⟨xs, s2, h2, hm2⟩ := bnd_some hm1
  cases hm2
  exact ⟨g, e, s, d, s1, R, E, h1, fun x g1 H1 st1 rx => ⟨g1, e, s1, xs, _, st1.rel, E.step st1, h2, fun vs g2 H2 st2 rv => k _ g2 H2 (st1.trans st2) (.cons (rx.mono st2.le) rv)⟩⟩
theorem a_star {p : Pos} (h : PE X a (trE X.K me)) (ha : PA X es (trA X.K ma)) : PA X (.Starred a p :: es) (trA X.K (aStar me ma)) := PA.imp (StX.pa_star h ha) fun σ H Q ⟨g, e, s, ds, s', R, E, hm, k⟩ => by
  obtain ⟨d, s1, h1, hm1⟩ := bnd_some hm
  obtain ⟨xs, s2, h2, hm2⟩ := bnd_some hm1
  obtain ⟨ys, s3, h3, hm3⟩ := bnd_some hm2
  cases hm3
  obtain ⟨h4, h5⟩ := lft_some h2
  dsimp only at h4 h5
  subst h5
  refine ⟨g, e, s, d, _, R, E, h1, fun x g1 H1 st1 rx => ?_⟩
  have rest : ∀ vs, RepL X.K g1 vs xs → trA X.K ma σ H1 (fun zs H2 => Q (vs ++ zs) H2) := fun vs rvs => ⟨g1, e, _, ys, _, st1.rel, E.step st1, h3, fun zs g2 H2 st2 rz => k _ g2 H2 (st1.trans st2) ((rvs.mono st2.le).append rz)⟩
  unfold itemsD at h4
  split at h4
  · cases h4
    cases rx with
    | lst hl r => exact ⟨_, _, rfl, .inr (.inl (rd_H st1.rel hl)), rest _ r⟩
  · cases h4
    cases rx with
    | tup hl r => exact ⟨_, _, rfl, .inl (sqT_H st1.rel hl), rest _ r⟩
  · cases h4
def mTup (ma : MA) : ME := fun e s => bnd (ma e s) fun ds s => if ds.length ≤ sizeLine then some (.tup ds, s) else none
def mLst (ma : MA) : ME := fun e s => bnd (ma e s) fun ds s => if ds.length ≤ sizeLine then some (.lst ds, s) else none
theorem d_tup {x1} (h : PA X es (trA X.K ma)) : PE X (.Tuple es x1 pos) (trE X.K (mTup ma)) := PE.imp (pe_tup h) fun σ H Q ⟨g, e, s, d, s', R, E, hm, k⟩ => by
  obtain ⟨ds, s1, h1, hm1⟩ := bnd_some hm
  split at hm1
  · cases hm1
    refine ⟨g, e, s, ds, s', R, E, h1, fun vs g1 H1 st1 rv => ⟨by rw [rv.length]; assumption, fun p hp => ?_⟩⟩
    obtain ⟨g2, st, r⟩ := fresh_tup st1.rel hp rv
    exact k _ _ _ (st1.trans st) r
  · cases hm1
theorem f_lst (h : PA X es (trA X.K ma)) : PE X (.List es pos) (trF X.K (mLst ma)) := PE.imp (pe_lst h) fun σ H Q ⟨g, e, s, d, s', R, E, hm, k⟩ => by
  obtain ⟨ds, s1, h1, hm1⟩ := bnd_some hm
  split at hm1
  · cases hm1
    refine ⟨g, e, s, ds, s', R, E, h1, fun vs g1 H1 st1 rv => ⟨by rw [rv.length]; assumption, fun p hp => ?_⟩⟩
    obtain ⟨st, hf, hc, o⟩ := fresh_upd (u := .lst vs) (d := .lst ds) st1.rel hp fun g' L => ⟨vs, upd_same, rv.mono L⟩
    exact k p g1 _ (st1.trans st) (st1.noneOf hp) hf hc o
  · cases hm1
/-! ### items -/
def atD (xs : List D) (i : Int) : Option D := atI xs i
def idxD : D → D → Option D
  | .lst ds, .int i => atI ds i
  | .tup ds, .int i => atI ds i
  | .str z, .int i => if z.length ≤ sizeLine then (atI z.cps.toList i).map fun c => .str ⟨#[c]⟩ else none
  | _, _ => none
theorem repL_at {vs : List V} {ds : List D} {i : Int} {d : D} (r : RepL K g vs ds) (h : atI ds i = some d) : ∃ v, atI vs i = some v ∧ Rep K g v d := by
  unfold atI at h ⊢
  rw [r.length]
  obtain ⟨j, h1, h2⟩ := Option.bind_eq_some_iff.mp h
  obtain ⟨v, h3, h4⟩ := r.get h2
  exact ⟨v, by rw [h1]; exact h3, h4⟩
theorem idx_ok : OpOk K (rIx K) idxD := by
  intro g H s x y a b d Q R ra rb e k
  unfold idxD at e
  split at e
  · cases rb
    cases ra with
    | lst hl r =>
      obtain ⟨v, h1, h2⟩ := repL_at r e
      exact .inl ⟨_, _, _, _, rfl, rfl, .inl (rd_H R hl), h1, k _ _ _ (.refl R) h2⟩
  · cases rb
    cases ra with
    | tup hl r =>
      obtain ⟨v, h1, h2⟩ := repL_at r e
      exact .inr (.inl ⟨_, _, _, _, rfl, rfl, sqT_H R hl, h1, k _ _ _ (.refl R) h2⟩)
  · split at e
    · cases rb; cases ra
      obtain ⟨c, h1, rfl⟩ := Option.map_eq_some_iff.mp e
      exact .inr (.inr ⟨_, _, _, rfl, rfl, by assumption, h1, k _ _ _ (.refl R) (.str _)⟩)
    · cases e
  · cases e
theorem d_idx (ha : PE X a (trE X.K me)) (hb : PE X b (trE X.K mb)) (hs : PlainIx b := by exact fun _ _ => rfl) : PE X (.Subscript a b pos) (trE X.K (mOp idxD me mb)) := PE.imp (pe_ix ix_seq ha hb hs) fun _ _ _ => trE_op idx_ok
def idxDic : D → D → Option D
  | .dic kvs, y => (keyD y).bind fun k => lookD kvs k
  | _, _ => none
/-! ### slices -/
def cutL {α : Type} (xs : List α) (lo hi : Option Int) : List α := (xs.drop (HT.sIx xs.length 0 lo)).take (HT.sIx xs.length xs.length hi - HT.sIx xs.length 0 lo)
theorem repL_cut {vs : List V} {ds : List D} (r : RepL K g vs ds) (lo hi : Option Int) : RepL K g (cutV vs lo hi) (cutL ds lo hi) := by
  unfold cutV cutL
  rw [r.length]
  exact (r.drop _).take _
abbrev MO := EnvD → S → Option (Option Int × S)
def oNone : MO := fun _ s => some (none, s)
def oSome (m : ME) : MO := fun e s => bnd (m e s) fun d s => match d with
  | .int i => some (some i, s)
  | _ => none
def trO (K : PySem.W.Frag) (m : MO) : TO := fun σ H Q => ∃ g e s d s', SRel K g H s ∧ EnvRel K g H σ e ∧ m e s = some (d, s') ∧ ∀ g' H', Step K g H g' H' s' → Q d H'
theorem PO.imp {X : Cx} {e : Option Expr} {t t' : TO} (h : PO X e t) (i : ∀ σ H Q, t' σ H Q → t σ H Q) : PO X e t' := ⟨fun pins s σ H Q I q => h.run pins s σ H Q I (i _ _ _ q)⟩
theorem o_none : PO X none (trO X.K oNone) := PO.imp po_none fun σ H Q ⟨g, e, s, d, s', R, E, hm, k⟩ => by
  cases hm
  exact k _ _ (.refl R)
theorem o_some (h : PE X a (trE X.K me)) : PO X (some a) (trO X.K (oSome me)) := PO.imp (po_some h) fun σ H Q ⟨g, e, s, d, s', R, E, hm, k⟩ => by
  obtain ⟨x, s1, h1, hm1⟩ := bnd_some hm
  split at hm1
  · cases hm1
    exact ⟨g, e, s, _, s', R, E, h1, fun x g1 H1 st1 rx => by cases rx; exact ⟨_, rfl, k _ _ st1⟩⟩
  · cases hm1
def mSl (f : D → Option Int → Option Int → Option D) (m : ME) (ml mh : MO) : ME := fun e s => bnd (m e s) fun d s => bnd (ml e s) fun lo s => bnd (mh e s) fun hi s => lft (f d lo hi) s
def slD : D → Option Int → Option Int → Option D
  | .tup ds, lo, hi => some (.tup (cutL ds lo hi))
  | .str z, lo, hi => if z.length ≤ sizeLine then some (.str (cutS z lo hi)) else none
  | _, _, _ => none
def slL : D → Option Int → Option Int → Option D
  | .lst ds, lo, hi => some (.lst (cutL ds lo hi))
  | _, _, _ => none
variable {lo hi : Option Expr} {ml mh : MO} {p2 : Pos}
theorem cutL_all {xs : List V} {lo hi : Option Int} (h : HT.sIx xs.length 0 lo = 0 ∧ HT.sIx xs.length xs.length hi = xs.length) : cutV xs lo hi = xs := by
  unfold cutV
  rw [h.1, h.2]
  simp
theorem d_sl (h : PE X a (trE X.K me)) (hl : PO X lo (trO X.K ml)) (hh : PO X hi (trO X.K mh)) : PE X (.Subscript a (.Slice lo hi none p2) pos) (trE X.K (mSl slD me ml mh)) := PE.imp (pe_slice (SlR.or sl_tupA sl_str) h hl hh) fun σ H Q ⟨g, e, s, d, s', R, E, hm, k⟩ => by
  obtain ⟨x, s1, h1, hm1⟩ := bnd_some hm
  obtain ⟨l, s2, h2, hm2⟩ := bnd_some hm1
  obtain ⟨u, s3, h3, hm3⟩ := bnd_some hm2
  obtain ⟨h4, h5⟩ := lft_some hm3
  dsimp only at h4 h5
  subst h5
  refine ⟨g, e, s, x, s1, R, E, h1, fun v g1 H1 st1 rv => ⟨g1, e, s1, l, s2, st1.rel, E.step st1, h2, fun g2 H2 st2 => ⟨g2, e, s2, u, s', st2.rel, (E.step st1).step st2, h3, fun g3 H3 st3 => ?_⟩⟩⟩
  have st := (st1.trans st2).trans st3
  have rv3 := rv.mono (st2.le.trans st3.le)
  unfold slD at h4
  split at h4
  · cases h4
    cases rv3 with
    | tup hl r =>
      refine .inl ⟨_, _, rfl, sqT_H st.rel hl, fun hw => ?_, fun hw p hp => ?_⟩
      · have q := repL_cut r l u
        rw [cutL_all hw] at q
        exact k _ _ _ st (.tup hl q)
      · obtain ⟨g4, st4, r4⟩ := fresh_tup st.rel hp (repL_cut r l u)
        exact k _ _ _ (st.trans st4) r4
  · split at h4
    · cases h4
      cases rv3
      exact .inr ⟨_, rfl, by assumption, k _ _ _ st (.str _)⟩
    · cases h4
  · cases h4
theorem f_sl (h : PE X a (trE X.K me)) (hl : PO X lo (trO X.K ml)) (hh : PO X hi (trO X.K mh)) : PE X (.Subscript a (.Slice lo hi none p2) pos) (trF X.K (mSl slL me ml mh)) := PE.imp (pe_slice sl_list h hl hh) fun σ H Q ⟨g, e, s, d, s', R, E, hm, k⟩ => by
  obtain ⟨x, s1, h1, hm1⟩ := bnd_some hm
  obtain ⟨l, s2, h2, hm2⟩ := bnd_some hm1
  obtain ⟨u, s3, h3, hm3⟩ := bnd_some hm2
  obtain ⟨h4, h5⟩ := lft_some hm3
  dsimp only at h4 h5
  subst h5
  refine ⟨g, e, s, x, s1, R, E, h1, fun v g1 H1 st1 rv => ⟨g1, e, s1, l, s2, st1.rel, E.step st1, h2, fun g2 H2 st2 => ⟨g2, e, s2, u, s', st2.rel, (E.step st1).step st2, h3, fun g3 H3 st3 => ?_⟩⟩⟩
  have st := (st1.trans st2).trans st3
  have rv3 := rv.mono (st2.le.trans st3.le)
  unfold slL at h4
  split at h4
  · cases h4
    cases rv3 with
    | lst hl r =>
      refine ⟨_, _, rfl, .inl (rd_H st.rel hl), fun p hp => ?_⟩
      obtain ⟨st4, hf, hc, o⟩ := fresh_upd (u := .lst (cutV _ l u)) (d := .lst (cutL _ l u)) st.rel hp fun g' L => ⟨_, upd_same, (repL_cut r l u).mono L⟩
      exact k p g3 _ (st.trans st4) (st.noneOf hp) hf hc o
  · cases h4
/-! ### built-ins by their values -/
def CallOk (K : PySem.W.Frag) (r : List V → Hp → VK → Prop) (f : List D → Option D) : Prop := ∀ (g : G) (H : Hp) (s : S) (xs : List V) (ds : List D) (d : D) (Q : VK), SRel K g H s → RepL K g xs ds → f ds = some d →
  (∀ v g' H', Step K g H g' H' s → Rep K g' v d → Q v H') → r xs H Q
def CallOkF (K : PySem.W.Frag) (r : List V → Hp → VK → Prop) (f : List D → Option D) : Prop := ∀ (g : G) (H : Hp) (s : S) (xs : List V) (ds : List D) (d : D) (Q : VK), SRel K g H s → RepL K g xs ds → f ds = some d →
  (∀ p g' H', Step K g H g' H' s → H p = none → g'.F p = none → p ∉ g'.ad → OwnAt K g' H' p d → Q (.ref p) H') → r xs H Q
def mCall (f : List D → Option D) (ma : MA) : ME := fun e s => bnd (ma e s) fun ds s => lft (f ds) s
theorem trE_call {r : List V → Hp → VK → Prop} {f : List D → Option D} (h : CallOk K r f) {σ : L2.St} {H : Hp} {Q : VK} (q : trE K (mCall f ma) σ H Q) : tCB r (trA K ma) σ H Q := by
  obtain ⟨g, e, s, d, s', R, E, hm, k⟩ := q
  obtain ⟨ds, s1, h1, hm1⟩ := bnd_some hm
  obtain ⟨h4, h5⟩ := lft_some hm1
  dsimp only at h4 h5
  subst h5
  exact ⟨g, e, s, ds, s', R, E, h1, fun vs g1 H1 st1 rv => h g1 H1 s' vs ds d Q st1.rel rv h4 fun v g2 H2 st2 rd => k v g2 H2 (st1.trans st2) rd⟩
theorem trF_call {r : List V → Hp → VK → Prop} {f : List D → Option D} (h : CallOkF K r f) {σ : L2.St} {H : Hp} {Q : VK} (q : trF K (mCall f ma) σ H Q) : tCB r (trA K ma) σ H Q := by
  obtain ⟨g, e, s, d, s', R, E, hm, k⟩ := q
  obtain ⟨ds, s1, h1, hm1⟩ := bnd_some hm
  obtain ⟨h4, h5⟩ := lft_some hm1
  dsimp only at h4 h5
  subst h5
  exact ⟨g, e, s, ds, s', R, E, h1, fun vs g1 H1 st1 rv => h g1 H1 s' vs ds d Q st1.rel rv h4 fun p g2 H2 st2 hn hf hc o => k p g2 H2 (st1.trans st2) (st1.noneOf hn) hf hc o⟩
variable {x : Str} {p : Pos}
theorem d_callB {id : String} {r : List V → Hp → VK → Prop} {f : List D → Option D} (hc : CallR X (.builtin id) r) (ho : CallOk X.K r f) (hv : bootBuiltins x = some (.builtin id)) (hg : Gl X x) (hm : X.mg x = none) (ha : PA X (a :: es) (trA X.K ma)) (hn : x ≠ "__name__" := by decide +kernel) (hdb : (x == ("__debug__" : Str)) = false := by decide +kernel)
    (he : starEach (a :: es) X.env = (false, eval a X.env) :: starEach es X.env := by rfl) (hpl : (backTo pos (starEach es X.env)).any (·.1) = false := by rfl) : PE X (.Call (.Name x p) (a :: es) [] pos) (trE X.K (mCall f ma)) :=
  PE.imp (pe_callB hc hg hm hv ha hn hdb he hpl) fun _ _ _ => trE_call ho
theorem d_callT {T : String} {r : List V → Hp → VK → Prop} {f : List D → Option D} (hc : CallR X (.type T) r) (ho : CallOk X.K r f) (hv : bootBuiltins x = some (.type T)) (hg : Gl X x) (hm : X.mg x = none) (ha : PA X (a :: es) (trA X.K ma)) (hn : x ≠ "__name__" := by decide +kernel) (hdb : (x == ("__debug__" : Str)) = false := by decide +kernel)
    (he : starEach (a :: es) X.env = (false, eval a X.env) :: starEach es X.env := by rfl) (hpl : (backTo pos (starEach es X.env)).any (·.1) = false := by rfl) : PE X (.Call (.Name x p) (a :: es) [] pos) (trE X.K (mCall f ma)) :=
  PE.imp (pe_callTy hc hg hm hv ha hn hdb he hpl) fun _ _ _ => trE_call ho
theorem f_callT {T : String} {r : List V → Hp → VK → Prop} {f : List D → Option D} (hc : CallR X (.type T) r) (ho : CallOkF X.K r f) (hv : bootBuiltins x = some (.type T)) (hg : Gl X x) (hm : X.mg x = none) (ha : PA X (a :: es) (trA X.K ma)) (hn : x ≠ "__name__" := by decide +kernel) (hdb : (x == ("__debug__" : Str)) = false := by decide +kernel)
    (he : starEach (a :: es) X.env = (false, eval a X.env) :: starEach es X.env := by rfl) (hpl : (backTo pos (starEach es X.env)).any (·.1) = false := by rfl) : PE X (.Call (.Name x p) (a :: es) [] pos) (trF X.K (mCall f ma)) :=
  PE.imp (pe_callTy hc hg hm hv ha hn hdb he hpl) fun _ _ _ => trF_call ho
/-- len -/
def lenD : List D → Option D
  | [.str y] => if y.length ≤ sizeLine then some (.int y.length) else none
  | [.lst ds] => some (.int ds.length)
  | [.tup ds] => some (.int ds.length)
  | _ => none
theorem len_ok : CallOk K (fun xs H Q => ∃ x n, xs = [x] ∧ LenV K x H n ∧ Q (.int n) H) lenD := by
  intro g H s xs ds d Q R r e k
  unfold lenD at e
  split at e
  · split at e
    · cases e
      cases r with
      | cons r1 r2 => cases r2; cases r1; exact ⟨_, _, rfl, ⟨by assumption, rfl⟩, k _ _ _ (.refl R) (.int _)⟩
    · cases e
  · cases e
    cases r with
    | cons r1 r2 =>
      cases r2
      cases r1 with
      | lst hl rl => exact ⟨_, _, rfl, .inl ⟨_, .inl (rd_H R hl), rfl⟩, by rw [rl.length]; exact k _ _ _ (.refl R) (.int _)⟩
  · cases e
    cases r with
    | cons r1 r2 =>
      cases r2
      cases r1 with
      | tup hl rl => exact ⟨_, _, rfl, .inr ⟨_, sqT_H R hl, rfl⟩, by rw [rl.length]; exact k _ _ _ (.refl R) (.int _)⟩
  · cases e
def boolsD : List D → Option (List Bool)
  | [] => some []
  | .bl b :: ds => (boolsD ds).map (b :: ·)
  | _ => none
theorem bools_of : ∀ {vs : List V} {ds : List D} {bs : List Bool}, RepL K g vs ds → boolsD ds = some bs → vs = bs.map V.bl
  | _, _, _, .nil, e => by simp only [boolsD] at e; cases e; rfl
  | _, _, _, .cons (d := d) h r, e => by
    cases d <;> simp only [boolsD] at e <;> first | (cases e; done) | skip
    obtain ⟨q, h1, rfl⟩ := Option.map_eq_some_iff.mp e
    cases h
    rw [bools_of r h1]
    rfl
def intsD : List D → Option (List Int)
  | [] => some []
  | .int b :: ds => (intsD ds).map (b :: ·)
  | _ => none
def strsD : List D → Option (List Str)
  | [] => some []
  | .str b :: ds => (strsD ds).map (b :: ·)
  | _ => none
theorem repL_one {vs : List V} {d : D} (r : RepL K g vs [d]) : ∃ v, vs = [v] ∧ Rep K g v d := by
  cases r with
  | cons r1 r2 => cases r2; exact ⟨_, rfl, r1⟩
theorem repL_two {vs : List V} {d e : D} (r : RepL K g vs [d, e]) : ∃ v w, vs = [v, w] ∧ Rep K g v d ∧ Rep K g w e := by
  cases r with
  | cons r1 r2 =>
    cases r2 with
    | cons r3 r4 => cases r4; exact ⟨_, _, rfl, r1, r3⟩
def allD : List D → Option D
  | [.lst ds] => (boolsD ds).map fun bs => .bl (bs.all id)
  | _ => none
def anyD : List D → Option D
  | [.lst ds] => (boolsD ds).map fun bs => .bl (bs.any id)
  | _ => none
def sumD : List D → Option D
  | [.lst ds] => (intsD ds).map fun bs => .int bs.sum
  | _ => none
theorem all_ok : CallOk K (rAll K) allD := by
  intro g H s xs ds d Q R r e k
  unfold allD at e
  split at e
  · obtain ⟨bs, h1, rfl⟩ := Option.map_eq_some_iff.mp e
    obtain ⟨v, rfl, rv⟩ := repL_one r
    cases rv with
    | lst hl rl => exact ⟨_, bs, rfl, by rw [← bools_of rl h1]; exact .inl (rd_H R hl), k _ _ _ (.refl R) (.bl _)⟩
  · cases e
theorem any_ok : CallOk K (rAny K) anyD := by
  intro g H s xs ds d Q R r e k
  unfold anyD at e
  split at e
  · obtain ⟨bs, h1, rfl⟩ := Option.map_eq_some_iff.mp e
    obtain ⟨v, rfl, rv⟩ := repL_one r
    cases rv with
    | lst hl rl => exact ⟨_, bs, rfl, by rw [← bools_of rl h1]; exact .inl (rd_H R hl), k _ _ _ (.refl R) (.bl _)⟩
  · cases e
/-- max, min of two ints; abs -/
def max2D : List D → Option D
  | [.int i, .int j] => some (.int (if j > i then j else i))
  | _ => none
def min2D : List D → Option D
  | [.int i, .int j] => some (.int (if j < i then j else i))
  | _ => none
def absD : List D → Option D
  | [.int i] => some (.int (if i < 0 then -i else i))
  | _ => none
theorem max2_ok : CallOk K (fun xs H Q => ∃ i j, xs = [.int i, .int j] ∧ Q (.int (if j > i then j else i)) H) max2D := by
  intro g H s xs ds d Q R r e k
  unfold max2D at e
  split at e
  · cases e
    obtain ⟨v, w, rfl, r1, r2⟩ := repL_two r
    cases r1; cases r2
    exact ⟨_, _, rfl, k _ _ _ (.refl R) (.int _)⟩
  · cases e
theorem min2_ok : CallOk K (fun xs H Q => ∃ i j, xs = [.int i, .int j] ∧ Q (.int (if j < i then j else i)) H) min2D := by
  intro g H s xs ds d Q R r e k
  unfold min2D at e
  split at e
  · cases e
    obtain ⟨v, w, rfl, r1, r2⟩ := repL_two r
    cases r1; cases r2
    exact ⟨_, _, rfl, k _ _ _ (.refl R) (.int _)⟩
  · cases e
theorem abs_ok : CallOk K (fun xs H Q => ∃ i, xs = [.int i] ∧ Q (.int (if i < 0 then -i else i)) H) absD := by
  intro g H s xs ds d Q R r e k
  unfold absD at e
  split at e
  · cases e
    obtain ⟨v, rfl, r1⟩ := repL_one r
    cases r1
    exact ⟨_, rfl, k _ _ _ (.refl R) (.int _)⟩
  · cases e
/-- int(x) -/
def intD : List D → Option D
  | [.int i] => some (.int i)
  | [.bl b] => some (.int (if b then 1 else 0))
  | [.str x] => if x.length ≤ 640 then (PySem.intText? x).map .int else none
  | _ => none
theorem CallR.or {f : Value} {r r' : List V → Hp → VK → Prop} (h : CallR X f r) (h' : CallR X f r') : CallR X f (fun xs H Q => r xs H Q ∨ r' xs H Q) := fun pins s σ H xs us Q I r q => q.elim (h pins s σ H xs us Q I r) (h' pins s σ H xs us Q I r)
theorem int_okC : CallOk K (fun xs H Q => ((∃ i, xs = [.int i] ∧ Q (.int i) H) ∨ ∃ k, xs = [.bl k] ∧ Q (.int (if k then 1 else 0)) H) ∨ ∃ a n, xs = [.str a] ∧ PySem.intText? a = some n ∧ a.length ≤ 640 ∧ Q (.int n) H) intD := by
  intro g H s xs ds d Q R r e k
  unfold intD at e
  split at e
  · cases e
    obtain ⟨v, rfl, r1⟩ := repL_one r
    cases r1
    exact .inl (.inl ⟨_, rfl, k _ _ _ (.refl R) (.int _)⟩)
  · cases e
    obtain ⟨v, rfl, r1⟩ := repL_one r
    cases r1
    exact .inl (.inr ⟨_, rfl, k _ _ _ (.refl R) (.int _)⟩)
  · split at e
    · obtain ⟨n, h1, rfl⟩ := Option.map_eq_some_iff.mp e
      obtain ⟨v, rfl, r1⟩ := repL_one r
      cases r1
      exact .inr ⟨_, n, rfl, h1, by assumption, k _ _ _ (.refl R) (.int _)⟩
    · cases e
  · cases e
/-- str(x) -/
def strD : List D → Option D
  | [.int i] => if i.natAbs.log2 < 1920 then some (.str (toString i)) else none
  | [.str x] => some (.str x)
  | _ => none
theorem str_ok : CallOk K (fun xs H Q => (∃ i, xs = [.int i] ∧ i.natAbs.log2 < 1920 ∧ Q (.str (toString i)) H) ∨ ∃ a, xs = [.str a] ∧ Q (.str a) H) strD := by
  intro g H s xs ds d Q R r e k
  unfold strD at e
  split at e
  · split at e
    · cases e
      obtain ⟨v, rfl, r1⟩ := repL_one r
      cases r1
      exact .inl ⟨_, rfl, by assumption, k _ _ _ (.refl R) (.str _)⟩
    · cases e
  · cases e
    obtain ⟨v, rfl, r1⟩ := repL_one r
    cases r1
    exact .inr ⟨_, rfl, k _ _ _ (.refl R) (.str _)⟩
  · cases e
/-- tuple(x), list(x) of a list or tuple -/
def tupleD : List D → Option D
  | [.lst ds] => some (.tup ds)
  | [.tup ds] => some (.tup ds)
  | _ => none
def listD : List D → Option D
  | [.lst ds] => some (.lst ds)
  | [.tup ds] => some (.lst ds)
  | _ => none
theorem tuple_ok : CallOk K (fun xs H Q => ∃ p ys, xs = [.ref p] ∧ ((SqL K H p ys ∧ ∀ l, H l = none → Q (.ref l) (upd H l (.tup ys))) ∨ (SqT K H p ys ∧ Q (.ref p) H))) tupleD := by
  intro g H s xs ds d Q R r e k
  unfold tupleD at e
  split at e
  · cases e
    obtain ⟨v, rfl, r1⟩ := repL_one r
    cases r1 with
    | lst hl rl =>
      refine ⟨_, _, rfl, .inl ⟨.inl (rd_H R hl), fun l hn => ?_⟩⟩
      obtain ⟨g2, st, r2⟩ := fresh_tup R hn rl
      exact k _ _ _ st r2
  · cases e
    obtain ⟨v, rfl, r1⟩ := repL_one r
    cases r1 with
    | tup hl rl => exact ⟨_, _, rfl, .inr ⟨sqT_H R hl, k _ _ _ (.refl R) (.tup hl rl)⟩⟩
  · cases e
theorem list_ok : CallOkF K (fun xs H Q => ∃ p ys, xs = [.ref p] ∧ (SqL K H p ys ∨ SqT K H p ys) ∧ ∀ l, H l = none → Q (.ref l) (upd H l (.lst ys))) listD := by
  intro g H s xs ds d Q R r e k
  unfold listD at e
  split at e
  · cases e
    obtain ⟨v, rfl, r1⟩ := repL_one r
    cases r1 with
    | lst hl rl =>
      refine ⟨_, _, rfl, .inl (.inl (rd_H R hl)), fun l hn => ?_⟩
      obtain ⟨st, hf, hc, o⟩ := fresh_upd (u := .lst _) (d := .lst _) R hn fun g' L => ⟨_, upd_same, rl.mono L⟩
      exact k l g _ st hn hf hc o
  · cases e
    obtain ⟨v, rfl, r1⟩ := repL_one r
    cases r1 with
    | tup hl rl =>
      refine ⟨_, _, rfl, .inr (sqT_H R hl), fun l hn => ?_⟩
      obtain ⟨st, hf, hc, o⟩ := fresh_upd (u := .lst _) (d := .lst _) R hn fun g' L => ⟨_, upd_same, rl.mono L⟩
      exact k l g _ st hn hf hc o
  · cases e
/-- divmod -/
def divmodD : List D → Option D
  | [.int i, .int j] => if 0 < j ∧ j < 1152921504606846976 then some (.tup [.int (i / j), .int (i % j)]) else none
  | _ => none
theorem divmod_ok : CallOk K (fun xs H Q => ∃ i j, xs = [.int i, .int j] ∧ CDivP i j ∧ ∀ p, H p = none → Q (.ref p) (upd H p (.tup [.int (i / j), .int (i % j)]))) divmodD := by
  intro g H s xs ds d Q R r e k
  unfold divmodD at e
  split at e
  · split at e
    · cases e
      obtain ⟨v, w, rfl, r1, r2⟩ := repL_two r
      cases r1; cases r2
      rename_i hz
      refine ⟨_, _, rfl, ⟨hz.1, PyProof.noPylong_of_log2 (Nat.lt_of_lt_of_le (PySem.Flt.log2_lt_of (k := 60) (by omega) (by have := hz.2; omega)) (by omega))⟩, fun p hp => ?_⟩
      obtain ⟨g2, st, r2⟩ := fresh_tup (vs := [.int _, .int _]) R hp (.cons (.int _) (.cons (.int _) .nil))
      exact k _ _ _ st r2
    · cases e
  · cases e
end
end Z

set_option Elab.async false
set_option linter.all false
set_option maxRecDepth 100000
set_option maxHeartbeats 4000000
namespace Z
open PySem PySem.Spec PyProof.Rows L2
/-! ### statements -/
inductive Fl where
  | nx | ret (d : D) | bk | ct | rto (d : D)
abbrev MS := EnvD → S → Option (Fl × EnvD × S)
def OwnA (σ : L2.St) (e : EnvD) (a : Addr) : Prop := ∃ (i : Nat) (d : D), e[i]? = some (Sl.own d) ∧ σ[i]? = some (some (.ref a))
structure StepS (K : PySem.W.Frag) (g : G) (H : Hp) (σ : L2.St) (e : EnvD) (g' : G) (H' : Hp) (σ' : L2.St) (e' : EnvD) (s' : S) : Prop where
  rel : SRel K g' H' s'
  env : EnvRel K g' H' σ' e'
  le : GLe g g'
  new : ∀ a u, g'.F a = some u → g.F a = some u ∨ Fre H a ∨ OwnA σ e a
  newc : ∀ a, a ∈ g'.ad → a ∈ g.ad ∨ H a = none ∨ OwnA σ e a
  keep : ∀ a u, H a = some u → a ∉ g.ad → ¬ OwnA σ e a → H' a = some u ∧ ¬ OwnA σ' e' a
  has : ∀ a u, H a = some u → ∃ u', H' a = some u'
section
variable {K : PySem.W.Frag} {g g' g'' : G} {H H' H'' : Hp} {σ σ' σ'' : L2.St} {e e' e'' : EnvD} {s s' s'' : S}
theorem Step.S (x : Step K g H g' H' s') (E : EnvRel K g H σ e) : StepS K g H σ e g' H' σ e s' where
  rel := x.rel
  env := E.step x
  le := x.le
  new := fun a u h => (x.new a u h).elim .inl fun z => .inr (.inl z)
  newc := fun a h => (x.newc a h).elim .inl fun z => .inr (.inl z)
  keep := fun a u h ha ho => ⟨x.keep a u h ha, ho⟩
  has := fun a u h => x.has h
theorem StepS.refl (R : SRel K g H s) (E : EnvRel K g H σ e) : StepS K g H σ e g H σ e s := (Step.refl R).S E
theorem StepS.noneOf (x : StepS K g H σ e g' H' σ' e' s') {a : Addr} (h : H' a = none) : H a = none := by
  cases q : H a with
  | none => rfl
  | some u => obtain ⟨u', z⟩ := x.has a u q; rw [h] at z; cases z
theorem StepS.back (x : StepS K g H σ e g' H' σ' e' s') {a : Addr} (h : OwnA σ' e' a) : H a = none ∨ OwnA σ e a := by
  by_cases ho : OwnA σ e a
  · exact .inr ho
  · cases q : H a with
    | none => exact .inl rfl
    | some u =>
      by_cases ha : a ∈ g.ad
      · obtain ⟨i, d, h1, h2⟩ := h
        obtain ⟨b, h3, _, h4, _⟩ := x.env.own i d h1
        rw [h2] at h3; cases h3
        exact absurd (mem_ad x.le ha) h4
      · exact absurd h (x.keep a u q ha ho).2
theorem StepS.trans (x : StepS K g H σ e g' H' σ' e' s') (y : StepS K g' H' σ' e' g'' H'' σ'' e'' s'') : StepS K g H σ e g'' H'' σ'' e'' s'' where
  rel := y.rel
  env := y.env
  le := x.le.trans y.le
  new := fun a u h => by
    rcases y.new a u h with q | q | q
    · exact x.new a u q
    · rcases q with q | ⟨vs, q⟩
      · exact .inr (.inl (.inl (x.noneOf q)))
      · by_cases ho : OwnA σ e a
        · exact .inr (.inr ho)
        · cases z : H a with
          | none => exact .inr (.inl (.inl z))
          | some w =>
            by_cases ha : a ∈ g.ad
            · exact absurd q (x.rel.noT (mem_ad x.le ha) vs)
            · have := (x.keep a w z ha ho).1
              rw [q] at this; cases this
              exact .inr (.inl (.inr ⟨vs, z⟩))
    · exact .inr ((x.back q).imp .inl id)
  newc := fun a h => by
    rcases y.newc a h with q | q | q
    · exact x.newc a q
    · exact .inr (.inl (x.noneOf q))
    · exact .inr (x.back q)
  keep := fun a u h ha ho => by
    obtain ⟨h1, h2⟩ := x.keep a u h ha ho
    refine y.keep a u h1 (fun z => ?_) h2
    rcases x.newc a z with q | q | q
    · exact ha q
    · rw [h] at q; cases q
    · exact ho q
  has := fun a u h => by
    obtain ⟨u1, h1⟩ := x.has a u h
    exact y.has a u1 h1
/-- H: the heap ahead of it; rto: a new object, nobody's -/
def FlOk (K : PySem.W.Frag) (Dn : Ends) (f : Fl) (H : Hp) (g' : G) (σ' : L2.St) (H' : Hp) : Prop := match f with
  | .nx => Dn.nx σ' H'
  | .ret d => ∀ v, Rep K g' v d → Dn.rt v H'
  | .bk => Dn.bk σ' H'
  | .ct => Dn.ct σ' H'
  | .rto d => ∀ a, H a = none → g'.F a = none → a ∉ g'.ad → OwnAt K g' H' a d → Dn.rt (.ref a) H'
theorem FlOk.mid {K : PySem.W.Frag} {Dn : Ends} {f : Fl} {H H1 : Hp} {g' : G} {σ' : L2.St} {H' : Hp} (h : FlOk K Dn f H g' σ' H') (n : ∀ a, H1 a = none → H a = none) : FlOk K Dn f H1 g' σ' H' := by
  cases f with
  | rto d => exact fun a ha => h a (n a ha)
  | nx => exact h
  | ret d => exact h
  | bk => exact h
  | ct => exact h
def trS (K : PySem.W.Frag) (m : MS) : TS := fun Dn σ H => ∃ g e s f e' s', SRel K g H s ∧ EnvRel K g H σ e ∧ m e s = some (f, e', s') ∧ ∀ g' H' σ', StepS K g H σ e g' H' σ' e' s' → FlOk K Dn f H g' σ' H'
end
def bndS {α : Type} (x : Option (α × S)) (f : α → S → Option (Fl × EnvD × S)) : Option (Fl × EnvD × S) := match x with
  | some (a, s) => f a s
  | none => none
theorem bndS_some {α : Type} {x : Option (α × S)} {f : α → S → Option (Fl × EnvD × S)} {r : Fl × EnvD × S} (h : bndS x f = some r) : ∃ a s, x = some (a, s) ∧ f a s = some r := by
  cases x with
  | none => cases h
  | some p => exact ⟨p.1, p.2, rfl, h⟩
def sNil : MS := fun e s => some (.nx, e, s)
def seqK (r : Option (Fl × EnvD × S)) (m : MS) : Option (Fl × EnvD × S) := match r with
  | some (.nx, e, s) => m e s
  | r => r
def sSeq (m1 m2 : MS) : MS := fun e s => seqK (m1 e s) m2
def sExpr (m : ME) : MS := fun e s => bndS (m e s) fun _ s => some (.nx, e, s)
def sRet (m : ME) : MS := fun e s => bndS (m e s) fun d s => some (.ret d, e, s)
def sRetN : MS := fun e s => some (.ret .non, e, s)
def sIf (t : MT) (m1 m2 : MS) : MS := fun e s => bndS (t e s) fun k s => match k with
  | true => m1 e s
  | false => m2 e s
def sSet (i : Nat) (m : ME) : MS := fun e s => bndS (m e s) fun d s => some (.nx, e.set i (.val d), s)
def sOwn (i : Nat) (m : ME) : MS := fun e s => bndS (m e s) fun d s => some (.nx, e.set i (.own d), s)
def frzE (i : Nat) (e : EnvD) : EnvD := match e[i]? with
  | some (.own d) => e.set i (.val d)
  | _ => e
/-- the ghost of a statement: slot i owns no more -/
def sFrz (i : Nat) (m : MS) : MS := fun e s => m (frzE i e) s
section
variable {X : Cx} {K : PySem.W.Frag} {st : Stmt} {sts : List Stmt} {m m1 m2 : MS} {me : ME} {mt : MT} {a : Expr} {pos : Pos}
theorem s_nil : PSs X [] (trS X.K sNil) := PSs.imp pss_nil fun Dn σ H ⟨g, e, s, f, e', s', R, E, hm, k⟩ => by
  cases hm
  exact k _ _ _ (.refl R E)
theorem trS_seq {Dn : Ends} {σ : L2.St} {H : Hp} (h : trS K (sSeq m1 m2) Dn σ H) : trS K m1 { Dn with nx := trS K m2 Dn } σ H := by
  obtain ⟨g, e, s, f, e', s', R, E, hm, k⟩ := h
  unfold sSeq seqK at hm
  split at hm
  · rename_i e1 s1 h1
    exact ⟨g, e, s, .nx, e1, s1, R, E, h1, fun g1 H1 σ1 st1 => ⟨g1, e1, s1, f, e', s', st1.rel, st1.env, hm, fun g2 H2 σ2 st2 => (k g2 H2 σ2 (st1.trans st2)).mid fun a => st1.noneOf⟩⟩
  · rename_i hne
    refine ⟨g, e, s, f, e', s', R, E, hm, fun g1 H1 σ1 st1 => ?_⟩
    have hk := k g1 H1 σ1 st1
    cases f with
    | nx => exact absurd hm (hne e' s')
    | ret d => exact hk
    | bk => exact hk
    | ct => exact hk
    | rto d => exact hk
theorem s_cons (h1 : PS X st (trS X.K m1)) (h2 : PSs X sts (trS X.K m2)) : PSs X (st :: sts) (trS X.K (sSeq m1 m2)) := PSs.imp (pss_cons h1 h2) fun _ _ _ h => trS_seq h
theorem s_one (h1 : PS X st (trS X.K m1)) : PSs X [st] (trS X.K m1) := pss_one h1
theorem s_ret (h : PE X a (trE X.K me)) : PS X (.Return (some a) pos) (trS X.K (sRet me)) := PS.imp (ps_ret h) fun Dn σ H ⟨g, e, s, f, e', s', R, E, hm, k⟩ => by
  obtain ⟨d, s1, h1, hm1⟩ := bndS_some hm
  cases hm1
  exact ⟨g, e, s, d, _, R, E, h1, fun v g1 H1 st1 rv => k _ _ _ (st1.S E) v rv⟩
/-- a new object given back -/
def sRto (m : ME) : MS := fun e s => bndS (m e s) fun d s => some (.rto d, e, s)
theorem s_rto (h : PE X a (trF X.K me)) : PS X (.Return (some a) pos) (trS X.K (sRto me)) := PS.imp (ps_ret h) fun Dn σ H ⟨g, e, s, f, e', s', R, E, hm, k⟩ => by
  obtain ⟨d, s1, h1, hm1⟩ := bndS_some hm
  cases hm1
  exact ⟨g, e, s, d, _, R, E, h1, fun p g1 H1 st1 hn hf hc o => k _ _ _ (st1.S E) p hn hf hc o⟩
theorem s_if {c : Expr} {sa sb : List Stmt} (hc : PT X c (trT X.K mt)) (ha : PSs X sa (trS X.K m1)) (hb : PSs X sb (trS X.K m2)) : PS X (.If c sa sb pos) (trS X.K (sIf mt m1 m2)) := PS.imp (ps_if hc ha hb) fun Dn σ H ⟨g, e, s, f, e', s', R, E, hm, k⟩ => by
  obtain ⟨z, s1, h1, hm1⟩ := bndS_some hm
  refine ⟨g, e, s, z, s1, R, E, h1, fun g1 H1 st1 => ?_⟩
  cases z with
  | true => exact iteT ⟨g1, e, s1, f, e', s', st1.rel, E.step st1, hm1, fun g2 H2 σ2 st2 => (k g2 H2 σ2 ((st1.S E).trans st2)).mid fun a => st1.noneOf⟩
  | false => exact iteF ⟨g1, e, s1, f, e', s', st1.rel, E.step st1, hm1, fun g2 H2 σ2 st2 => (k g2 H2 σ2 ((st1.S E).trans st2)).mid fun a => st1.noneOf⟩
/-- code that is not come to -/
def sDie : MS := fun _ _ => none
theorem s_die : PS X st (trS X.K sDie) := PS.imp ps_never fun Dn σ H ⟨g, e, s, f, e', s', R, E, hm, k⟩ => by cases hm
/-! ### stores into slots -/
theorem set_slot {g : G} {H : Hp} {σ : L2.St} {e : EnvD} {s : S} (R : SRel K g H s) (E : EnvRel K g H σ e) {i : Nat} {v : V} {d : D} (r : Rep K g v d) : StepS K g H σ e g H (σ.set i (some v)) (e.set i (.val d)) s := by
  have hE : EnvRel K g H (σ.set i (some v)) (e.set i (.val d)) := by
    refine ⟨by simp [E.len], fun j d' h => ?_, fun j d' h => ?_, fun j k d1 d2 a h1 h2 h3 h4 => ?_⟩
    · by_cases hj : i = j
      · subst hj
        have hl : i < e.length := by
          have := (List.getElem?_eq_some_iff.mp h).1
          simpa using this
        rw [List.getElem?_set_self hl] at h
        cases h
        exact ⟨v, List.getElem?_set_self (by rw [← E.len]; exact hl), r⟩
      · rw [List.getElem?_set_ne hj] at h ⊢
        exact E.val j d' h
    · by_cases hj : i = j
      · subst hj
        have hl : i < e.length := by
          have := (List.getElem?_eq_some_iff.mp h).1
          simpa using this
        rw [List.getElem?_set_self hl] at h
        cases h
      · rw [List.getElem?_set_ne hj] at h ⊢
        exact E.own j d' h
    · have n1 : i ≠ j := fun z => by
        subst z
        have hl : i < e.length := by
          have := (List.getElem?_eq_some_iff.mp h1).1
          simpa using this
        rw [List.getElem?_set_self hl] at h1; cases h1
      have n2 : i ≠ k := fun z => by
        subst z
        have hl : i < e.length := by
          have := (List.getElem?_eq_some_iff.mp h2).1
          simpa using this
        rw [List.getElem?_set_self hl] at h2; cases h2
      rw [List.getElem?_set_ne n1] at h1 h3
      rw [List.getElem?_set_ne n2] at h2 h4
      exact E.apart j k d1 d2 a h1 h2 h3 h4
  refine ⟨R, hE, .refl, fun _ _ h => .inl h, fun _ h => .inl h, fun a u h ha ho => ⟨h, fun ⟨j, d', h1, h2⟩ => ho ?_⟩, fun a u h => ⟨u, h⟩⟩
  have n1 : i ≠ j := fun z => by
    subst z
    have hl : i < e.length := by
      have := (List.getElem?_eq_some_iff.mp h1).1
      simpa using this
    rw [List.getElem?_set_self hl] at h1; cases h1
  rw [List.getElem?_set_ne n1] at h1 h2
  exact ⟨j, d', h1, h2⟩
theorem own_slot {g : G} {H : Hp} {σ : L2.St} {e : EnvD} {s : S} (R : SRel K g H s) (E : EnvRel K g H σ e) {i : Nat} {a : Addr} {d : D} (hf : g.F a = none) (hc : a ∉ g.ad) (o : OwnAt K g H a d) (hn : ∀ (j : Nat) (d' : D), e[j]? = some (Sl.own d') → σ[j]? ≠ some (some (V.ref a))) : EnvRel K g H (σ.set i (some (.ref a))) (e.set i (.own d)) := by
  have hs : ∀ {j : Nat} {x : Sl}, (e.set i (.own d))[j]? = some x → (i = j ∧ x = .own d) ∨ (i ≠ j ∧ e[j]? = some x) := fun {j x} h => by
    by_cases hj : i = j
    · subst hj
      have hl : i < e.length := by
        have := (List.getElem?_eq_some_iff.mp h).1
        simpa using this
      rw [List.getElem?_set_self hl] at h
      cases h
      exact .inl ⟨rfl, rfl⟩
    · rw [List.getElem?_set_ne hj] at h
      exact .inr ⟨hj, h⟩
  have hv : ∀ {j : Nat} {x : Sl}, (e.set i (.own d))[j]? = some x → i = j → (σ.set i (some (V.ref a)))[j]? = some (some (.ref a)) := fun {j x} h hj => by
    subst hj
    have hl : i < e.length := by
      have := (List.getElem?_eq_some_iff.mp h).1
      simpa using this
    exact List.getElem?_set_self (by rw [← E.len]; exact hl)
  refine ⟨by simp [E.len], fun j d' h => ?_, fun j d' h => ?_, fun j k d1 d2 b h1 h2 h3 h4 => ?_⟩
  · rcases hs h with ⟨_, z⟩ | ⟨hj, h'⟩
    · cases z
    · rw [List.getElem?_set_ne hj]
      exact E.val j d' h'
  · rcases hs h with ⟨hj, z⟩ | ⟨hj, h'⟩
    · cases z
      exact ⟨a, hv h hj, hf, hc, o⟩
    · rw [List.getElem?_set_ne hj]
      exact E.own j d' h'
  · rcases hs h1 with ⟨hj, _⟩ | ⟨hj, h1'⟩
    · have q := hv h1 hj
      rw [q] at h3; cases h3
      rcases hs h2 with ⟨hk, _⟩ | ⟨hk, h2'⟩
      · rw [← hj, hk]
      · rw [List.getElem?_set_ne hk] at h4
        exact absurd h4 (hn k _ h2')
    · rw [List.getElem?_set_ne hj] at h3
      rcases hs h2 with ⟨hk, _⟩ | ⟨hk, h2'⟩
      · have q := hv h2 hk
        rw [q] at h4; cases h4
        exact absurd h3 (hn j _ h1')
      · rw [List.getElem?_set_ne hk] at h4
        exact E.apart j k d1 d2 b h1' h2' h3 h4
theorem s_set {i : Nat} {x : Str} {pos' : Pos} (hN : X.N.Nodup) (hi : X.N[i]? = some x) (hx : Loc X.env.scope x) (h : PE X a (trE X.K me)) (hs : swapsWith a (some (.Name x pos')) pos.line X.env = pure false := by rfl) (hf : X.fn x = true ∨ X.env.scope.names.lookup x = some .local := by first | exact .inl rfl | assumption) :
    PS X (.Assign [.Name x pos'] a pos) (trS X.K (sSet i me)) := PS.imp (ps_set hN hi hx h hs hf) fun Dn σ H ⟨g, e, s, f, e', s', R, E, hm, k⟩ => by
  obtain ⟨d, s1, h1, hm1⟩ := bndS_some hm
  cases hm1
  exact ⟨g, e, s, d, _, R, E, h1, fun v g1 H1 st1 rv => k _ _ _ ((st1.S E).trans (set_slot st1.rel (E.step st1) rv))⟩
theorem own_step {g g1 : G} {H H1 : Hp} {σ : L2.St} {e : EnvD} {s1 : S} (E : EnvRel K g H σ e) (st : Step K g H g1 H1 s1) {i : Nat} {p : Addr} {d : D} (hn : H p = none) (hf : g1.F p = none) (hc : p ∉ g1.ad) (o : OwnAt K g1 H1 p d) : StepS K g H σ e g1 H1 (σ.set i (some (.ref p))) (e.set i (.own d)) s1 := by
  have nx : ∀ (j : Nat) (d' : D), e[j]? = some (Sl.own d') → σ[j]? ≠ some (some (V.ref p)) := fun j d' hj z => by
    obtain ⟨b, h1, _, _, h2⟩ := E.own j d' hj
    rw [z] at h1; cases h1
    obtain ⟨u, hu⟩ := h2.has
    rw [hn] at hu; cases hu
  have st1 := st.S E
  refine ⟨st.rel, own_slot st.rel (E.step st) hf hc o nx, st.le, st1.new, st1.newc, fun a u h ha ho => ⟨st.keep a u h ha, fun ⟨j, d', h1, h2⟩ => ?_⟩, st1.has⟩
  by_cases hj : i = j
  · subst hj
    have hl : i < e.length := by
      have := (List.getElem?_eq_some_iff.mp h1).1
      simpa using this
    rw [List.getElem?_set_self (by rw [← E.len]; exact hl)] at h2
    cases h2
    rw [hn] at h; cases h
  · rw [List.getElem?_set_ne hj] at h1 h2
    exact ho ⟨j, d', h1, h2⟩
theorem s_own {i : Nat} {x : Str} {pos' : Pos} (hN : X.N.Nodup) (hi : X.N[i]? = some x) (hx : Loc X.env.scope x) (h : PE X a (trF X.K me)) (hs : swapsWith a (some (.Name x pos')) pos.line X.env = pure false := by rfl) (hf : X.fn x = true ∨ X.env.scope.names.lookup x = some .local := by first | exact .inl rfl | assumption) :
    PS X (.Assign [.Name x pos'] a pos) (trS X.K (sOwn i me)) := PS.imp (ps_set hN hi hx h hs hf) fun Dn σ H ⟨g, e, s, f, e', s', R, E, hm, k⟩ => by
  obtain ⟨d, s1, h1, hm1⟩ := bndS_some hm
  cases hm1
  exact ⟨g, e, s, d, _, R, E, h1, fun p g1 H1 st1 hn hf hc o => k _ _ _ (own_step E st1 hn hf hc o)⟩
/-- ghost: the owned slot is frozen -/
theorem frz_step {g : G} {H : Hp} {σ : L2.St} {e : EnvD} {s : S} (R : SRel K g H s) (E : EnvRel K g H σ e) (i : Nat) : ∃ g', StepS K g H σ e g' H σ (frzE i e) s := by
  unfold frzE
  split
  · rename_i d h
    obtain ⟨a, h1, h2, h3, h4⟩ := E.own i d h
    obtain ⟨u, h5, h6, _⟩ := h4.frozen h2
    have L : GLe g (g.frz a u) := .frz h2
    have hl : i < e.length := (List.getElem?_eq_some_iff.mp h).1
    have hs : ∀ {j : Nat} {x : Sl}, (e.set i (.val d))[j]? = some x → (i = j ∧ x = .val d) ∨ (i ≠ j ∧ e[j]? = some x) := fun {j x} h => by
      by_cases hj : i = j
      · subst hj
        rw [List.getElem?_set_self hl] at h
        cases h
        exact .inl ⟨rfl, rfl⟩
      · rw [List.getElem?_set_ne hj] at h
        exact .inr ⟨hj, h⟩
    refine ⟨g.frz a u, R.frz h5 h2 h3, ⟨by simp [E.len], fun j d' hj => ?_, fun j d' hj => ?_, fun j k d1 d2 b q1 q2 q3 q4 => ?_⟩, L, fun b w hb => ?_, fun b hb => .inl hb, fun b w hb hc ho => ⟨hb, fun ⟨j, d', q1, q2⟩ => ho ?_⟩, fun b w hb => ⟨w, hb⟩⟩
    · rcases hs hj with ⟨hij, z⟩ | ⟨hij, z⟩
      · subst hij; cases z
        exact ⟨_, h1, h6⟩
      · obtain ⟨v, q1, q2⟩ := E.val j d' z
        exact ⟨v, q1, q2.mono L⟩
    · rcases hs hj with ⟨hij, z⟩ | ⟨hij, z⟩
      · cases z
      · obtain ⟨b, q1, q2, q3, q4⟩ := E.own j d' z
        have hab : b ≠ a := fun w => by
          subst w
          exact hij (E.apart i j d d' b h z h1 q1)
        exact ⟨b, q1, by show upd g.F a u b = none; rw [upd_ne hab]; exact q2, q3, q4.mono L fun _ w => w⟩
    · rcases hs q1 with ⟨_, z⟩ | ⟨_, z1⟩
      · cases z
      · rcases hs q2 with ⟨_, z⟩ | ⟨_, z2⟩
        · cases z
        · exact E.apart j k d1 d2 b z1 z2 q3 q4
    · by_cases hba : b = a
      · subst hba; exact .inr (.inr ⟨i, d, h, h1⟩)
      · have hb : upd g.F a u b = some w := hb
        rw [upd_ne hba] at hb
        exact .inl hb
    · rcases hs q1 with ⟨_, z⟩ | ⟨_, z⟩
      · cases z
      · exact ⟨j, d', z, q2⟩
  · exact ⟨g, .refl R E⟩
theorem trS_frz {i : Nat} {Dn : Ends} {σ : L2.St} {H : Hp} (h : trS K (sFrz i m) Dn σ H) : trS K m Dn σ H := by
  obtain ⟨g, e, s, f, e', s', R, E, hm, k⟩ := h
  obtain ⟨g1, st1⟩ := frz_step R E i
  exact ⟨g1, frzE i e, s, f, e', s', st1.rel, st1.env, hm, fun g2 H2 σ2 st2 => (k g2 H2 σ2 (st1.trans st2)).mid fun a => st1.noneOf⟩
theorem s_frz1 {i : Nat} (h : PS X st (trS X.K m)) : PS X st (trS X.K (sFrz i m)) := PS.imp h fun _ _ _ => trS_frz
/-! ### what an owned slot holds, changed in place -/
theorem own_set {g g1 : G} {H H1 : Hp} {σ : L2.St} {e : EnvD} {s1 : S} (E : EnvRel K g H σ e) (st : Step K g H g1 H1 s1) {i : Nat} {d d' : D} {a : Addr} {u : HO} (h : e[i]? = some (.own d)) (ha : σ[i]? = some (some (.ref a))) (o : ∀ g', GLe g1 g' → OwnAt K g' (upd H1 a u) a d') : StepS K g H σ e g1 (upd H1 a u) σ (e.set i (.own d')) s1 := by
  have E1 := E.step st
  obtain ⟨b, h1, h2, h3, h4⟩ := E1.own i d h
  rw [ha] at h1; cases h1
  have hl : i < e.length := (List.getElem?_eq_some_iff.mp h).1
  obtain ⟨w0, hw0⟩ := h4.has
  have hs : ∀ {j : Nat} {x : Sl}, (e.set i (.own d'))[j]? = some x → (i = j ∧ x = .own d') ∨ (i ≠ j ∧ e[j]? = some x) := fun {j x} h => by
    by_cases hj : i = j
    · subst hj
      rw [List.getElem?_set_self hl] at h
      cases h
      exact .inl ⟨rfl, rfl⟩
    · rw [List.getElem?_set_ne hj] at h
      exact .inr ⟨hj, h⟩
  have nF : ∀ b w, g1.F b = some w → b ≠ a := fun b w q z => by subst z; rw [h2] at q; cases q
  have R' : SRel K g1 (upd H1 a u) s1 := by
    refine ⟨fun b w q => ?_, st.rel.len, fun n c q => ?_, st.rel.inj⟩
    · rw [upd_ne (nF b w q)]
      exact st.rel.sub b w q
    · obtain ⟨b, q1, q2, q3⟩ := st.rel.cell n c q
      have hb : b ≠ a := fun z => by subst z; exact h3 (List.mem_iff_getElem?.mpr ⟨n, q1⟩)
      exact ⟨b, q1, q2, q3.mono .refl fun w hw => by rw [upd_ne hb]; exact hw⟩
  have own_iff : ∀ b, OwnA σ (e.set i (.own d')) b → OwnA σ e b := fun b ⟨j, x, q1, q2⟩ => by
    rcases hs q1 with ⟨hj, _⟩ | ⟨_, z⟩
    · subst hj; exact ⟨i, d, h, q2⟩
    · exact ⟨j, x, z, q2⟩
  refine ⟨R', ⟨by simp [E1.len], fun j x hj => ?_, fun j x hj => ?_, fun j k d1 d2 b q1 q2 q3 q4 => ?_⟩, st.le, (st.S E).new, (st.S E).newc, fun b w hb hc ho => ⟨?_, fun z => ho (own_iff b z)⟩, fun b w hb => ?_⟩
  · rcases hs hj with ⟨_, z⟩ | ⟨_, z⟩
    · cases z
    · exact E1.val j x z
  · rcases hs hj with ⟨hij, z⟩ | ⟨hij, z⟩
    · subst hij; cases z
      exact ⟨a, ha, h2, h3, o g1 .refl⟩
    · obtain ⟨b, q1, q2, q3, q4⟩ := E1.own j x z
      have hab : b ≠ a := fun w => by
        subst w
        exact hij (E1.apart i j d x b h z ha q1)
      exact ⟨b, q1, q2, q3, q4.mono .refl fun w hw => by rw [upd_ne hab]; exact hw⟩
  · have lift : ∀ {j : Nat} {x : D}, (e.set i (.own d'))[j]? = some (.own x) → ∃ y, e[j]? = some (.own y) := fun {j x} q => by
      rcases hs q with ⟨hj, _⟩ | ⟨_, z⟩
      · subst hj; exact ⟨d, h⟩
      · exact ⟨x, z⟩
    obtain ⟨y1, z1⟩ := lift q1
    obtain ⟨y2, z2⟩ := lift q2
    exact E1.apart j k y1 y2 b z1 z2 q3 q4
  · have hba : b ≠ a := fun z => by subst z; exact ho ⟨i, d, h, ha⟩
    rw [upd_ne hba]
    exact st.keep b w hb hc
  · obtain ⟨w', hw'⟩ := st.has hb
    by_cases hba : b = a
    · subst hba; exact ⟨u, upd_same⟩
    · exact ⟨w', by rw [upd_ne hba]; exact hw'⟩
def sApp (i : Nat) (m : ME) : MS := fun e s => bndS (m e s) fun d s => match e[i]? with
  | some (.own (.lst ds)) => if ds.length < sizeLine then some (.nx, e.set i (.own (.lst (ds ++ [d]))), s) else none
  | _ => none
theorem s_app {i : Nat} {x : Str} {p apos cpos : Pos} (hN : X.N[i]? = some x) (hv : Vis X.env.scope x) (h : PE X a (trE X.K me)) (hst : starEach [a] X.env = [(false, eval a X.env)] := by rfl)
    (hb : PE X (.Call (.Attribute (.Name x p) "append" apos) [a] [] cpos) (tBM X.K "list" rAppend (tVar i) (tCons (trE X.K me) tNil)))
    (hs : swapsWith (.Call (.Attribute (.Name x p) "append" apos) [a] [] cpos) none pos.line X.env = pure false := by rfl) : PS X (.Expr (.Call (.Attribute (.Name x p) "append" apos) [a] [] cpos) pos) (trS X.K (sApp i me)) := PS.imp (ps_expr hb hs) fun Dn σ H ⟨g, e, s, f, e', s', R, E, hm, k⟩ => by
  obtain ⟨d, s1, h1, hm1⟩ := bndS_some hm
  split at hm1
  · rename_i ds he
    split at hm1
    · rename_i hz
      cases hm1
      obtain ⟨b, q1, q2, q3, vs, q4, q5⟩ := E.own i _ he
      refine ⟨_, q1, .inl ⟨rfl, _, .inl (.inl q4)⟩, g, e, s, d, _, R, E, h1, fun v g1 H1 st1 rv => ?_⟩
      have q6 := st1.keep b _ q4 q3
      refine ⟨b, vs, v, rfl, rfl, q6, by rw [q5.length]; exact hz, ?_⟩
      exact k _ _ _ (own_set E st1 he q1 fun g' L => ⟨_, upd_same, ((q5.mono st1.le).append (.cons rv .nil)).mono L⟩)
    · cases hm1
  · cases hm1
end
end Z

set_option Elab.async false
set_option linter.all false
set_option maxRecDepth 100000
set_option maxHeartbeats 4000000
namespace Z
open PySem PySem.Spec PyProof.Rows L2
/-! ### targets -/
abbrev MG := D → EnvD → S → Option (EnvD × S)
def trG (K : PySem.W.Frag) (mg : MG) : TG := fun v σ H Q => ∃ g e s d e' s', SRel K g H s ∧ EnvRel K g H σ e ∧ Rep K g v d ∧ mg d e s = some (e', s') ∧ ∀ g' H' σ', StepS K g H σ e g' H' σ' e' s' → Q σ' H'
abbrev MGs := List D → EnvD → S → Option (EnvD × S)
def trGs (K : PySem.W.Frag) (mg : MGs) : TGs := fun vs σ H Q => ∃ g e s ds e' s', SRel K g H s ∧ EnvRel K g H σ e ∧ RepL K g vs ds ∧ mg ds e s = some (e', s') ∧ ∀ g' H' σ', StepS K g H σ e g' H' σ' e' s' → Q σ' H'
def gNm (i : Nat) : MG := fun d e s => some (e.set i (.val d), s)
def gsNil : MGs := fun ds e s => match ds with
  | [] => some (e, s)
  | _ => none
def gsCons (mg : MG) (ms : MGs) : MGs := fun ds e s => match ds with
  | d :: ds => match mg d e s with
    | some (e', s') => ms ds e' s'
    | none => none
  | [] => none
def gSeq (ms : MGs) : MG := fun d e s => match d with
  | .tup ds => ms ds e s
  | .lst ds => ms ds e s
  | _ => none
section
variable {X : Cx} {K : PySem.W.Frag} {mg : MG} {ms : MGs} {me mi : ME} {pos : Pos} {a : Expr}
theorem g_nm {i : Nat} {x : Str} (hN : X.N.Nodup) (hi : X.N[i]? = some x) (hx : Loc X.env.scope x) (hf : X.fn x = true ∨ X.env.scope.names.lookup x = some .local := by first | exact .inl rfl | assumption) : PG X (.Name x pos) (trG X.K (gNm i)) := PG.imp (pg_name hN hi hx hf) fun v σ H Q ⟨g, e, s, d, e', s', R, E, r, hm, k⟩ => by
  cases hm
  exact k _ _ _ (set_slot R E r)
theorem PGs.imp {X : Cx} {es : List Expr} {t t' : TGs} (h : PGs X es t) (i : ∀ v σ H Q, t' v σ H Q → t v σ H Q) : PGs X es t' := ⟨fun pins s σ H v u Q I r q => h.run pins s σ H v u Q I r (i _ _ _ _ q)⟩
theorem PG.or {X : Cx} {e : Expr} {t t' : TG} (h : PG X e t) (h' : PG X e t') : PG X e (fun v σ H Q => t v σ H Q ∨ t' v σ H Q) := ⟨fun pins s σ H v u Q I r q => q.elim (h.run pins s σ H v u Q I r) (h'.run pins s σ H v u Q I r)⟩
theorem gs_nil : PGs X [] (trGs X.K gsNil) := PGs.imp pgs_nil fun vs σ H Q ⟨g, e, s, ds, e', s', R, E, r, hm, k⟩ => by
  unfold gsNil at hm
  split at hm
  · cases hm
    cases r
    exact ⟨rfl, k _ _ _ (.refl R E)⟩
  · cases hm
theorem gs_cons {es : List Expr} (h1 : PG X a (trG X.K mg)) (h2 : PGs X es (trGs X.K ms)) (hs : (assignEach (a :: es) X.env).map (·.2) = assign a X.env :: (assignEach es X.env).map (·.2) := by rfl) : PGs X (a :: es) (trGs X.K (gsCons mg ms)) := PGs.imp (pgs_cons h1 h2 hs) fun vs σ H Q ⟨g, e, s, ds, e', s', R, E, r, hm, k⟩ => by
  unfold gsCons at hm
  split at hm
  · split at hm
    · rename_i d ds _ e1 s1 h3
      cases r with
      | cons r1 r2 =>
        refine ⟨_, _, rfl, g, e, s, d, e1, s1, R, E, r1, h3, fun g1 H1 σ1 st1 => ?_⟩
        exact ⟨g1, e1, s1, ds, e', s', st1.rel, st1.env, r2.mono st1.le, hm, fun g2 H2 σ2 st2 => k _ _ _ (st1.trans st2)⟩
    · cases hm
  · cases hm
theorem g_seq {es : List Expr} {kk n : Nat} (hc : X.calm = true) (h : PGs X es (trGs X.K ms)) (hlen : ∀ ds e s r, ms ds e s = some r → ds.length = n) (hn : (assignEach es X.env).length = n := by rfl) (hst : (assignEach es X.env).findIdx? (·.1) = none := by rfl) : PG X (.Tuple es kk pos) (trG X.K (gSeq ms)) :=
  PG.imp (PG.or (pg_tup hc h hn hst) (pg_unl hc h hn hst)) fun v σ H Q ⟨g, e, s, d, e', s', R, E, r, hm, k⟩ => by
  unfold gSeq at hm
  split at hm
  · cases r with
    | tup hl rl => exact .inl ⟨_, _, rfl, sqT_H R hl, by rw [rl.length]; exact hlen _ _ _ _ hm, g, e, s, _, e', s', R, E, rl, hm, k⟩
  · cases r with
    | lst hl rl => exact .inr ⟨_, _, rfl, .inl (rd_H R hl), by rw [rl.length]; exact hlen _ _ _ _ hm, g, e, s, _, e', s', R, E, rl, hm, k⟩
  · cases hm
theorem gsLen0 : ∀ ds e s r, gsNil ds e s = some r → ds.length = 0 := fun ds e s r h => by
  unfold gsNil at h
  split at h
  · rfl
  · cases h
theorem gsLen1 {n : Nat} (h : ∀ ds e s r, ms ds e s = some r → ds.length = n) : ∀ ds e s r, gsCons mg ms ds e s = some r → ds.length = n + 1 := fun ds e s r q => by
  unfold gsCons at q
  split at q
  · split at q
    · rw [List.length_cons, h _ _ _ _ q]
    · cases q
  · cases q
/-- a cell's item -/
def gCel (mo mi : ME) : MG := fun d e s => match mo e s with
  | some (.cel n, s) => match mi e s with
    | some (.int k, s) => match s[n]? with
      | some (.lst ds) => match ixN ds.length k with
        | some j => some (e, s.set n (.lst (ds.set j d)))
        | none => none
      | _ => none
    | _ => none
  | _ => none
theorem cel_step {g : G} {H : Hp} {σ : L2.St} {e : EnvD} {s : S} {n : Nat} {p : Addr} {u : HO} {c : D} (R : SRel K g H s) (E : EnvRel K g H σ e) (hp : g.ad[n]? = some p) (hn : n < s.length) (o : ∀ g', GLe g g' → OwnC K g' (upd H p u) p c) : StepS K g H σ e g (upd H p u) σ e (s.set n c) := by
  have hm : p ∈ g.ad := List.mem_iff_getElem?.mpr ⟨n, hp⟩
  have hF : ∀ b w, g.F b = some w → b ≠ p := fun b w q z => by
    subst z
    obtain ⟨b', h1, h2, _⟩ := R.cell n s[n] (List.getElem?_eq_getElem hn)
    rw [hp] at h1; cases h1
    rw [h2] at q; cases q
  have R' : SRel K g (upd H p u) (s.set n c) := by
    refine ⟨fun b w q => by rw [upd_ne (hF b w q)]; exact R.sub b w q, by simp [R.len], fun m c' q => ?_, R.inj⟩
    by_cases hmn : n = m
    · subst hmn
      rw [List.getElem?_set_self hn] at q
      cases q
      obtain ⟨b', h1, h2, _⟩ := R.cell n s[n] (List.getElem?_eq_getElem hn)
      rw [hp] at h1; cases h1
      exact ⟨p, hp, h2, o g .refl⟩
    · rw [List.getElem?_set_ne hmn] at q
      obtain ⟨b', h1, h2, h3⟩ := R.cell m c' q
      have nb : b' ≠ p := fun z => by subst z; exact hmn (R.inj n m b' hp h1)
      exact ⟨b', h1, h2, h3.mono .refl fun w hw => by rw [upd_ne nb]; exact hw⟩
  refine ⟨R', ⟨E.len, E.val, fun i d h => ?_, E.apart⟩, .refl, fun _ _ h => .inl h, fun _ h => .inl h, fun b w hb hc ho => ⟨?_, ho⟩, fun b w hb => ?_⟩
  · obtain ⟨b, h1, h2, h3, h4⟩ := E.own i d h
    have nb : b ≠ p := fun z => by subst z; exact h3 hm
    exact ⟨b, h1, h2, h3, h4.mono .refl fun w hw => by rw [upd_ne nb]; exact hw⟩
  · rw [upd_ne fun z => by subst z; exact hc hm]
    exact hb
  · by_cases hbp : b = p
    · subst hbp; exact ⟨u, upd_same⟩
    · exact ⟨w, by rw [upd_ne hbp]; exact hb⟩
theorem g_cel {o i : Expr} (ho : PE X o (trE X.K me)) (hi : PE X i (trE X.K mi))
    (ha : ∀ v, assign (.Subscript o i pos) X.env v = (do
      let ov ← holding [v] (eval o X.env)
      let iv ← holding [v, ov] (eval i X.env)
      standAt pos
      holding [v, ov, iv] (setItem ov iv v)
      release [v, ov, iv] []) := by intro _; rfl) : PG X (.Subscript o i pos) (trG X.K (gCel me mi)) := PG.imp (pg_sub ho hi set_list ha) fun v σ H Q ⟨g, e, s, d, e', s', R, E, r, hm, k⟩ => by
  unfold gCel at hm
  split at hm
  · rename_i n s1 h1
    split at hm
    · rename_i kk s2 h2
      split at hm
      · rename_i ds h3
        split at hm
        · rename_i j h4
          cases hm
          refine ⟨g, e, s, _, s1, R, E, h1, fun ov g1 H1 st1 ro => ⟨g1, e, s1, _, s2, st1.rel, E.step st1, h2, fun iv g2 H2 st2 ri => ?_⟩⟩
          cases ri
          have st := st1.trans st2
          cases ro with
          | cel hp =>
            have hp2 := st2.le.ad _ _ hp
            obtain ⟨b, q1, q2, vs, q3, q4⟩ := st2.rel.cell n _ h3
            rw [hp2] at q1; cases q1
            refine ⟨_, vs, kk, j, rfl, rfl, q3, by rw [q4.length]; exact h4, ?_⟩
            have hn : n < s2.length := (List.getElem?_eq_some_iff.mp h3).1
            refine k _ _ _ ((st.S E).trans (cel_step st2.rel (E.step st) hp2 hn fun g' L => ⟨_, upd_same, ?_⟩))
            exact ((q4.set (r.mono st.le) j)).mono L
        · cases hm
      · cases hm
    · cases hm
  · cases hm
/-- target = value -/
def sAsg (mg : MG) (m : ME) : MS := fun e s => bndS (m e s) fun d s => match mg d e s with
  | some (e', s') => some (.nx, e', s')
  | none => none
theorem s_asg {tg : Expr} (h : PE X a (trE X.K me)) (hg : PG X tg (trG X.K mg)) (hs : swapsWithSole [tg] a pos.line X.env = pure false := by rfl) (hw : swappedStores [tg] a X.env = pure none := by rfl)
    (h1 : (assignEach [tg] X.env).map (·.2) = [assign tg X.env] := by rfl) : PS X (.Assign [tg] a pos) (trS X.K (sAsg mg me)) := PS.imp (ps_asg h hg hs hw h1) fun Dn σ H ⟨g, e, s, f, e', s', R, E, hm, k⟩ => by
  obtain ⟨d, s1, h2, hm1⟩ := bndS_some hm
  split at hm1
  · rename_i e2 s2 h3
    cases hm1
    exact ⟨g, e, s, d, s1, R, E, h2, fun v g1 H1 st1 rv => ⟨g1, e, s1, d, _, _, st1.rel, E.step st1, rv, h3, fun g2 H2 σ2 st2 => k _ _ _ ((st1.S E).trans st2)⟩⟩
  · cases hm1
/-! ### a, b = .. stored from the right; some of the values new objects -/
abbrev MX := EnvD → S → Option (List Sl × S)
def OwnX (vs : List V) (sl : List Sl) (b : Addr) : Prop := ∃ (j : Nat) (d : D), sl[j]? = some (Sl.own d) ∧ vs[j]? = some (V.ref b)
inductive RepX (K : PySem.W.Frag) (g : G) (H0 H : Hp) : List V → List Sl → Prop
  | nil : RepX K g H0 H [] []
  | val {v d vs sl} : Rep K g v d → RepX K g H0 H vs sl → RepX K g H0 H (v :: vs) (.val d :: sl)
  | own {a d vs sl} : H0 a = none → g.F a = none → a ∉ g.ad → OwnAt K g H a d → ¬ OwnX vs sl a → RepX K g H0 H vs sl → RepX K g H0 H (.ref a :: vs) (.own d :: sl)
theorem RepX.fresh {g : G} {H0 H : Hp} : ∀ {vs : List V} {sl : List Sl} {b : Addr}, RepX K g H0 H vs sl → OwnX vs sl b → H0 b = none
  | _, _, _, .nil, ⟨j, d, h1, _⟩ => by simp at h1
  | _, _, _, .val _ r, ⟨0, d, h1, _⟩ => by simp at h1
  | _, _, _, .val _ r, ⟨j + 1, d, h1, h2⟩ => RepX.fresh r ⟨j, d, by simpa using h1, by simpa using h2⟩
  | _, _, _, .own h _ _ _ _ r, ⟨0, d, h1, h2⟩ => by simp at h2; rw [← h2]; exact h
  | _, _, _, .own h _ _ _ _ r, ⟨j + 1, d, h1, h2⟩ => RepX.fresh r ⟨j, d, by simpa using h1, by simpa using h2⟩
theorem RepX.base {g : G} {H0 H1 H : Hp} (h : ∀ b, H1 b = none → H0 b = none) : ∀ {vs : List V} {sl : List Sl}, RepX K g H1 H vs sl → RepX K g H0 H vs sl
  | _, _, .nil => .nil
  | _, _, .val h1 r => .val h1 (RepX.base h r)
  | _, _, .own h1 h2 h3 h4 h5 r => .own (h _ h1) h2 h3 h4 h5 (RepX.base h r)
theorem RepX.up {g : G} {H0 H H' : Hp} (h : ∀ a u, H a = some u → H' a = some u) : ∀ {vs : List V} {sl : List Sl}, RepX K g H0 H vs sl → RepX K g H0 H' vs sl
  | _, _, .nil => .nil
  | _, _, .val h1 r => .val h1 (RepX.up h r)
  | _, _, .own h1 h2 h3 h4 h5 r => .own h1 h2 h3 (h4.mono .refl fun u hu => h _ u hu) h5 (RepX.up h r)
def trX (K : PySem.W.Frag) (m : MX) : TA := fun σ H Q => ∃ g e s ds s', SRel K g H s ∧ EnvRel K g H σ e ∧ m e s = some (ds, s') ∧ ∀ vs g' H', Step K g H g' H' s' → RepX K g' H H' vs ds → Q vs H'
def xNil : MX := fun _ s => some ([], s)
def xVal (m : ME) (mx : MX) : MX := fun e s => bnd (m e s) fun d s => bnd (mx e s) fun ds s => some (.val d :: ds, s)
def xOwn (m : ME) (mx : MX) : MX := fun e s => bnd (m e s) fun d s => bnd (mx e s) fun ds s => some (.own d :: ds, s)
variable {es : List Expr} {mx : MX}
theorem x_nil : PA X [] (trX X.K xNil) := PA.imp pa_nil fun σ H Q ⟨g, e, s, ds, s', R, E, hm, k⟩ => by
  cases hm
  exact k _ _ _ (.refl R) .nil
theorem x_val (h : PE X a (trE X.K me)) (ha : PA X es (trX X.K mx)) (hs : starEach (a :: es) X.env = (false, eval a X.env) :: starEach es X.env := by rfl) : PA X (a :: es) (trX X.K (xVal me mx)) := PA.imp (pa_cons h ha hs) fun σ H Q ⟨g, e, s, ds, s', R, E, hm, k⟩ => by
  obtain ⟨d, s1, h1, hm1⟩ := bnd_some hm
  obtain ⟨xs, s2, h2, hm2⟩ := bnd_some hm1
  cases hm2
  exact ⟨g, e, s, d, s1, R, E, h1, fun x g1 H1 st1 rx => ⟨g1, e, s1, xs, _, st1.rel, E.step st1, h2, fun vs g2 H2 st2 rv => k _ g2 H2 (st1.trans st2) (.val (rx.mono st2.le) (rv.base fun b hb => st1.noneOf hb))⟩⟩
theorem x_own (h : PE X a (trF X.K me)) (ha : PA X es (trX X.K mx)) (hs : starEach (a :: es) X.env = (false, eval a X.env) :: starEach es X.env := by rfl) : PA X (a :: es) (trX X.K (xOwn me mx)) := PA.imp (pa_cons h ha hs) fun σ H Q ⟨g, e, s, ds, s', R, E, hm, k⟩ => by
  obtain ⟨d, s1, h1, hm1⟩ := bnd_some hm
  obtain ⟨xs, s2, h2, hm2⟩ := bnd_some hm1
  cases hm2
  refine ⟨g, e, s, d, s1, R, E, h1, fun p g1 H1 st1 hn hf hc o => ⟨g1, e, s1, xs, _, st1.rel, E.step st1, h2, fun vs g2 H2 st2 rv => ?_⟩⟩
  obtain ⟨u, hu⟩ := o.has
  have hf2 : g2.F p = none := by
    cases q : g2.F p with
    | none => rfl
    | some w =>
      rcases st2.new p w q with z | z
      · rw [hf] at z; cases z
      · exact (z.own o).elim
  have hc2 : p ∉ g2.ad := fun z => by
    rcases st2.newc p z with z | z
    · exact hc z
    · rw [hu] at z; cases z
  refine k _ g2 H2 (st1.trans st2) (.own hn hf2 hc2 (o.mono st2.le fun w hw => st2.keep p w hw hc) (fun z => ?_) (rv.base fun b hb => st1.noneOf hb))
  have := rv.fresh z
  rw [hu] at this; cases this
/-- one more slot is given what is new -/
theorem StepS.own {g g1 : G} {H H1 : Hp} {σ σ1 : L2.St} {e e1 : EnvD} {s1 : S} (x : StepS K g H σ e g1 H1 σ1 e1 s1) {i : Nat} {p : Addr} {d : D} (hn : H p = none) (hf : g1.F p = none) (hc : p ∉ g1.ad) (o : OwnAt K g1 H1 p d) (ho : ¬ OwnA σ1 e1 p) : StepS K g H σ e g1 H1 (σ1.set i (some (.ref p))) (e1.set i (.own d)) s1 := by
  refine ⟨x.rel, own_slot x.rel x.env hf hc o (fun j d' h1 h2 => ho ⟨j, d', h1, h2⟩), x.le, x.new, x.newc, fun a u h ha hoa => ?_, x.has⟩
  obtain ⟨q1, q2⟩ := x.keep a u h ha hoa
  refine ⟨q1, fun ⟨j, d', h1, h2⟩ => ?_⟩
  by_cases hj : i = j
  · subst hj
    have hl : i < e1.length := by
      have := (List.getElem?_eq_some_iff.mp h1).1
      simpa using this
    rw [List.getElem?_set_self (by rw [← x.env.len]; exact hl)] at h2
    cases h2
    rw [hn] at h; cases h
  · rw [List.getElem?_set_ne hj] at h1 h2
    exact q2 ⟨j, d', h1, h2⟩
def setX : List Nat → List Sl → EnvD → EnvD
  | i :: is, x :: xs, e => setX is xs (e.set i x)
  | _, _, e => e
def setV : List Nat → List V → L2.St → L2.St
  | i :: is, v :: vs, σ => setV is vs (σ.set i (some v))
  | _, _, σ => σ
theorem own_set_iff {σ1 : L2.St} {e1 : EnvD} {i : Nat} {v : V} {x : Sl} {b : Addr} (hl : e1.length = σ1.length) (h : OwnA (σ1.set i (some v)) (e1.set i x) b) : (v = .ref b ∧ ∃ d, x = .own d) ∨ OwnA σ1 e1 b := by
  obtain ⟨j, d', h1, h2⟩ := h
  by_cases hj : i = j
  · subst hj
    have hi : i < e1.length := by
      have := (List.getElem?_eq_some_iff.mp h1).1
      simpa using this
    rw [List.getElem?_set_self hi] at h1
    rw [List.getElem?_set_self (by rw [← hl]; exact hi)] at h2
    cases h1; cases h2
    exact .inl ⟨rfl, _, rfl⟩
  · rw [List.getElem?_set_ne hj] at h1 h2
    exact .inr ⟨j, d', h1, h2⟩
theorem StepS.placeX {g g1 : G} {H H1 : Hp} {σ : L2.St} {e : EnvD} {s1 : S} : ∀ {is : List Nat} {vs : List V} {sl : List Sl} {σ1 : L2.St} {e1 : EnvD}, StepS K g H σ e g1 H1 σ1 e1 s1 → RepX K g1 H H1 vs sl → (∀ b, OwnX vs sl b → ¬ OwnA σ1 e1 b) → StepS K g H σ e g1 H1 (setV is vs σ1) (setX is sl e1) s1
  | [], _, _, _, _, x, _, _ => by simpa [setV, setX] using x
  | i :: is, _, _, _, _, x, .nil, _ => by simpa [setV, setX] using x
  | i :: is, _, _, _, _, x, .val h r, n => by
    refine StepS.placeX (is := is) (x.trans (set_slot x.rel x.env h)) r fun b hb ho => ?_
    rcases own_set_iff x.env.len ho with ⟨_, d, z⟩ | z
    · cases z
    · obtain ⟨j, d, q1, q2⟩ := hb
      exact n b ⟨j + 1, d, by simpa using q1, by simpa using q2⟩ z
  | i :: is, _, _, _, _, x, .own h1 h2 h3 h4 h5 r, n => by
    have n0 := n _ ⟨0, _, rfl, rfl⟩
    refine StepS.placeX (is := is) (x.own h1 h2 h3 h4 n0) r fun b hb ho => ?_
    rcases own_set_iff x.env.len ho with ⟨z, _⟩ | z
    · cases z
      exact h5 hb
    · obtain ⟨j, d, q1, q2⟩ := hb
      exact n b ⟨j + 1, d, by simpa using q1, by simpa using q2⟩ z
def sPar (is : List Nat) (m : MX) : MS := fun e s => bndS (m e s) fun sl s => if sl.length = is.length then some (.nx, setX is sl e, s) else none
theorem RepX.length {g : G} {H0 H : Hp} : ∀ {vs : List V} {sl : List Sl}, RepX K g H0 H vs sl → vs.length = sl.length
  | _, _, .nil => rfl
  | _, _, .val _ r => by simp [RepX.length r]
  | _, _, .own _ _ _ _ _ r => by simp [RepX.length r]
theorem trS_par {is : List Nat} {Dn : Ends} {σ : L2.St} {H : Hp} (h : trS K (sPar is mx) Dn σ H) : trX K mx σ H (fun vs H1 => vs.length = is.length ∧ Dn.nx (setV is vs σ) H1) := by
  obtain ⟨g, e, s, f, e', s', R, E, hm, k⟩ := h
  obtain ⟨sl, s1, h1, hm1⟩ := bndS_some hm
  split at hm1
  · rename_i hl
    cases hm1
    refine ⟨g, e, s, sl, _, R, E, h1, fun vs g1 H1 st1 rv => ⟨by rw [rv.length]; exact hl, ?_⟩⟩
    refine k g1 H1 _ ((st1.S E).placeX rv fun b hb ho => ?_)
    have hn := rv.fresh hb
    obtain ⟨i, d, q1, q2⟩ := ho
    obtain ⟨b', q3, _, _, q4⟩ := E.own i d q1
    rw [q2] at q3; cases q3
    obtain ⟨u, hu⟩ := q4.has
    rw [hn] at hu; cases hu
  · cases hm1
theorem s_par2 {i j : Nat} {x y : Str} {a b : Expr} {px py pt : Pos} {kt k2 pt2} (hc : X.calm = true) (hN : X.N.Nodup) (hi : X.N[i]? = some x) (hj : X.N[j]? = some y) (hij : i ≠ j)
    (hx : X.env.scope.names.lookup x = some .local) (hy : X.env.scope.names.lookup y = some .local) (ha : PA X [a, b] (trX X.K mx))
    (hw : swappedStores [.Tuple [.Name x px, .Name y py] kt pt] (.Tuple [a, b] k2 pt2) X.env = pure (some [x, y]))
    (hs : swapsWithSole [.Tuple [.Name x px, .Name y py] kt pt] (.Tuple [a, b] k2 pt2) pos.line X.env = pure false := by rfl) :
    PS X (.Assign [.Tuple [.Name x px, .Name y py] kt pt] (.Tuple [a, b] k2 pt2) pos) (trS X.K (sPar [i, j] mx)) := PS.imp (ps_par hc hN hi hj hij hx hy ha hw hs) fun Dn σ H h => by
  obtain ⟨g, e, s, ds, s', R, E, hm, k⟩ := trS_par h
  refine ⟨g, e, s, ds, s', R, E, hm, fun vs g' H' st rv => ?_⟩
  obtain ⟨hl, hk⟩ := k vs g' H' st rv
  match vs, hl with
  | [v, w], _ => exact ⟨v, w, rfl, hk⟩
theorem s_par3 {i j l : Nat} {x y z : Str} {a b c : Expr} {px py pz pt : Pos} {kt k2 pt2} (hc : X.calm = true) (hN : X.N.Nodup) (hi : X.N[i]? = some x) (hj : X.N[j]? = some y) (hl : X.N[l]? = some z) (hij : i ≠ j) (hil : i ≠ l) (hjl : j ≠ l)
    (hx : X.env.scope.names.lookup x = some .local) (hy : X.env.scope.names.lookup y = some .local) (hz : X.env.scope.names.lookup z = some .local) (ha : PA X [a, b, c] (trX X.K mx))
    (hw : swappedStores [.Tuple [.Name x px, .Name y py, .Name z pz] kt pt] (.Tuple [a, b, c] k2 pt2) X.env = pure (some [x, y, z]))
    (hs : swapsWithSole [.Tuple [.Name x px, .Name y py, .Name z pz] kt pt] (.Tuple [a, b, c] k2 pt2) pos.line X.env = pure false := by rfl) :
    PS X (.Assign [.Tuple [.Name x px, .Name y py, .Name z pz] kt pt] (.Tuple [a, b, c] k2 pt2) pos) (trS X.K (sPar [i, j, l] mx)) := PS.imp (ps_par3 hc hN hi hj hl hij hil hjl hx hy hz ha hw hs) fun Dn σ H h => by
  obtain ⟨g, e, s, ds, s', R, E, hm, k⟩ := trS_par h
  refine ⟨g, e, s, ds, s', R, E, hm, fun vs g' H' st rv => ?_⟩
  obtain ⟨hl, hk⟩ := k vs g' H' st rv
  match vs, hl with
  | [v, w, u], _ => exact ⟨v, w, u, rfl, hk⟩
/-- several names, by a tuple -/
inductive Nms (X : Cx) : List Expr → List Nat → Prop
  | nil : Nms X [] []
  | cons {x pos es i is} : X.N[i]? = some x → Loc X.env.scope x → (X.fn x = true ∨ X.env.scope.names.lookup x = some .local) → Nms X es is → Nms X (.Name x pos :: es) (i :: is)
def gNames : List Nat → TGs
  | [] => gNil
  | i :: is => gCons (gName i) (gNames is)
theorem gs_names (hN : X.N.Nodup) : ∀ {es : List Expr} {is : List Nat}, Nms X es is → PGs X es (gNames is)
  | _, _, .nil => pgs_nil
  | _, _, .cons h1 h2 h3 r => pgs_cons (pg_name hN h1 h2 h3) (gs_names hN r)
theorem gNames_setV : ∀ {is : List Nat} {vs : List V} {σ : L2.St} {H : Hp} {Q : L2.St → Hp → Prop}, vs.length = is.length → Q (setV is vs σ) H → gNames is vs σ H Q
  | [], [], _, _, _, _, q => ⟨rfl, q⟩
  | i :: is, v :: vs, _, _, _, h, q => ⟨v, vs, rfl, gNames_setV (by simpa using h) q⟩
theorem s_parN {es ts : List Expr} {is : List Nat} {kt k2 : Nat} {pt pt2 : Pos} (hc : X.calm = true) (hN : X.N.Nodup) (hn : Nms X ts is) (ha : PA X es (trX X.K mx)) (hz : is.length ≤ 100)
    (hw : swappedStores [.Tuple ts kt pt] (.Tuple es k2 pt2) X.env = pure none := by rfl) (hs : swapsWithSole [.Tuple ts kt pt] (.Tuple es k2 pt2) pos.line X.env = pure false := by rfl)
    (h1 : (assignEach [.Tuple ts kt pt] X.env).map (·.2) = [assign (.Tuple ts kt pt) X.env] := by rfl) (hln : (assignEach ts X.env).length = is.length := by rfl) (hst : (assignEach ts X.env).findIdx? (·.1) = none := by rfl) :
    PS X (.Assign [.Tuple ts kt pt] (.Tuple es k2 pt2) pos) (trS X.K (sPar is mx)) := PS.imp (ps_asg (pe_tup ha) (pg_tup hc (gs_names hN hn) hln hst) hs hw h1) fun Dn σ H h => by
  obtain ⟨g, e, s, f, e', s', R, E, hm, k⟩ := h
  obtain ⟨sl, s1, q1, hm1⟩ := bndS_some hm
  split at hm1
  · rename_i hl
    cases hm1
    refine ⟨g, e, s, sl, _, R, E, q1, fun vs g1 H1 st1 rv => ⟨by rw [rv.length, hl]; rw [sizeLine_eq]; omega, fun p hp => ?_⟩⟩
    refine ⟨p, vs, rfl, SqT.of upd_same, by rw [rv.length]; exact hl, gNames_setV (by rw [rv.length]; exact hl) ?_⟩
    -- the tuple itself is no value of ours
    have hkp : ∀ a w, H1 a = some w → upd H1 p (.tup vs) a = some w := fun a w q => by rw [upd_ne (ne_of_none q hp)]; exact q
    have st2 : Step _ g1 H1 g1 (upd H1 p (.tup vs)) _ := ⟨⟨fun a w q => by
        rcases st1.rel.sub a w q with z | ⟨z1, o, z⟩
        · exact .inl (hkp _ _ z)
        · exact .inr ⟨z1, o, hkp _ _ z⟩, st1.rel.len, fun n c q => by
        obtain ⟨a, w1, w2, w3⟩ := st1.rel.cell n c q
        exact ⟨a, w1, w2, w3.mono .refl fun u hu => hkp _ _ hu⟩, st1.rel.inj⟩, .refl, fun _ _ h => .inl h, fun _ h => .inl h, fun a w q _ => hkp a w q⟩
    have rv2 : RepX X.K g1 H (upd H1 p (.tup vs)) vs sl := rv.up hkp
    refine k g1 _ _ (((st1.trans st2).S E).placeX rv2 fun b hb ho => ?_)
    have hn := rv2.fresh hb
    obtain ⟨i, d, w1, w2⟩ := ho
    obtain ⟨b', w3, _, _, w4⟩ := E.own i d w1
    rw [w2] at w3; cases w3
    obtain ⟨u, hu⟩ := w4.has
    rw [hn] at hu; cases hu
  · cases hm1
end
end Z

set_option Elab.async false
set_option linter.all false
set_option maxRecDepth 100000
set_option maxHeartbeats 4000000
namespace Z
open PySem PySem.Spec PyProof.Rows L2
/-! ### borrowed: an owned slot read as a value, then owned again; what comes back holds no list -/
mutual
def noL : D → Bool
  | .non => true | .bl _ => true | .int _ => true | .str _ => true | .cel _ => true | .ty _ => true
  | .tup ds => noLs ds
  | _ => false
def noLs : List D → Bool
  | [] => true
  | d :: ds => noL d && noLs ds
end
def G.unf (g : G) (a : Addr) : G := ⟨fun b => if b = a then none else g.F b, g.ad⟩
def NoTup : HO → Prop
  | .lst _ => True | .dK _ => True | .ins _ _ _ => True | _ => False
section
variable {K : PySem.W.Frag} {g g' : G}
theorem unf_F {a b : Addr} {u : HO} (h : g.F b = some u) (n : b ≠ a) : (g.unf a).F b = some u := by
  show (if b = a then none else g.F b) = _
  rw [if_neg n]; exact h
theorem unf_some {a b : Addr} {u : HO} (h : (g.unf a).F b = some u) : g.F b = some u ∧ b ≠ a := by
  have h : (if b = a then none else g.F b) = some u := h
  by_cases q : b = a
  · rw [if_pos q] at h; cases h
  · rw [if_neg q] at h; exact ⟨h, q⟩
theorem rd_unf {a b : Addr} {u w : HO} (ha : g.F a = some w) (hw : NoTup w) (h : Rd g.F b (.tup vs)) : Rd (g.unf a).F b (.tup vs) := by
  have n : ∀ u, g.F b = some u → ¬ NoTup u → b ≠ a := fun u q z e => by subst e; rw [ha] at q; cases q; exact z hw
  rcases h with h | ⟨o, h⟩
  · exact .inl (unf_F h (n _ h (fun z => z)))
  · exact .inr ⟨o, unf_F h (n _ h (fun z => z))⟩
mutual
theorem Rep.unf {a : Addr} {w : HO} (ha : g.F a = some w) (hw : NoTup w) : ∀ {v d}, Rep K g v d → noL d = true → Rep K (g.unf a) v d
  | _, _, .non, _ => .non
  | _, _, .bl b, _ => .bl b
  | _, _, .int i, _ => .int i
  | _, _, .str x, _ => .str x
  | _, _, .tup (vs := vs) (ds := ds) h r, q => .tup (h.elim (fun z => .inl (rd_unf (u := w) ha hw z)) .inr) (RepL.unf ha hw r (by simpa [noL] using q))
  | _, _, .lst h r, q => by simp [noL] at q
  | _, _, .dic h r, q => by simp [noL] at q
  | _, _, .obj h r, q => by simp [noL] at q
  | _, _, .cel h, _ => .cel h
  | _, _, .ty c, _ => .ty c
  | _, _, .opq v, q => by simp [noL] at q
theorem RepL.unf {a : Addr} {w : HO} (ha : g.F a = some w) (hw : NoTup w) : ∀ {v d}, RepL K g v d → noLs d = true → RepL K (g.unf a) v d
  | _, _, .nil, _ => .nil
  | _, _, .cons h r, q => by
    simp only [noLs, Bool.and_eq_true] at q
    exact .cons (Rep.unf ha hw h q.1) (RepL.unf ha hw r q.2)
end
theorem RepK.unf {a : Addr} {w : HO} (ha : g.F a = some w) (hw : NoTup w) : ∀ {v d}, RepK K g v d → d.all (fun p => noL p.2) = true → RepK K (g.unf a) v d
  | _, _, .nil, _ => .nil
  | _, _, .cons h r, q => by
    simp only [List.all_cons, Bool.and_eq_true] at q
    exact .cons (Rep.unf ha hw h q.1) (RepK.unf ha hw r q.2)
theorem RepF.unf {a : Addr} {w : HO} (ha : g.F a = some w) (hw : NoTup w) : ∀ {v d}, RepF K g v d → d.all (fun p => noL p.2) = true → RepF K (g.unf a) v d
  | _, _, .nil, _ => .nil
  | _, _, .cons h r, q => by
    simp only [List.all_cons, Bool.and_eq_true] at q
    exact .cons (Rep.unf ha hw h q.1) (RepF.unf ha hw r q.2)
/-- content that holds no list -/
def noC : D → Bool
  | .lst ds => noLs ds
  | .dic kvs => kvs.all fun p => noL p.2
  | .obj _ fs => fs.all fun p => noL p.2
  | _ => true
theorem OwnAt.unf {H : Hp} {a b : Addr} {w : HO} {d : D} (ha : g.F a = some w) (hw : NoTup w) (h : OwnAt K g H b d) (q : noC d = true) : OwnAt K (g.unf a) H b d := by
  cases d with
  | lst ds => obtain ⟨vs, h, r⟩ := h; exact ⟨vs, h, r.unf ha hw (by simpa [noC] using q)⟩
  | dic ds => obtain ⟨vs, h, r⟩ := h; exact ⟨vs, h, r.unf ha hw (by simpa [noC] using q)⟩
  | obj c ds => obtain ⟨dx, vs, h, r⟩ := h; exact ⟨dx, vs, h, r.unf ha hw (by simpa [noC] using q)⟩
  | _ => exact h.elim
theorem OwnAt.noTup {H : Hp} {a : Addr} {d : D} {u : HO} (h : OwnAt K g H a d) (hu : H a = some u) : NoTup u := by
  cases d with
  | lst ds => obtain ⟨vs, h, r⟩ := h; rw [h] at hu; cases hu; trivial
  | dic ds => obtain ⟨vs, h, r⟩ := h; rw [h] at hu; cases hu; trivial
  | obj c ds => obtain ⟨dx, vs, h, r⟩ := h; rw [h] at hu; cases hu; trivial
  | _ => exact h.elim
theorem OwnC.unf {H : Hp} {a b : Addr} {w : HO} {d : D} (ha : g.F a = some w) (hw : NoTup w) (h : OwnC K g H b d) (q : noC d = true) : OwnC K (g.unf a) H b d := by
  cases d with
  | ty q =>
    obtain ⟨ps, h, h1, h2⟩ := h
    refine ⟨ps, h, h1, fun pos cv q => ?_⟩
    obtain ⟨c, z1, z2⟩ := h2 pos cv q
    refine ⟨c, z1, ?_⟩
    have n : c ≠ a := fun z => by
      subst z
      rw [ha] at z2; cases z2
      exact hw
    exact unf_F z2 n
  | tup q => obtain ⟨ps, h, h1, h2⟩ := h; exact ⟨ps, h, h1, h2⟩
  | lst ds => exact OwnAt.unf (d := .lst ds) ha hw h q
  | dic ds => exact OwnAt.unf (d := .dic ds) ha hw h q
  | obj c ds => exact OwnAt.unf (d := .obj c ds) ha hw h q
  | _ => exact (h : False).elim
/-- the owned slot at a was frozen for the step: no more -/
theorem Step.unf {H H' : Hp} {s' : Z.S} {a : Addr} {u : HO} (hf : g.F a = none) (hw : NoTup u) (x : Step K (g.frz a u) H g' H' s') (hs : s'.all noC = true) : Step K g H (g'.unf a) H' s' ∧ g'.F a = some u := by
  have ha : g'.F a = some u := x.le.F a u upd_same
  refine ⟨⟨⟨fun b w q => x.rel.sub b w (unf_some q).1, x.rel.len, fun n c q => ?_, x.rel.inj⟩, ⟨fun b w q => ?_, fun n b q => x.le.ad n b q⟩, fun b w q => ?_, x.newc, x.keep⟩, ha⟩
  · obtain ⟨b, h1, h2, h3⟩ := x.rel.cell n c q
    refine ⟨b, h1, ?_, h3.unf ha hw (List.all_eq_true.mp hs c (List.mem_iff_getElem?.mpr ⟨n, q⟩))⟩
    show (if b = a then none else g'.F b) = none
    by_cases z : b = a
    · rw [if_pos z]
    · rw [if_neg z]; exact h2
  · have n : b ≠ a := fun z => by subst z; rw [hf] at q; cases q
    refine unf_F (x.le.F b w ?_) n
    show upd g.F a u b = some w
    rw [upd_ne n]; exact q
  · obtain ⟨q1, n⟩ := unf_some q
    rcases x.new b w q1 with z | z
    · have z : upd g.F a u b = some w := z
      rw [upd_ne n] at z
      exact .inl z
    · exact .inr z
end
def mBor (i : Nat) (m : ME) : ME := fun e s => bnd (m (frzE i e) s) fun d s' => match noL d && s'.all noC with
  | true => some (d, s')
  | false => none
def tBor (i : Nat) (m : MT) : MT := fun e s => bnd (m (frzE i e) s) fun d s' => match s'.all noC with
  | true => some (d, s')
  | false => none
def fBor (i : Nat) (m : ME) : ME := fun e s => bnd (m (frzE i e) s) fun d s' => match noC d && s'.all noC with
  | true => some (d, s')
  | false => none
section
variable {X : Cx} {K : PySem.W.Frag} {m : ME} {mt : MT} {a : Expr}
/-- freeze at slot i, or nothing to do -/
theorem frz_case {g : G} {H : Hp} {σ : L2.St} {e : EnvD} {s : S} (R : SRel K g H s) (E : EnvRel K g H σ e) (i : Nat) :
    (frzE i e = e) ∨ ∃ (b : Addr) (u : HO), g.F b = none ∧ NoTup u ∧ SRel K (g.frz b u) H s ∧ EnvRel K (g.frz b u) H σ (frzE i e) := by
  by_cases hh : ∃ d, e[i]? = some (Sl.own d)
  · obtain ⟨d, h⟩ := hh
    have hfe : frzE i e = e.set i (.val d) := by unfold frzE; rw [h]
    obtain ⟨b, h1, h2, h3, h4⟩ := E.own i d h
    obtain ⟨u, h5, h6, _⟩ := h4.frozen h2
    refine .inr ⟨b, u, h2, h4.noTup h5, R.frz h5 h2 h3, ?_⟩
    rw [hfe]
    have L : GLe g (g.frz b u) := .frz h2
    have hl : i < e.length := (List.getElem?_eq_some_iff.mp h).1
    have hs : ∀ {j : Nat} {x : Sl}, (e.set i (.val d))[j]? = some x → (i = j ∧ x = .val d) ∨ (i ≠ j ∧ e[j]? = some x) := fun {j x} h => by
      by_cases hj : i = j
      · subst hj
        rw [List.getElem?_set_self hl] at h
        cases h
        exact .inl ⟨rfl, rfl⟩
      · rw [List.getElem?_set_ne hj] at h
        exact .inr ⟨hj, h⟩
    refine ⟨by simp [E.len], fun j d' h' => ?_, fun j d' h' => ?_, fun j k d1 d2 c q1 q2 q3 q4 => ?_⟩
    · rcases hs h' with ⟨hj, z⟩ | ⟨hj, z⟩
      · cases z; subst hj; exact ⟨_, h1, h6⟩
      · obtain ⟨v, w1, w2⟩ := E.val j d' z; exact ⟨v, w1, w2.mono L⟩
    · rcases hs h' with ⟨hj, z⟩ | ⟨hj, z⟩
      · cases z
      · obtain ⟨c, w1, w2, w3, w4⟩ := E.own j d' z
        refine ⟨c, w1, ?_, w3, w4.mono L fun _ q => q⟩
        show upd g.F b u c = none
        rw [upd_ne fun w => ?_]
        · exact w2
        · subst w; exact hj (E.apart i j d d' c h z h1 w1)
    · rcases hs q1 with ⟨hj, z⟩ | ⟨hj, z⟩
      · cases z
      · rcases hs q2 with ⟨hk, z'⟩ | ⟨hk, z'⟩
        · cases z'
        · exact E.apart j k d1 d2 c z z' q3 q4
  · refine .inl ?_
    unfold frzE
    split
    · rename_i d h; exact absurd ⟨d, h⟩ hh
    · rfl
theorem d_bor (i : Nat) (h : PE X a (trE X.K m)) : PE X a (trE X.K (mBor i m)) := PE.imp h fun σ H Q ⟨g, e, s, d, s', R, E, hm, k⟩ => by
  obtain ⟨d1, s1, h1, hm1⟩ := bnd_some hm
  split at hm1
  · rename_i hb
    cases hm1
    simp only [Bool.and_eq_true] at hb
    rcases frz_case R E i with he | ⟨b, u, hf, hw, R', E'⟩
    · rw [he] at h1
      exact ⟨g, e, s, _, _, R, E, h1, k⟩
    · refine ⟨_, _, s, _, _, R', E', h1, fun v g' H' st rv => ?_⟩
      obtain ⟨st', ha⟩ := st.unf hf hw hb.2
      exact k v _ H' st' (rv.unf ha hw hb.1)
  · cases hm1
theorem t_bor (i : Nat) (h : PT X a (trT X.K mt)) : PT X a (trT X.K (tBor i mt)) := PT.imp h fun σ H Q ⟨g, e, s, d, s', R, E, hm, k⟩ => by
  obtain ⟨d1, s1, h1, hm1⟩ := bnd_some hm
  split at hm1
  · rename_i hb
    cases hm1
    rcases frz_case R E i with he | ⟨b, u, hf, hw, R', E'⟩
    · rw [he] at h1
      exact ⟨g, e, s, _, _, R, E, h1, k⟩
    · refine ⟨_, _, s, _, _, R', E', h1, fun g' H' st => ?_⟩
      obtain ⟨st', ha⟩ := st.unf hf hw hb
      exact k _ H' st'
  · cases hm1
end
/-! ### what is walked -/
structure ItD (K : PySem.W.Frag) (J : It) (g : G) (ds : List D) : Prop where
  go : ∀ (g' : G) (H : Hp) (s : S) (i : Nat), SRel K g' H s → GLe g g' → i < ds.length → J.go i H
  stop : ∀ (g' : G) (H : Hp) (s : S), SRel K g' H s → GLe g g' → J.stop ds.length H
  yld : ∀ (g' : G) (H : Hp) (s : S) (i : Nat) (x : V) (H' : Hp) (d : D), SRel K g' H s → GLe g g' → ds[i]? = some d → J.yld i H x H' → ∃ g'', Step K g' H g'' H' s ∧ Rep K g'' x d
abbrev MI := EnvD → S → Option (List D × S)
def trI (K : PySem.W.Frag) (m : MI) : TI := fun σ H R => ∃ g e s ds s', SRel K g H s ∧ EnvRel K g H σ e ∧ m e s = some (ds, s') ∧ ∀ J g' H', Step K g H g' H' s' → ItD K J g' ds → R J H'
section
variable {X : Cx} {K : PySem.W.Frag} {a b tg : Expr} {m : ME} {ma : MA} {p pos tpos : Pos}
theorem itd_lst {g : G} {a : Addr} {vs : List V} {ds : List D} (h : Rd g.F a (.lst vs)) (r : RepL K g vs ds) : ItD K (Itl K a) g ds := by
  have hq : ∀ (g' : G) (H : Hp) (s : S), SRel K g' H s → GLe g g' → SqL K H a vs := fun g' H s R L => .inl (rd_H R (rd_mono L.F h))
  refine ⟨fun g' H s i R L hi => ?_, fun g' H s R L => ⟨vs, hq g' H s R L, by rw [r.length]; exact Nat.le_refl _⟩, fun g' H s i x H' d R L hd y => ?_⟩
  · have hi' : i < vs.length := by rw [r.length]; exact hi
    exact ⟨vs, vs[i], hq g' H s R L, List.getElem?_eq_getElem hi'⟩
  · obtain ⟨e, y⟩ := y
    subst e
    have hx := y vs (hq g' _ s R L)
    obtain ⟨v, h1, h2⟩ := r.get hd
    rw [hx] at h1; cases h1
    exact ⟨g', .refl R, h2.mono L⟩
theorem itd_tup {g : G} {a : Addr} {vs : List V} {ds : List D} (h : SqT K g.F a vs) (r : RepL K g vs ds) : ItD K (Itt K a) g ds := by
  have hq : ∀ (g' : G) (H : Hp) (s : S), SRel K g' H s → GLe g g' → SqT K H a vs := fun g' H s R L => sqT_H R (sqT_mono L.F h)
  refine ⟨fun g' H s i R L hi => ?_, fun g' H s R L => ⟨vs, hq g' H s R L, by rw [r.length]; exact Nat.le_refl _⟩, fun g' H s i x H' d R L hd y => ?_⟩
  · have hi' : i < vs.length := by rw [r.length]; exact hi
    exact ⟨vs, vs[i], hq g' H s R L, List.getElem?_eq_getElem hi'⟩
  · obtain ⟨e, y⟩ := y
    subst e
    have hx := y vs (hq g' _ s R L)
    obtain ⟨v, h1, h2⟩ := r.get hd
    rw [hx] at h1; cases h1
    exact ⟨g', .refl R, h2.mono L⟩
def rngD (lo : Int) (n : Nat) : List D := (List.range n).map fun i => .int (lo + (i : Nat))
theorem itd_rng {g : G} (lo : Int) (n : Nat) : ItD K (Itr lo n) g (rngD lo n) := by
  refine ⟨fun g' H s i R L hi => by simpa [rngD, Itr] using hi, fun g' H s R L => by simp [rngD, Itr], fun g' H s i x H' d R L hd y => ?_⟩
  obtain ⟨e, y⟩ := y
  subst e y
  have hi : i < n := by
    have := (List.getElem?_eq_some_iff.mp hd).1
    simpa [rngD] using this
  simp [rngD, List.getElem?_map, List.getElem?_range hi] at hd
  subst hd
  exact ⟨g', .refl R, .int _⟩
def chD (x : Str) : List D := x.cps.toList.map fun c => .str ⟨#[c]⟩
theorem itd_str {g : G} (x : Str) : ItD K (Its x) g (chD x) := by
  refine ⟨fun g' H s i R L hi => by simpa [chD, Its] using hi, fun g' H s R L => by simp [chD, Its], fun g' H s i v H' d R L hd y => ?_⟩
  obtain ⟨e, c, h1, h2⟩ := y
  subst e h2
  simp [chD, List.getElem?_map, h1] at hd
  subst hd
  exact ⟨g', .refl R, .str _⟩
def seqI (m : ME) : MI := fun e s => bnd (m e s) fun d s => match d with
  | .lst ds => some (ds, s)
  | .tup ds => some (ds, s)
  | .str x => some (chD x, s)
  | _ => none
theorem i_seq (h : PE X a (trE X.K m)) : PI X tg a (trI X.K (seqI m)) := PI.imp (PI.or (pi_list h) (PI.or (pi_tup h) (pi_str h))) fun σ H R ⟨g, e, s, ds, s', R0, E, hm, k⟩ => by
  obtain ⟨d, s1, h1, hm1⟩ := bnd_some hm
  split at hm1
  · cases hm1
    refine .inl ⟨g, e, s, _, _, R0, E, h1, fun v g1 H1 st rv => ?_⟩
    cases rv with
    | lst q r => exact ⟨_, rfl, ⟨_, .inl (rd_H st.rel q)⟩, k _ g1 H1 st (itd_lst q r)⟩
  · cases hm1
    refine .inr (.inl ⟨g, e, s, _, _, R0, E, h1, fun v g1 H1 st rv => ?_⟩)
    cases rv with
    | tup q r => exact ⟨_, rfl, ⟨_, sqT_H st.rel q⟩, k _ g1 H1 st (itd_tup q r)⟩
  · cases hm1
    refine .inr (.inr ⟨g, e, s, _, _, R0, E, h1, fun v g1 H1 st rv => ?_⟩)
    cases rv with
    | str x => exact ⟨_, rfl, k _ g1 H1 st (itd_str _)⟩
  · cases hm1
def rngI (ma : MA) : MI := fun e s => bnd (ma e s) fun ds s => match ds with
  | [.int j] => if -(2 ^ 62) ≤ j ∧ j < 2 ^ 62 then some (rngD 0 j.toNat, s) else none
  | _ => none
theorem i_rng1 (hg : Gl X "range") (hm : X.mg "range" = none) (ha : PA X [a] (trA X.K ma)) (hs : starEach [a] X.env = [(false, eval a X.env)] := by rfl) : PI X tg (.Call (.Name "range" p) [a] [] pos) (trI X.K (rngI ma)) :=
  PI.imp (pi_range1 hg hm ha hs) fun σ H R ⟨g, e, s, ds, s', R0, E, hm, k⟩ => by
    obtain ⟨xs, s1, h1, hm1⟩ := bnd_some hm
    refine ⟨g, e, s, xs, s1, R0, E, h1, fun vs g1 H1 st rv => ?_⟩
    split at hm1
    · split at hm1
      · rename_i hb
        cases hm1
        cases rv with
        | cons r rr => cases rr; cases r; exact ⟨_, rfl, hb.1, hb.2, k _ g1 H1 st (itd_rng 0 _)⟩
      · cases hm1
    · cases hm1
def rng2I (ma : MA) : MI := fun e s => bnd (ma e s) fun ds s => match ds with
  | [.int i, .int j] => if (-(2 ^ 62) ≤ i ∧ i < 2 ^ 62) ∧ -(2 ^ 62) ≤ j ∧ j < 2 ^ 62 then some (rngD i (j - i).toNat, s) else none
  | _ => none
/-- a new tuple of values -/
theorem tup_yld {g : G} {H : Hp} {s : Z.S} {T : Addr} {vs : List V} {ds : List D} (R : SRel K g H s) (hT : H T = none) (r : RepL K g vs ds) : Step K g H (g.frz T (.tup vs)) (upd H T (.tup vs)) s ∧ Rep K (g.frz T (.tup vs)) (.ref T) (.tup ds) := by
  have hf : g.F T = none := by
    cases q : g.F T with
    | none => rfl
    | some u =>
      rcases R.sub T u q with z | ⟨_, _, z⟩
      · rw [hT] at z; cases z
      · rw [hT] at z; cases z
  have hc : T ∉ g.ad := fun z => by
    obtain ⟨u, hu⟩ := R.has z
    rw [hT] at hu; cases hu
  have hk : ∀ a w, H a = some w → upd H T (.tup vs) a = some w := fun a w q => by rw [upd_ne (ne_of_none q hT)]; exact q
  have st : Step K g H g (upd H T (.tup vs)) s := ⟨⟨fun a w q => by
      rcases R.sub a w q with z | ⟨z1, o, z⟩
      · exact .inl (hk _ _ z)
      · exact .inr ⟨z1, o, hk _ _ z⟩, R.len, fun n c q => by
      obtain ⟨a, w1, w2, w3⟩ := R.cell n c q
      exact ⟨a, w1, w2, w3.mono .refl fun u hu => hk _ _ hu⟩, R.inj⟩, .refl, fun _ _ h => .inl h, fun _ h => .inl h, fun a w q _ => hk a w q⟩
  exact ⟨st.frz hT upd_same hf hc, .tup (.of upd_same) (r.mono (.frz hf))⟩
def enumD (ds : List D) : List D := (List.range ds.length).map fun i => .tup [.int (i : Nat), (ds[i]?).getD .non]
theorem itd_enum {g : G} {a : Addr} {vs : List V} {ds : List D} (h : Rd g.F a (.lst vs)) (r : RepL K g vs ds) : ItD K (Ite K a) g (enumD ds) := by
  have hq : ∀ (g' : G) (H : Hp) (s : S), SRel K g' H s → GLe g g' → SqL K H a vs := fun g' H s R L => .inl (rd_H R (rd_mono L.F h))
  refine ⟨fun g' H s i R L hi => ?_, fun g' H s R L => ⟨vs, hq g' H s R L, by rw [r.length]; simp [enumD]⟩, fun g' H s i x H' d R L hd y => ?_⟩
  · have hi' : i < vs.length := by rw [r.length]; simpa [enumD] using hi
    exact ⟨vs, vs[i], hq g' H s R L, List.getElem?_eq_getElem hi'⟩
  · obtain ⟨T, y, rfl, hT, rfl, hy⟩ := y
    have hx := hy vs (hq g' _ s R L)
    have hi : i < ds.length := by
      have := (List.getElem?_eq_some_iff.mp hd).1
      simpa [enumD] using this
    simp [enumD, List.getElem?_map, List.getElem?_range hi, List.getElem?_eq_getElem hi] at hd
    subst hd
    obtain ⟨v, h1, h2⟩ := r.get (List.getElem?_eq_getElem hi)
    rw [hx] at h1; cases h1
    obtain ⟨q1, q2⟩ := tup_yld R hT (.cons (.int (i : Nat)) (.cons (h2.mono L) .nil))
    exact ⟨_, q1, q2⟩
def enumI (ma : MA) : MI := fun e s => bnd (ma e s) fun ds s => match ds with
  | [.lst ds] => some (enumD ds, s)
  | _ => none
def zipD (ds es : List D) : List D := (List.zip ds es).map fun p => .tup [p.1, p.2]
end
/-! ### for -/
def forL (mg : MG) (mb : MS) : List D → EnvD → S → Option (Fl × EnvD × S)
  | [], e, s => some (.nx, e, s)
  | d :: ds, e, s => match mg d e s with
    | none => none
    | some (e1, s1) => match mb e1 s1 with
      | none => none
      | some (.nx, e2, s2) => forL mg mb ds e2 s2
      | some (.ct, e2, s2) => forL mg mb ds e2 s2
      | some (.bk, e2, s2) => some (.nx, e2, s2)
      | some (.ret d, e2, s2) => some (.ret d, e2, s2)
      | some (.rto d, e2, s2) => some (.rto d, e2, s2)
def sFor (mi : MI) (mg : MG) (mb : MS) : MS := fun e s => bndS (mi e s) fun ds s => forL mg mb ds e s
section
variable {X : Cx} {tg a : Expr} {mi : MI} {mg : MG} {mb : MS} {body : List Stmt} {pos : Pos}
theorem tFor_of {K : PySem.W.Frag} {Dn : Ends} {σ : L2.St} {H : Hp} (h : trS K (sFor mi mg mb) Dn σ H) : tFor (trI K mi) (trG K mg) (trS K mb) Dn σ H := by
  obtain ⟨g, e, s, f, e', s', R0, E0, hm, k⟩ := h
  obtain ⟨ds, s1, h1, hm1⟩ := bndS_some hm
  refine ⟨g, e, s, ds, s1, R0, E0, h1, fun J g1 H1 st1 hJ => ?_⟩
  refine ⟨fun i m σ2 H2 => m = ds.length - i ∧ i ≤ ds.length ∧ ∃ g2 e2 s2, StepS K g H σ e g2 H2 σ2 e2 s2 ∧ GLe g1 g2 ∧ forL mg mb (ds.drop i) e2 s2 = some (f, e', s'), ⟨_, rfl, Nat.zero_le _, g1, e, s1, st1.S E0, .refl, by simpa using hm1⟩, ?_⟩
  rintro i m σ2 H2 ⟨rfl, hi, g2, e2, s2, st2, L2, hf⟩
  by_cases hlt : i < ds.length
  · refine .inr ⟨hJ.go g2 H2 s2 i st2.rel L2 hlt, ?_⟩
    have hd : ds.drop i = ds[i] :: ds.drop (i + 1) := by rw [List.drop_eq_getElem_cons hlt]
    rw [hd] at hf
    refine ⟨fun σ' H' => ∃ g3 e3 s3, StepS K g H σ e g3 H' σ' e3 s3 ∧ GLe g1 g3 ∧ forL mg mb (ds.drop (i + 1)) e3 s3 = some (f, e', s'), fun σ' H' ⟨g3, e3, s3, q1, q2, q3⟩ => ⟨ds.length - (i + 1), by omega, rfl, hlt, g3, e3, s3, q1, q2, q3⟩, fun x H' y => ?_⟩
    obtain ⟨g3, st3, rx⟩ := hJ.yld g2 H2 s2 i x H' ds[i] st2.rel L2 (List.getElem?_eq_getElem hlt) y
    unfold forL at hf
    split at hf
    · cases hf
    · rename_i e4 s4 hg
      refine ⟨g3, e2, s2, _, e4, s4, st3.rel, st2.env.step st3, rx, hg, fun g4 H4 σ4 st4 => ?_⟩
      have stA := (st2.trans (st3.S st2.env)).trans st4
      have LA : GLe g1 g4 := (L2.trans st3.le).trans st4.le
      split at hf
      · cases hf
      · rename_i e5 s5 hb
        exact ⟨g4, e4, s4, .nx, e5, s5, st4.rel, st4.env, hb, fun g5 H5 σ5 st5 => ⟨g5, e5, s5, stA.trans st5, LA.trans st5.le, hf⟩⟩
      · rename_i e5 s5 hb
        exact ⟨g4, e4, s4, .ct, e5, s5, st4.rel, st4.env, hb, fun g5 H5 σ5 st5 => ⟨g5, e5, s5, stA.trans st5, LA.trans st5.le, hf⟩⟩
      · rename_i e5 s5 hb
        cases hf
        exact ⟨g4, e4, s4, .bk, _, _, st4.rel, st4.env, hb, fun g5 H5 σ5 st5 => k g5 H5 σ5 (stA.trans st5)⟩
      · rename_i d5 e5 s5 hb
        cases hf
        exact ⟨g4, e4, s4, .ret d5, _, _, st4.rel, st4.env, hb, fun g5 H5 σ5 st5 => k g5 H5 σ5 (stA.trans st5)⟩
      · rename_i d5 e5 s5 hb
        cases hf
        exact ⟨g4, e4, s4, .rto d5, _, _, st4.rel, st4.env, hb, fun g5 H5 σ5 st5 => (k g5 H5 σ5 (stA.trans st5)).mid fun a => stA.noneOf⟩
  · have e0 : i = ds.length := by omega
    subst e0
    rw [List.drop_length] at hf
    cases hf
    exact .inl ⟨hJ.stop g2 H2 _ st2.rel L2, k g2 H2 σ2 st2⟩
theorem s_for (hp : PassesOwn (model X.prog X.w) X.A X.env X.xe) (hc : X.calm = true) (hi : PI X tg a (trI X.K mi)) (hg : PG X tg (trG X.K mg)) (hb : PSs X body (trS X.K mb))
    (hs : ∀ x, foldedSetIterable a X.env x = pure x := by intro _; rfl) : PS X (.For tg a body [] pos) (trS X.K (sFor mi mg mb)) := PS.imp (ps_for hp hc hi hg hb hs) fun Dn σ H h => tFor_of h
end
def sBrk : MS := fun e s => some (.bk, e, s)
def sCont : MS := fun e s => some (.ct, e, s)
end Z

set_option Elab.async false
set_option linter.all false
set_option maxRecDepth 100000
set_option maxHeartbeats 4000000
namespace Z
open PySem PySem.Spec PyProof.Rows L2
/-! ### comprehensions -/
def wipeE (e : EnvD) : List Nat → EnvD
  | [] => e
  | v :: vs => (wipeE e vs).set v .unb
section
variable {K : PySem.W.Frag} {g : G} {H : Hp} {σ : L2.St} {e : EnvD} {s : S}
theorem unb_slot (E : EnvRel K g H σ e) (i : Nat) : EnvRel K g H (σ.set i none) (e.set i .unb) := by
  have hs : ∀ {j : Nat} {x : Sl}, (e.set i .unb)[j]? = some x → (i = j ∧ x = .unb) ∨ (i ≠ j ∧ e[j]? = some x) := fun {j x} h => by
    by_cases hj : i = j
    · subst hj
      have hl : i < e.length := by
        have := (List.getElem?_eq_some_iff.mp h).1
        simpa using this
      rw [List.getElem?_set_self hl] at h
      cases h
      exact .inl ⟨rfl, rfl⟩
    · rw [List.getElem?_set_ne hj] at h
      exact .inr ⟨hj, h⟩
  refine ⟨by simp [E.len], fun j d' h' => ?_, fun j d' h' => ?_, fun j k d1 d2 c q1 q2 q3 q4 => ?_⟩
  · rcases hs h' with ⟨hj, z⟩ | ⟨hj, z⟩
    · cases z
    · rw [List.getElem?_set_ne hj]; exact E.val j d' z
  · rcases hs h' with ⟨hj, z⟩ | ⟨hj, z⟩
    · cases z
    · rw [List.getElem?_set_ne hj]; exact E.own j d' z
  · rcases hs q1 with ⟨hj, z⟩ | ⟨hj, z⟩
    · cases z
    · rcases hs q2 with ⟨hk, z'⟩ | ⟨hk, z'⟩
      · cases z'
      · rw [List.getElem?_set_ne hj] at q3
        rw [List.getElem?_set_ne hk] at q4
        exact E.apart j k d1 d2 c z z' q3 q4
theorem EnvRel.wipe (E : EnvRel K g H σ e) : ∀ vs : List Nat, EnvRel K g H (wipe σ vs) (wipeE e vs)
  | [] => E
  | v :: vs => unb_slot (EnvRel.wipe E vs) v
end
theorem wipe_get (σ : L2.St) : ∀ (vs : List Nat) (j : Nat), (wipe σ vs)[j]? = if j ∈ vs then (σ[j]?).map fun _ => none else σ[j]?
  | [], j => by simp [wipe]
  | v :: vs, j => by
    unfold wipe
    have ih := wipe_get σ vs j
    have hl := wipe_length σ vs
    by_cases hj : v = j
    · subst hj
      by_cases hv : v < σ.length
      · rw [List.getElem?_set_self (by rw [hl]; exact hv)]
        simp [List.getElem?_eq_getElem hv]
      · rw [List.getElem?_eq_none (by simpa [hl] using hv)]
        simp [List.getElem?_eq_none (by omega : σ.length ≤ v)]
    · rw [List.getElem?_set_ne hj, ih]
      have : (j ∈ v :: vs) ↔ (j ∈ vs) := by rw [List.mem_cons]; exact ⟨fun z => z.resolve_left (fun w => hj w.symm), .inr⟩
      simp only [this]
theorem wipe_set (σ : L2.St) (vs : List Nat) (i : Nat) (x : Option V) (h : i ∈ vs) : wipe (σ.set i x) vs = wipe σ vs := by
  apply List.ext_getElem?
  intro j
  rw [wipe_get, wipe_get]
  by_cases hj : j ∈ vs
  · simp only [hj, if_true]
    by_cases hij : i = j
    · subst hij
      by_cases hl : i < σ.length
      · rw [List.getElem?_set_self hl, List.getElem?_eq_getElem hl]; rfl
      · rw [List.getElem?_eq_none (by simpa using hl), List.getElem?_eq_none (by omega)]
    · rw [List.getElem?_set_ne hij]
  · simp only [hj, if_false]
    rw [List.getElem?_set_ne (fun z => by subst z; exact hj h)]
theorem wipe_setV (vs : List Nat) : ∀ (is : List Nat) (xs : List V) (σ : L2.St), (∀ i ∈ is, i ∈ vs) → wipe (setV is xs σ) vs = wipe σ vs
  | [], _, _, _ => by simp [setV]
  | _ :: _, [], _, _ => by simp [setV]
  | i :: is, x :: xs, σ, h => by
    unfold setV
    rw [wipe_setV vs is xs _ (fun j hj => h j (by simp [hj])), wipe_set σ vs i _ (h i (by simp))]
/-! ### a target of a comprehension -/
abbrev MC := D → EnvD → Option EnvD
structure CtOk (K : PySem.W.Frag) (vs : List Nat) (t : TG) (mc : MC) : Prop where
  run : ∀ (g : G) (H : Hp) (σ : L2.St) (e e1 : EnvD) (s : S) (v : V) (d : D) (Q : L2.St → Hp → Prop), SRel K g H s → EnvRel K g H σ e → Rep K g v d → mc d e = some e1 → (∀ σ1, StepS K g H σ e g H σ1 e1 s → wipe σ1 vs = wipe σ vs → Q σ1 H) → t v σ H Q
def cNm (i : Nat) : MC := fun d e => some (e.set i (.val d))
theorem ct_nm {K : PySem.W.Frag} {vs : List Nat} {i : Nat} (h : i ∈ vs) : CtOk K vs (gName i) (cNm i) := ⟨fun g H σ e e1 s v d Q R E r hm k => by
  cases hm
  exact k _ (set_slot R E r) (wipe_set σ vs i _ h)⟩
def setD : List Nat → List D → EnvD → EnvD
  | i :: is, x :: xs, e => setD is xs (e.set i (.val x))
  | _, _, e => e
theorem setD_rel {K : PySem.W.Frag} {g : G} {H : Hp} {s : S} (R : SRel K g H s) : ∀ (is : List Nat) {xs : List V} {ds : List D} {σ : L2.St} {e : EnvD}, EnvRel K g H σ e → RepL K g xs ds → StepS K g H σ e g H (setV is xs σ) (setD is ds e) s
  | [], _, _, _, _, E, _ => by simpa [setV, setD] using StepS.refl R E
  | _ :: _, _, _, _, _, E, .nil => by simpa [setV, setD] using StepS.refl R E
  | i :: is, _, _, _, _, E, .cons h r => (set_slot R E h).trans (setD_rel R is (set_slot R E h).env r)
theorem wipeE_own : ∀ {vs : List Nat} {e : EnvD} {j : Nat} {d : D}, (wipeE e vs)[j]? = some (Sl.own d) → e[j]? = some (Sl.own d) ∧ j ∉ vs
  | [], _, _, _, h => ⟨h, by simp⟩
  | v :: vs, e, j, d, h => by
    unfold wipeE at h
    by_cases hv : v = j
    · subst hv
      by_cases hl : v < (wipeE e vs).length
      · rw [List.getElem?_set_self hl] at h; cases h
      · rw [List.getElem?_eq_none (by simpa using hl)] at h; cases h
    · rw [List.getElem?_set_ne hv] at h
      obtain ⟨h1, h2⟩ := wipeE_own h
      exact ⟨h1, by rw [List.mem_cons, not_or]; exact ⟨fun z => hv z.symm, h2⟩⟩
/-- what a block's slots own was owned before -/
theorem own_blk {K : PySem.W.Frag} {g : G} {H : Hp} {s : S} {vs : List Nat} {σ σ1 : L2.St} {e e1 : EnvD} {P : Addr} (x : StepS K g H (wipe σ vs) (wipeE e vs) g H σ1 e1 s) (h0 : ∀ {j : Nat} {d : D}, e[j]? = some (Sl.own d) → σ[j]? ≠ some (some (V.ref P))) {j : Nat} {d : D} (hj : e1[j]? = some (Sl.own d)) : σ1[j]? ≠ some (some (V.ref P)) := fun z => by
  obtain ⟨b, w1, w2, w3, w4⟩ := x.env.own j d hj
  rw [z] at w1; cases w1
  obtain ⟨u, hu⟩ := w4.has
  rcases x.back ⟨j, d, hj, z⟩ with q | ⟨i, d', q1, q2⟩
  · rw [hu] at q; cases q
  · exact h0 (wipeE_own q1).1 (wipe_some q2).1
def cTup (is : List Nat) : MC := fun d e => match d with
  | .tup ds => if ds.length = is.length then some (setD is ds e) else none
  | _ => none
theorem ct_tup {K : PySem.W.Frag} {vs is : List Nat} {n : Nat} (h : ∀ i ∈ is, i ∈ vs) (hn : is.length = n) : CtOk K vs (gTup K n (gNames is)) (cTup is) := ⟨fun g H σ e e1 s v d Q R E r hm k => by
  unfold cTup at hm
  split at hm
  · rename_i ds
    split at hm
    · rename_i hl
      cases hm
      cases r with
      | tup q r =>
        refine ⟨_, _, rfl, sqT_H R q, by rw [r.length, hl, hn], gNames_setV (by rw [r.length, hl]) ?_⟩
        exact k _ (setD_rel R is E r) (wipe_setV vs is _ σ h)
    · cases hm
  · cases hm⟩
/-! ### list comprehensions -/
def yesT : MT := fun _ s => some (true, s)
def lcL (mc : MC) (mt : MT) (me : ME) (e : EnvD) : List D → S → Option (List D × S)
  | [], s => some ([], s)
  | d :: ds, s => match mc d e with
    | none => none
    | some e1 => match mt e1 s with
      | none => none
      | some (false, s1) => lcL mc mt me e ds s1
      | some (true, s1) => match me e1 s1 with
        | none => none
        | some (y, s2) => match lcL mc mt me e ds s2 with
          | none => none
          | some (ys, s3) => some (y :: ys, s3)
def mLc (vs : List Nat) (mi : MI) (mc : MC) (mt : MT) (me : ME) : ME := fun e s => bnd (mi e s) fun ds s1 => bnd (lcL mc mt me (wipeE e vs) ds s1) fun ys s2 => if ys.length ≤ sizeLine then some (.lst ys, s2) else none
section
variable {K : PySem.W.Frag}
/-- the same, a step seen from an object that stays apart -/
theorem Step.apart {g g' : G} {H H' : Hp} {s' : Z.S} (st : Step K g H g' H' s') {p : Addr} {u : HO} (hu : H p = some u) (hc : p ∉ g.ad) (hf : g.F p = none) (nt : ∀ vs, u ≠ .tup vs := by intro vs z; cases z) : H' p = some u ∧ p ∉ g'.ad ∧ g'.F p = none := by
  refine ⟨st.keep p u hu hc, fun z => ?_, ?_⟩
  · rcases st.newc p z with q | q
    · exact hc q
    · rw [hu] at q; cases q
  · cases q : g'.F p with
    | none => rfl
    | some w =>
      rcases st.new p w q with z | z
      · rw [hf] at z; cases z
      · exact (z.no hu nt).elim
/-- an object of nobody's is written -/
theorem Step.put {g0 g : G} {H0 H : Hp} {s : Z.S} (st : Step K g0 H0 g H s) {p : Addr} {u : HO} (h0 : H0 p = none) (hc : p ∉ g.ad) (hf : g.F p = none) : Step K g0 H0 g (upd H p u) s := by
  have ne : ∀ a, a ∈ g.ad → a ≠ p := fun a ha z => hc (z ▸ ha)
  have neF : ∀ a w, g.F a = some w → a ≠ p := fun a w q z => by subst z; rw [hf] at q; cases q
  refine ⟨⟨fun a w q => ?_, st.rel.len, fun n c q => ?_, st.rel.inj⟩, st.le, st.new, st.newc, fun a w q ha => ?_⟩
  · rw [upd_ne (neF a w q)]
    exact st.rel.sub a w q
  · obtain ⟨a, w1, w2, w3⟩ := st.rel.cell n c q
    refine ⟨a, w1, w2, w3.mono .refl fun u hu => ?_⟩
    rw [upd_ne (ne a (List.mem_iff_getElem?.mpr ⟨n, w1⟩))]; exact hu
  · rw [upd_ne (fun z => by subst z; rw [h0] at q; cases q)]
    exact st.keep a w q ha
theorem Step.fresh {g g' : G} {H H' : Hp} {s' : Z.S} (st1 : Step K g H g' H' s') {P : Addr} (hP : H' P = none) : H P = none ∧ g'.F P = none ∧ P ∉ g'.ad := by
  refine ⟨st1.noneOf hP, ?_, fun z => ?_⟩
  · cases q : g'.F P with
    | none => rfl
    | some u =>
      rcases st1.rel.sub P u q with z | ⟨_, _, z⟩
      · rw [hP] at z; cases z
      · rw [hP] at z; cases z
  · obtain ⟨u, hu⟩ := st1.rel.has z
    rw [hP] at hu; cases hu
theorem EnvRel.noOwn {g : G} {H : Hp} {σ : L2.St} {e : EnvD} (E : EnvRel K g H σ e) {P : Addr} (hn : H P = none) {j : Nat} {d : D} (hj : e[j]? = some (Sl.own d)) : σ[j]? ≠ some (some (V.ref P)) := fun z => by
  obtain ⟨b, h1, _, _, h2⟩ := E.own j d hj
  rw [z] at h1; cases h1
  obtain ⟨u, hu⟩ := h2.has
  rw [hn] at hu; cases hu
/-- a list that grows at P, apart: one clause's loop -/
theorem lc_loop {vs : List Nat} {mc : MC} {mt : MT} {me : ME} {t : TG} {σ : L2.St} {e : EnvD} {g0 g1 : G} {H0 H1 : Hp} {s1 s' : Z.S} {J : It} {ds acc rest : List D} {vs1 : List V} {P : Addr} {Fin : Hp → Prop} (ht : CtOk K vs t mc)
    (st1 : Step K g0 H0 g1 H1 s1) (E1 : EnvRel K g1 H1 σ e) (hJ : ItD K J g1 ds) (hn0 : H0 P = none) (hP : H1 P = some (.lst vs1)) (hc1 : P ∉ g1.ad) (hf1 : g1.F P = none) (ra1 : RepL K g1 vs1 acc)
    (h2 : lcL mc mt me (wipeE e vs) ds s1 = some (rest, s')) (hsz : (acc ++ rest).length ≤ sizeLine)
    (hP0 : ∀ {j : Nat} {d : D}, e[j]? = some (Sl.own d) → σ[j]? ≠ some (some (V.ref P)))
    (k : ∀ g2 H2 vs2, Step K g0 H0 g2 H2 s' → GLe g1 g2 → H2 P = some (.lst vs2) → P ∉ g2.ad → g2.F P = none → RepL K g2 vs2 (acc ++ rest) → Fin H2) :
    ∃ W : Nat → Nat → Hp → Prop, (∃ m, W 0 m H1) ∧ ∀ i m H, W i m H →
      (J.stop i H ∧ Fin H) ∨ (J.go i H ∧ ∃ Nx : Hp → Prop, (∀ H', Nx H' → ∃ m', m' < m ∧ W (i + 1) m' H') ∧ ∀ x H', J.yld i H x H' → t x (wipe σ vs) H' fun σ2 H2 => wipe σ2 vs = wipe σ vs ∧ trT K mt σ2 H2 fun b H3 =>
        if b = true then trE K me σ2 H3 fun y H4 => ∃ acc, H4 P = some (.lst acc) ∧ acc.length < sizeLine ∧ Nx (upd H4 P (.lst (acc ++ [y]))) else Nx H3) := by
  refine ⟨fun i m H2 => m = ds.length - i ∧ i ≤ ds.length ∧ ∃ g2 s3 vs2 acc2 rest2, Step K g0 H0 g2 H2 s3 ∧ EnvRel K g2 H2 σ e ∧ GLe g1 g2 ∧ H2 P = some (.lst vs2) ∧ P ∉ g2.ad ∧ g2.F P = none ∧ RepL K g2 vs2 acc2 ∧ lcL mc mt me (wipeE e vs) (ds.drop i) s3 = some (rest2, s') ∧ acc ++ rest = acc2 ++ rest2,
    ⟨_, rfl, Nat.zero_le _, g1, s1, vs1, acc, rest, st1, E1, .refl, hP, hc1, hf1, ra1, by simpa using h2, rfl⟩, ?_⟩
  rintro i m H2 ⟨rfl, hi, g2, s3, vs2, acc2, rest2, st2, E2, L2, hP2, hc2, hf2, ra, hl, hy⟩
  by_cases hlt : i < ds.length
  · refine .inr ⟨hJ.go g2 H2 s3 i st2.rel L2 hlt, ?_⟩
    have hd : ds.drop i = ds[i] :: ds.drop (i + 1) := by rw [List.drop_eq_getElem_cons hlt]
    rw [hd] at hl
    refine ⟨fun H' => ∃ g3 s4 vs3 acc3 rest3, Step K g0 H0 g3 H' s4 ∧ EnvRel K g3 H' σ e ∧ GLe g1 g3 ∧ H' P = some (.lst vs3) ∧ P ∉ g3.ad ∧ g3.F P = none ∧ RepL K g3 vs3 acc3 ∧ lcL mc mt me (wipeE e vs) (ds.drop (i + 1)) s4 = some (rest3, s') ∧ acc ++ rest = acc3 ++ rest3,
      fun H' ⟨g3, s4, vs3, acc3, rest3, q⟩ => ⟨ds.length - (i + 1), by omega, rfl, hlt, g3, s4, vs3, acc3, rest3, q⟩, fun x H3 y => ?_⟩
    obtain ⟨g3, st3, rx⟩ := hJ.yld g2 H2 s3 i x H3 ds[i] st2.rel L2 (List.getElem?_eq_getElem hlt) y
    obtain ⟨hP3, hc3, hf3⟩ := st3.apart hP2 hc2 hf2
    have st03 := st2.trans st3
    have E3 := E2.step st3
    unfold lcL at hl
    split at hl
    · cases hl
    · rename_i e1 hmc
      refine ht.run g3 H3 _ _ e1 s3 x _ _ st3.rel (E3.wipe vs) rx hmc fun σ1 SE1 hw => ⟨?_, ?_⟩
      · rw [hw]
        apply List.ext_getElem?
        intro j
        rw [wipe_get, wipe_get]
        by_cases hj : j ∈ vs
        · simp only [hj, if_true, Option.map_map]; rfl
        · simp only [hj, if_false]
      · split at hl
        · cases hl
        · rename_i s4 hmt
          have E1' := SE1.env
          refine ⟨g3, e1, s3, false, s4, st3.rel, E1', hmt, fun g4 H4 st4 => ?_⟩
          simp only [Bool.false_eq_true, if_false]
          obtain ⟨hP4, hc4, hf4⟩ := st4.apart hP3 hc3 hf3
          exact ⟨g4, s4, vs2, acc2, rest2, st03.trans st4, E3.step st4, (L2.trans st3.le).trans st4.le, hP4, hc4, hf4, (ra.mono st3.le).mono st4.le, hl, hy⟩
        · rename_i s4 hmt
          have E1' := SE1.env
          refine ⟨g3, e1, s3, true, s4, st3.rel, E1', hmt, fun g4 H4 st4 => ?_⟩
          simp only [if_true]
          obtain ⟨hP4, hc4, hf4⟩ := st4.apart hP3 hc3 hf3
          split at hl
          · cases hl
          · rename_i y1 s5 hme
            split at hl
            · cases hl
            · rename_i ys1 s6 hrec
              cases hl
              refine ⟨g4, e1, s4, y1, s5, st4.rel, E1'.step st4, hme, fun v5 g5 H5 st5 rv => ?_⟩
              obtain ⟨hP5, hc5, hf5⟩ := st5.apart hP4 hc4 hf4
              have ra5 := ((ra.mono st3.le).mono st4.le).mono st5.le
              have stp := ((st03.trans st4).trans st5).put (u := .lst (vs2 ++ [v5])) hn0 hc5 hf5
              have E5 := (E3.step st4).step st5
              have Ep : EnvRel K g5 (upd H5 P (.lst (vs2 ++ [v5]))) σ e := ⟨E5.len, E5.val, fun j d hj => by
                obtain ⟨b, w1, w2, w3, w4⟩ := E5.own j d hj
                refine ⟨b, w1, w2, w3, w4.mono .refl fun u hu => ?_⟩
                rw [upd_ne (fun z => ?_)]
                · exact hu
                · subst z
                  exact hP0 hj w1, E5.apart⟩
              refine ⟨vs2, hP5, ?_, g5, s5, _, acc2 ++ [y1], ys1, stp, Ep, ((L2.trans st3.le).trans st4.le).trans st5.le, upd_same, hc5, hf5, ra5.append (.cons rv .nil), hrec, by rw [hy]; simp⟩
              rw [ra.length]
              rw [hy] at hsz
              simp at hsz
              omega
  · have e0 : i = ds.length := by omega
    subst e0
    rw [List.drop_length] at hl
    cases hl
    exact .inl ⟨hJ.stop g2 H2 _ st2.rel L2, k g2 H2 vs2 st2 L2 hP2 hc2 hf2 (by rw [hy]; simpa using ra)⟩
theorem tLc_of {vs : List Nat} {mi : MI} {mc : MC} {mt : MT} {me : ME} {t : TG} {σ : L2.St} {H : Hp} {Q : VK} (ht : CtOk K vs t mc) (h : trF K (mLc vs mi mc mt me) σ H Q) : tLc (trI K mi) t (trT K mt) (trE K me) vs σ H Q := by
  obtain ⟨g, e, s, d, s', R0, E0, hm, k⟩ := h
  obtain ⟨ds, s1, h1, hm1⟩ := bnd_some hm
  obtain ⟨ys, s2, h2, hm2⟩ := bnd_some hm1
  split at hm2
  · rename_i hsz
    cases hm2
    refine ⟨g, e, s, ds, s1, R0, E0, h1, fun J g1 H1 st1 hJ P hP => ?_⟩
    obtain ⟨hn0, hf1, hc1⟩ := st1.fresh hP
    have stp := st1.put (u := .lst []) hn0 hc1 hf1
    refine lc_loop ht stp (E0.step stp) hJ hn0 upd_same hc1 hf1 .nil h2 (by simpa using hsz) ?_ fun g2 H2 vs2 st2 L2 hP2 hc2 hf2 ra => k P g2 H2 st2 hn0 hf2 hc2 ⟨vs2, hP2, ra⟩
    exact fun {j d} hj hσ => E0.noOwn hn0 hj hσ
  · cases hm2
end
section
variable {X : Cx} {elt tg iter : Expr} {ifs : List Expr} {scope : Scope} {own : List (Str × Nat)} {pos : Pos} {mi : MI} {mc : MC} {mt : MT} {me : ME} {t : TG} {vs : List Nat}
theorem pts_yes : PTs X [] (trT X.K yesT) := ⟨fun pins s σ H Q I ⟨g, e, s1, b, s', R, E, hm, k⟩ => by
  cases hm
  exact pts_nil.run pins s σ H Q I (k g H (.refl R))⟩
theorem f_lc (hvs : own.map (·.2) = vs) (hc : X.calm = true) (hN : X.N.Nodup) (hi : PI X tg iter (trI X.K mi)) (ok : BlkOk X.N X.env.scope scope own) (hct : CtOk X.K vs t mc)
    (hg : ∀ (s : Shared) (H : Hp) (C : Addr) (cl : List (Str × Addr)) (fp : List Addr), PG (X.blk s H scope (compEnvC scope cl C X.env) fp) tg t) (ht : ∀ (s : Shared) (H : Hp) (C : Addr) (cl : List (Str × Addr)) (fp : List Addr), PTs (X.blk s H scope (compEnvC scope cl C X.env) fp) ifs (trT X.K mt))
    (he : ∀ (s : Shared) (H : Hp) (C : Addr) (cl : List (Str × Addr)) (fp : List Addr), PE (X.blk s H scope (compEnvC scope cl C X.env) fp) elt (trE X.K me)) (hs : ∀ x, foldedSetIterable iter X.env x = pure x := by intro _; rfl) :
    PE X (.ListComp elt [⟨tg, iter, ifs, 0⟩] scope pos) (trF X.K (mLc vs mi mc mt me)) := PE.imp (pe_lc hc hN hi ok hg ht he hs) fun σ H Q h => by rw [hvs]; exact tLc_of hct h
/-- two clauses -/
def lcL2 (mc : MC) (mt : MT) (mi1 : MI) (vs1 : List Nat) (mc1 : MC) (mt1 : MT) (me : ME) (e : EnvD) : List D → S → Option (List D × S)
  | [], s => some ([], s)
  | d :: ds, s => match mc d e with
    | none => none
    | some e1 => match mt e1 s with
      | none => none
      | some (false, s1) => lcL2 mc mt mi1 vs1 mc1 mt1 me e ds s1
      | some (true, s1) => match mi1 e1 s1 with
        | none => none
        | some (ds1, s2) => match lcL mc1 mt1 me (wipeE e1 vs1) ds1 s2 with
          | none => none
          | some (ys, s3) => match lcL2 mc mt mi1 vs1 mc1 mt1 me e ds s3 with
            | none => none
            | some (zs, s4) => some (ys ++ zs, s4)
def mLc2 (vs : List Nat) (mi : MI) (mc : MC) (mt : MT) (mi1 : MI) (vs1 : List Nat) (mc1 : MC) (mt1 : MT) (me : ME) : ME := fun e s => bnd (mi e s) fun ds s1 => bnd (lcL2 mc mt mi1 vs1 mc1 mt1 me (wipeE e vs) ds s1) fun ys s2 => if ys.length ≤ sizeLine then some (.lst ys, s2) else none
theorem tLc2_of {K : PySem.W.Frag} {vs1 : List Nat} {mi1 : MI} {mc1 : MC} {mt1 : MT} {t1 : TG} {σ : L2.St} {H : Hp} {Q : VK} (ht : CtOk K vs t mc) (ht1 : CtOk K vs1 t1 mc1) (h : trF K (mLc2 vs mi mc mt mi1 vs1 mc1 mt1 me) σ H Q) :
    tLc2 (trI K mi) t (trT K mt) (trI K mi1) t1 (trT K mt1) (trE K me) vs vs1 σ H Q := by
  obtain ⟨g, e, s, d, s', R0, E0, hm, k⟩ := h
  obtain ⟨ds, s1, h1, hm1⟩ := bnd_some hm
  obtain ⟨ys, s2, h2, hm2⟩ := bnd_some hm1
  split at hm2
  · rename_i hsz
    cases hm2
    refine ⟨g, e, s, ds, s1, R0, E0, h1, fun J g1 H1 st1 hJ P hP => ?_⟩
    obtain ⟨hn0, hf1, hc1⟩ := st1.fresh hP
    have stp := st1.put (u := .lst []) hn0 hc1 hf1
    have own0 : ∀ {j : Nat} {d : D}, e[j]? = some (Sl.own d) → σ[j]? ≠ some (some (V.ref P)) := fun {j d} hj => E0.noOwn hn0 hj
    refine ⟨fun i m H2 => m = ds.length - i ∧ i ≤ ds.length ∧ ∃ g2 s3 vs2 acc2 rest2, Step K g H g2 H2 s3 ∧ GLe g1 g2 ∧ H2 P = some (.lst vs2) ∧ P ∉ g2.ad ∧ g2.F P = none ∧ RepL K g2 vs2 acc2 ∧ lcL2 mc mt mi1 vs1 mc1 mt1 me (wipeE e vs) (ds.drop i) s3 = some (rest2, s') ∧ ys = acc2 ++ rest2,
      ⟨_, rfl, Nat.zero_le _, g1, s1, [], [], ys, stp, .refl, upd_same, hc1, hf1, .nil, by simpa using h2, rfl⟩, ?_⟩
    rintro i m H2 ⟨rfl, hi, g2, s3, vs2, acc2, rest2, st2, L2, hP2, hc2, hf2, ra, hl, hy⟩
    by_cases hlt : i < ds.length
    · refine .inr ⟨hJ.go g2 H2 s3 i st2.rel L2 hlt, ?_⟩
      have hd : ds.drop i = ds[i] :: ds.drop (i + 1) := by rw [List.drop_eq_getElem_cons hlt]
      rw [hd] at hl
      refine ⟨fun H' => ∃ g3 s4 vs3 acc3 rest3, Step K g H g3 H' s4 ∧ GLe g1 g3 ∧ H' P = some (.lst vs3) ∧ P ∉ g3.ad ∧ g3.F P = none ∧ RepL K g3 vs3 acc3 ∧ lcL2 mc mt mi1 vs1 mc1 mt1 me (wipeE e vs) (ds.drop (i + 1)) s4 = some (rest3, s') ∧ ys = acc3 ++ rest3,
        fun H' ⟨g3, s4, vs3, acc3, rest3, q⟩ => ⟨ds.length - (i + 1), by omega, rfl, hlt, g3, s4, vs3, acc3, rest3, q⟩, fun x H3 y => ?_⟩
      obtain ⟨g3, st3, rx⟩ := hJ.yld g2 H2 s3 i x H3 ds[i] st2.rel L2 (List.getElem?_eq_getElem hlt) y
      obtain ⟨hP3, hc3, hf3⟩ := st3.apart hP2 hc2 hf2
      have st03 := st2.trans st3
      have E3 := E0.step st03
      unfold lcL2 at hl
      split at hl
      · cases hl
      · rename_i e1 hmc
        refine ht.run g3 H3 _ _ e1 s3 x _ _ st3.rel (E3.wipe vs) rx hmc fun σ1 SE1 hw => ⟨?_, ?_⟩
        · rw [hw]
          apply List.ext_getElem?
          intro j
          rw [wipe_get, wipe_get]
          by_cases hj : j ∈ vs
          · simp only [hj, if_true, Option.map_map]; rfl
          · simp only [hj, if_false]
        · split at hl
          · cases hl
          · rename_i s4 hmt
            have E1' := SE1.env
            refine ⟨g3, e1, s3, false, s4, st3.rel, E1', hmt, fun g4 H4 st4 => ?_⟩
            simp only [Bool.false_eq_true, if_false]
            obtain ⟨hP4, hc4, hf4⟩ := st4.apart hP3 hc3 hf3
            exact ⟨g4, s4, vs2, acc2, rest2, st03.trans st4, (L2.trans st3.le).trans st4.le, hP4, hc4, hf4, (ra.mono st3.le).mono st4.le, hl, hy⟩
          · rename_i s4 hmt
            have E1' := SE1.env
            refine ⟨g3, e1, s3, true, s4, st3.rel, E1', hmt, fun g4 H4 st4 => ?_⟩
            simp only [if_true]
            obtain ⟨hP4, hc4, hf4⟩ := st4.apart hP3 hc3 hf3
            split at hl
            · cases hl
            · rename_i ds1 s5 hmi
              split at hl
              · cases hl
              · rename_i ys1 s6 hin
                split at hl
                · cases hl
                · rename_i zs1 s7 hrec
                  cases hl
                  refine ⟨g4, e1, s4, ds1, s5, st4.rel, E1'.step st4, hmi, fun J1 g5 H5 st5 hJ1 => ?_⟩
                  obtain ⟨hP5, hc5, hf5⟩ := st5.apart hP4 hc4 hf4
                  have ra5 := ((ra.mono st3.le).mono st4.le).mono st5.le
                  have st05 := (st03.trans st4).trans st5
                  have E5 := (E1'.step st4).step st5
                  have ownE : ∀ {j : Nat} {d : D}, e1[j]? = some (Sl.own d) → σ1[j]? ≠ some (some (V.ref P)) := fun {j d} hj => own_blk SE1 own0 hj
                  refine lc_loop ht1 st05 E5 hJ1 hn0 hP5 hc5 hf5 ra5 hin (by rw [hy] at hsz; simp at hsz ⊢; omega) ownE fun g6 H6 vs6 st6 L6 hP6 hc6 hf6 ra6 => ?_
                  exact ⟨g6, _, vs6, acc2 ++ ys1, zs1, st6, (((L2.trans st3.le).trans st4.le).trans st5.le).trans L6, hP6, hc6, hf6, ra6, hrec, by rw [hy]; simp⟩
    · have e0 : i = ds.length := by omega
      subst e0
      rw [List.drop_length] at hl
      cases hl
      simp at hy
      subst hy
      exact .inl ⟨hJ.stop g2 H2 _ st2.rel L2, k P g2 H2 st2 hn0 hf2 hc2 ⟨vs2, hP2, ra⟩⟩
  · cases hm2
variable {tg1 iter1 : Expr} {ifs1 : List Expr} {vs1 : List Nat} {mi1 : MI} {mc1 : MC} {mt1 : MT} {t1 : TG} {y : Str} {py spos : Pos} {i : Nat}
theorem f_lc2 (hvs : own.map (·.2) = vs) (hc : X.calm = true) (hN : X.N.Nodup) (hi : PI X tg iter (trI X.K mi)) (ok : BlkOk X.N X.env.scope scope own) (hv : ∀ i ∈ vs1, i ∈ vs) (hct : CtOk X.K vs t mc) (hct1 : CtOk X.K vs1 t1 mc1)
    (hg : ∀ (s : Shared) (H : Hp) (C : Addr) (cl : List (Str × Addr)) (fp : List Addr), PG (X.blk s H scope (compEnvC scope cl C X.env) fp) tg t) (ht : ∀ (s : Shared) (H : Hp) (C : Addr) (cl : List (Str × Addr)) (fp : List Addr), PTs (X.blk s H scope (compEnvC scope cl C X.env) fp) ifs (trT X.K mt))
    (hi1 : ∀ (s : Shared) (H : Hp) (C : Addr) (cl : List (Str × Addr)) (fp : List Addr), PI (X.blk s H scope (compEnvC scope cl C X.env) fp) tg1 iter1 (trI X.K mi1)) (hg1 : ∀ (s : Shared) (H : Hp) (C : Addr) (cl : List (Str × Addr)) (fp : List Addr), PG (X.blk s H scope (compEnvC scope cl C X.env) fp) tg1 t1) (ht1 : ∀ (s : Shared) (H : Hp) (C : Addr) (cl : List (Str × Addr)) (fp : List Addr), PTs (X.blk s H scope (compEnvC scope cl C X.env) fp) ifs1 (trT X.K mt1))
    (he : ∀ (s : Shared) (H : Hp) (C : Addr) (cl : List (Str × Addr)) (fp : List Addr), PE (X.blk s H scope (compEnvC scope cl C X.env) fp) elt (trE X.K me)) (hs : ∀ x, foldedSetIterable iter X.env x = pure x := by intro _; rfl) (hs1 : ∀ env x, foldedSetIterable iter1 env x = pure x := by intro _ _; rfl) :
    PE X (.ListComp elt [⟨tg, iter, ifs, 0⟩, ⟨tg1, iter1, ifs1, 0⟩] scope pos) (trF X.K (mLc2 vs mi mc mt mi1 vs1 mc1 mt1 me)) := PE.imp (pe_lc2 hc hN hi ok (by rw [hvs]; exact hv) hg ht hi1 hg1 ht1 he hs hs1) fun σ H Q h => by rw [hvs]; exact tLc2_of hct hct1 h
theorem trS_asgF {K : PySem.W.Frag} {m : ME} {Dn : Ends} {σ : L2.St} {H : Hp} (h : trS K (sOwn i m) Dn σ H) : trF K m σ H (fun x H1 => gName i x σ H1 Dn.nx) := by
  obtain ⟨g, e, s, f, e', s', R, E, hm, k⟩ := h
  obtain ⟨d, s1, h1, hm1⟩ := bndS_some hm
  cases hm1
  exact ⟨g, e, s, d, _, R, E, h1, fun p g1 H1 st1 hn hf hc o => k _ _ _ (own_step E st1 hn hf hc o)⟩
theorem s_ownLc (hvs : own.map (·.2) = vs) (hc : X.calm = true) (hN : X.N.Nodup) (hy : X.N[i]? = some y) (hyl : X.env.scope.names.lookup y = some .local)
    (hsw : swapsWith (.ListComp elt [⟨tg, iter, ifs, 0⟩] scope pos) (some (.Name y py)) spos.line X.env = pure true) (hi : PI X tg iter (trI X.K mi)) (ok : BlkOk X.N X.env.scope scope own) (hct : CtOk X.K vs t mc)
    (hg : ∀ (s : Shared) (H : Hp) (C : Addr) (cl : List (Str × Addr)) (fp : List Addr), PG (X.blk s H scope (compEnvC scope cl C X.env) fp) tg t) (ht : ∀ (s : Shared) (H : Hp) (C : Addr) (cl : List (Str × Addr)) (fp : List Addr), PTs (X.blk s H scope (compEnvC scope cl C X.env) fp) ifs (trT X.K mt))
    (he : ∀ (s : Shared) (H : Hp) (C : Addr) (cl : List (Str × Addr)) (fp : List Addr), PE (X.blk s H scope (compEnvC scope cl C X.env) fp) elt (trE X.K me)) (hs : ∀ x, foldedSetIterable iter X.env x = pure x := by intro _; rfl) :
    PS X (.Assign [.Name y py] (.ListComp elt [⟨tg, iter, ifs, 0⟩] scope pos) spos) (trS X.K (sOwn i (mLc vs mi mc mt me))) := PS.imp (ps_setLc hc hN hy hyl hsw hi ok hg ht he hs) fun Dn σ H h => by
  show tLc _ _ _ _ _ _ _ _
  rw [hvs]
  exact tLc_of hct (trS_asgF h)
/-- a clause's test -/
theorem pts_t {c : Expr} (h : PT X c (trT X.K mt)) : PTs X [c] (trT X.K mt) := pts_one h
end
/-! ### dict comprehensions -/
def putD (kvs : List (Key × D)) (k : Key) (d : D) : List (Key × D) := if (kvs.any fun kv => decide (kv.1 = k)) = true then kvs.map (fun kv => if kv.1 = k then (kv.1, d) else kv) else kvs ++ [(k, d)]
section
variable {K : PySem.W.Frag} {g : G}
theorem RepK.any (p : Key → Bool) : ∀ {vs : List (Key × V)} {ds : List (Key × D)}, RepK K g vs ds → vs.any (fun kv => p kv.1) = ds.any fun kv => p kv.1
  | _, _, .nil => rfl
  | _, _, .cons _ r => by simp only [List.any_cons, RepK.any p r]
theorem RepK.map {k : Key} {v : V} {d : D} (h : Rep K g v d) : ∀ {vs : List (Key × V)} {ds : List (Key × D)}, RepK K g vs ds → RepK K g (vs.map (fun kv => if kv.1 = k then (kv.1, v) else kv)) (ds.map (fun kv => if kv.1 = k then (kv.1, d) else kv))
  | _, _, .nil => .nil
  | _, _, .cons (k := k0) q r => by
    by_cases e : k0 = k
    · simp only [List.map_cons, e, if_true]; exact .cons h (RepK.map h r)
    · simp only [List.map_cons, e, if_false]; exact .cons q (RepK.map h r)
theorem RepK.append : ∀ {vs : List (Key × V)} {ds : List (Key × D)} {ws es}, RepK K g vs ds → RepK K g ws es → RepK K g (vs ++ ws) (ds ++ es)
  | _, _, _, _, .nil, s => s
  | _, _, _, _, .cons h r, s => .cons h (RepK.append r s)
theorem RepK.length : ∀ {vs : List (Key × V)} {ds : List (Key × D)}, RepK K g vs ds → vs.length = ds.length
  | _, _, .nil => rfl
  | _, _, .cons _ r => by simp [RepK.length r]
theorem RepK.put {k : Key} {v : V} {d : D} (h : Rep K g v d) {vs : List (Key × V)} {ds : List (Key × D)} (r : RepK K g vs ds) : RepK K g (putK vs k v) (putD ds k d) := by
  unfold putK putD
  rw [r.any fun x => decide (x = k)]
  split
  · exact r.map h
  · exact r.append (.cons h .nil)
end
def dcL (mc : MC) (mt : MT) (mk mv : ME) (e : EnvD) : List D → List (Key × D) → S → Option (List (Key × D) × S)
  | [], acc, s => some (acc, s)
  | d :: ds, acc, s => match mc d e with
    | none => none
    | some e1 => match mt e1 s with
      | none => none
      | some (false, s1) => dcL mc mt mk mv e ds acc s1
      | some (true, s1) => match mk e1 s1 with
        | none => none
        | some (kd, s2) => match mv e1 s2 with
          | none => none
          | some (y, s3) => match keyD kd with
            | none => none
            | some kk => if acc.length < sizeLine then dcL mc mt mk mv e ds (putD acc kk y) s3 else none
def mDc (vs : List Nat) (mi : MI) (mc : MC) (mt : MT) (mk mv : ME) : ME := fun e s => bnd (mi e s) fun ds s1 => bnd (dcL mc mt mk mv (wipeE e vs) ds [] s1) fun ys s2 => some (.dic ys, s2)
section
variable {K : PySem.W.Frag}
theorem dc_loop {vs : List Nat} {mc : MC} {mt : MT} {mk mv : ME} {t : TG} {σ : L2.St} {e : EnvD} {g0 g1 : G} {H0 H1 : Hp} {s1 s' : Z.S} {J : It} {ds : List D} {acc res : List (Key × D)} {vs1 : List (Key × V)} {P : Addr} {Fin : Hp → Prop} (ht : CtOk K vs t mc)
    (st1 : Step K g0 H0 g1 H1 s1) (E1 : EnvRel K g1 H1 σ e) (hJ : ItD K J g1 ds) (hn0 : H0 P = none) (hP : H1 P = some (.dK vs1)) (hc1 : P ∉ g1.ad) (hf1 : g1.F P = none) (ra1 : RepK K g1 vs1 acc)
    (h2 : dcL mc mt mk mv (wipeE e vs) ds acc s1 = some (res, s'))
    (hP0 : ∀ {j : Nat} {d : D}, e[j]? = some (Sl.own d) → σ[j]? ≠ some (some (V.ref P)))
    (k : ∀ g2 H2 vs2, Step K g0 H0 g2 H2 s' → GLe g1 g2 → H2 P = some (.dK vs2) → P ∉ g2.ad → g2.F P = none → RepK K g2 vs2 res → Fin H2) :
    ∃ W : Nat → Nat → Hp → Prop, (∃ m, W 0 m H1) ∧ ∀ i m H, W i m H →
      (J.stop i H ∧ Fin H) ∨ (J.go i H ∧ ∃ Nx : Hp → Prop, (∀ H', Nx H' → ∃ m', m' < m ∧ W (i + 1) m' H') ∧ ∀ x H', J.yld i H x H' → t x (wipe σ vs) H' fun σ2 H2 => wipe σ2 vs = wipe σ vs ∧ trT K mt σ2 H2 fun b H3 =>
        if b = true then trE K mk σ2 H3 fun y H4 => trE K mv σ2 H4 fun z H5 => ∃ kvs k, y = kV k ∧ H5 P = some (.dK kvs) ∧ kvs.length < sizeLine ∧ Nx (upd H5 P (.dK (putK kvs k z))) else Nx H3) := by
  refine ⟨fun i m H2 => m = ds.length - i ∧ i ≤ ds.length ∧ ∃ g2 s3 vs2 acc2, Step K g0 H0 g2 H2 s3 ∧ EnvRel K g2 H2 σ e ∧ GLe g1 g2 ∧ H2 P = some (.dK vs2) ∧ P ∉ g2.ad ∧ g2.F P = none ∧ RepK K g2 vs2 acc2 ∧ dcL mc mt mk mv (wipeE e vs) (ds.drop i) acc2 s3 = some (res, s'),
    ⟨_, rfl, Nat.zero_le _, g1, s1, vs1, acc, st1, E1, .refl, hP, hc1, hf1, ra1, by simpa using h2⟩, ?_⟩
  rintro i m H2 ⟨rfl, hi, g2, s3, vs2, acc2, st2, E2, L2, hP2, hc2, hf2, ra, hl⟩
  by_cases hlt : i < ds.length
  · refine .inr ⟨hJ.go g2 H2 s3 i st2.rel L2 hlt, ?_⟩
    have hd : ds.drop i = ds[i] :: ds.drop (i + 1) := by rw [List.drop_eq_getElem_cons hlt]
    rw [hd] at hl
    refine ⟨fun H' => ∃ g3 s4 vs3 acc3, Step K g0 H0 g3 H' s4 ∧ EnvRel K g3 H' σ e ∧ GLe g1 g3 ∧ H' P = some (.dK vs3) ∧ P ∉ g3.ad ∧ g3.F P = none ∧ RepK K g3 vs3 acc3 ∧ dcL mc mt mk mv (wipeE e vs) (ds.drop (i + 1)) acc3 s4 = some (res, s'),
      fun H' ⟨g3, s4, vs3, acc3, q⟩ => ⟨ds.length - (i + 1), by omega, rfl, hlt, g3, s4, vs3, acc3, q⟩, fun x H3 y => ?_⟩
    obtain ⟨g3, st3, rx⟩ := hJ.yld g2 H2 s3 i x H3 ds[i] st2.rel L2 (List.getElem?_eq_getElem hlt) y
    obtain ⟨hP3, hc3, hf3⟩ := st3.apart hP2 hc2 hf2
    have st03 := st2.trans st3
    have E3 := E2.step st3
    unfold dcL at hl
    split at hl
    · cases hl
    · rename_i e1 hmc
      refine ht.run g3 H3 _ _ e1 s3 x _ _ st3.rel (E3.wipe vs) rx hmc fun σ1 SE1 hw => ⟨?_, ?_⟩
      · rw [hw]
        apply List.ext_getElem?
        intro j
        rw [wipe_get, wipe_get]
        by_cases hj : j ∈ vs
        · simp only [hj, if_true, Option.map_map]; rfl
        · simp only [hj, if_false]
      · have E1' := SE1.env
        split at hl
        · cases hl
        · rename_i s4 hmt
          refine ⟨g3, e1, s3, false, s4, st3.rel, E1', hmt, fun g4 H4 st4 => ?_⟩
          simp only [Bool.false_eq_true, if_false]
          obtain ⟨hP4, hc4, hf4⟩ := st4.apart hP3 hc3 hf3
          exact ⟨g4, s4, vs2, acc2, st03.trans st4, E3.step st4, (L2.trans st3.le).trans st4.le, hP4, hc4, hf4, (ra.mono st3.le).mono st4.le, hl⟩
        · rename_i s4 hmt
          refine ⟨g3, e1, s3, true, s4, st3.rel, E1', hmt, fun g4 H4 st4 => ?_⟩
          simp only [if_true]
          obtain ⟨hP4, hc4, hf4⟩ := st4.apart hP3 hc3 hf3
          split at hl
          · cases hl
          · rename_i kd s5 hmk
            split at hl
            · cases hl
            · rename_i y1 s6 hmv
              split at hl
              · cases hl
              · rename_i kk hkk
                split at hl
                · rename_i hsz
                  refine ⟨g4, e1, s4, kd, s5, st4.rel, E1'.step st4, hmk, fun k5 g5 H5 st5 rk => ?_⟩
                  obtain ⟨hP5, hc5, hf5⟩ := st5.apart hP4 hc4 hf4
                  refine ⟨g5, e1, s5, y1, s6, st5.rel, (E1'.step st4).step st5, hmv, fun v6 g6 H6 st6 rv => ?_⟩
                  obtain ⟨hP6, hc6, hf6⟩ := st6.apart hP5 hc5 hf5
                  have ra6 := (((ra.mono st3.le).mono st4.le).mono st5.le).mono st6.le
                  have stp := (((st03.trans st4).trans st5).trans st6).put (u := .dK (putK vs2 kk v6)) hn0 hc6 hf6
                  have E6 := ((E3.step st4).step st5).step st6
                  have Ep : EnvRel K g6 (upd H6 P (.dK (putK vs2 kk v6))) σ e := ⟨E6.len, E6.val, fun j d hj => by
                    obtain ⟨b, w1, w2, w3, w4⟩ := E6.own j d hj
                    refine ⟨b, w1, w2, w3, w4.mono .refl fun u hu => ?_⟩
                    rw [upd_ne (fun z => ?_)]
                    · exact hu
                    · subst z
                      exact hP0 hj w1, E6.apart⟩
                  exact ⟨vs2, kk, rep_key rk hkk, hP6, by rw [ra.length]; exact hsz, g6, s6, _, putD acc2 kk y1, stp, Ep, (((L2.trans st3.le).trans st4.le).trans st5.le).trans st6.le, upd_same, hc6, hf6, ra6.put rv, hl⟩
                · cases hl
  · have e0 : i = ds.length := by omega
    subst e0
    rw [List.drop_length] at hl
    cases hl
    exact .inl ⟨hJ.stop g2 H2 _ st2.rel L2, k g2 H2 vs2 st2 L2 hP2 hc2 hf2 ra⟩
theorem tDc_of {vs : List Nat} {mi : MI} {mc : MC} {mt : MT} {mk mv : ME} {t : TG} {σ : L2.St} {H : Hp} {Q : VK} (ht : CtOk K vs t mc) (h : trF K (mDc vs mi mc mt mk mv) σ H Q) : tDc (trI K mi) t (trT K mt) (trE K mk) (trE K mv) vs σ H Q := by
  obtain ⟨g, e, s, d, s', R0, E0, hm, k⟩ := h
  obtain ⟨ds, s1, h1, hm1⟩ := bnd_some hm
  obtain ⟨ys, s2, h2, hm2⟩ := bnd_some hm1
  cases hm2
  refine ⟨g, e, s, ds, s1, R0, E0, h1, fun J g1 H1 st1 hJ P hP => ?_⟩
  obtain ⟨hn0, hf1, hc1⟩ := st1.fresh hP
  have stp := st1.put (u := .dK []) hn0 hc1 hf1
  refine dc_loop ht stp (E0.step stp) hJ hn0 upd_same hc1 hf1 .nil h2 ?_ fun g2 H2 vs2 st2 L2 hP2 hc2 hf2 ra => k P g2 H2 st2 hn0 hf2 hc2 ⟨vs2, hP2, ra⟩
  exact fun {j d} hj hσ => E0.noOwn hn0 hj hσ
end
section
variable {X : Cx} {kx vx tg iter : Expr} {ifs : List Expr} {scope : Scope} {own : List (Str × Nat)} {pos : Pos} {mi : MI} {mc : MC} {mt : MT} {mk mv : ME} {t : TG} {vs : List Nat}
theorem f_dc (hvs : own.map (·.2) = vs) (hc : X.calm = true) (hN : X.N.Nodup) (hi : PI X tg iter (trI X.K mi)) (ok : BlkOk X.N X.env.scope scope own) (hct : CtOk X.K vs t mc)
    (hg : ∀ (s : Shared) (H : Hp) (C : Addr) (cl : List (Str × Addr)) (fp : List Addr), PG (X.blk s H scope (compEnvC scope cl C X.env) fp) tg t) (ht : ∀ (s : Shared) (H : Hp) (C : Addr) (cl : List (Str × Addr)) (fp : List Addr), PTs (X.blk s H scope (compEnvC scope cl C X.env) fp) ifs (trT X.K mt))
    (hk : ∀ (s : Shared) (H : Hp) (C : Addr) (cl : List (Str × Addr)) (fp : List Addr), PE (X.blk s H scope (compEnvC scope cl C X.env) fp) kx (trE X.K mk)) (he : ∀ (s : Shared) (H : Hp) (C : Addr) (cl : List (Str × Addr)) (fp : List Addr), PE (X.blk s H scope (compEnvC scope cl C X.env) fp) vx (trE X.K mv)) (hs : ∀ x, foldedSetIterable iter X.env x = pure x := by intro _; rfl) :
    PE X (.DictComp kx vx [⟨tg, iter, ifs, 0⟩] scope pos) (trF X.K (mDc vs mi mc mt mk mv)) := PE.imp (pe_dc hc hN hi ok hg ht hk he hs) fun σ H Q h => by rw [hvs]; exact tDc_of hct h
end
end Z

set_option Elab.async false
set_option linter.all false
set_option maxRecDepth 100000
set_option maxHeartbeats 4000000
namespace Z
open PySem PySem.Spec PyProof.Rows L2
/-! ### room, with no guard running -/
structure RmZ (k : Nat) (A : Around) : Prop where
  r : Room k A
  gd : A.guards = some []
theorem RmZ.mono {j k : Nat} {A : Around} (r : RmZ k A) (h : j ≤ k := by decide) : RmZ j A := ⟨r.r.mono h, r.gd⟩
theorem RmZ.deeper {k : Nat} {A : Around} (r : RmZ (k + 1) A) (env : Env) : RmZ k (A.deeper env) := ⟨r.r.deeper env, r.gd⟩
theorem RmZ.in1 {k : Nat} {A : Around} (r : RmZ (k + 1) A) : RmZ k A.in1 := ⟨r.r.in1, r.gd⟩
theorem make_guards {A : Around} {C : Addr} {us : List Value} {kw : List (Str × Value)} : (A.under (.builtin "type.__call__" ⟨.ref C :: us, kw⟩)).guards = pushGuards [] A.guards := rfl
theorem RmZ.make {k : Nat} {A : Around} (r : RmZ (k + 1) A) (C : Addr) (us : List Value) (kw : List (Str × Value)) : RmZ k (A.under (.builtin "type.__call__" ⟨.ref C :: us, kw⟩)) :=
  ⟨r.r.make C us kw, by rw [make_guards, r.gd]; rfl⟩
/-- a def's promise where no guard runs -/
structure FnZ (P : Program) (w : World) (K : PySem.W.Frag) (mg : Str → Option Value) (base : Heap) (CX : CXT) (k : Nat) (f : Addr) (fd : FuncData) (ps : List Str) (sp : Sp) : Prop where
  len : ∀ vs H Q E, sp vs H Q E → vs.length = ps.length
  run : ∀ (A : Around) (outer : List Env) (s : Shared) (H : Hp) (args : Args) (us : List Value) (vs : List V) (Q : VK) (E : XK), RmZ k A → Env0 P w K mg base A outer s H → BindsTo s fd args (ps.zip us) → Vals vs us → sp vs H Q E →
    codeAny (model P w) A (.call (.ref f) args) (CR CX outer P w H s Q E) s
theorem FnZ.mono {P : Program} {w : World} {K : PySem.W.Frag} {mg : Str → Option Value} {base : Heap} {CX : CXT} {j k : Nat} {f : Addr} {fd : FuncData} {ps : List Str} {sp : Sp} (F : FnZ P w K mg base CX j f fd ps sp) (h : j ≤ k := by decide) : FnZ P w K mg base CX k f fd ps sp :=
  ⟨F.len, fun A outer s H args us vs Q E hr => F.run A outer s H args us vs Q E (hr.mono h)⟩
theorem fnz_of {P : Program} {w : World} {K : PySem.W.Frag} {mg : Str → Option Value} {base : Heap} {CX : CXT} {x qual : Str} {params : Arguments} {body : List Stmt} {scope : Scope} {dvs : List V} {kws : List (Str × V)} {f : Addr} {fd : FuncData} {N ps : List Str} {k : Nat} {sp : Sp}
    (F : FunD K x qual params body scope dvs kws f fd) (S : FnScope N ps scope) (len : ∀ vs H Q E, sp vs H Q E → vs.length = ps.length)
    (hbody : ∀ (cdv : Value) (A : Around) (outer : List Env) (s : Shared) (H : Hp) (vs : List V) (Q : VK) (E : XK), RmZ k (A.deeper (envOfC qual scope s.heap.objs.size f cdv)) → sp vs H Q E →
      ∃ t, PSs (cxOf CX P w K mg base N qual scope f cdv A outer s H E) body t ∧ t { nx := fun _ H' => Q .non H', rt := Q } (L2.start N vs) H) : FnZ P w K mg base CX (k + 1) f fd ps sp := by
  obtain ⟨oc, od, dV, kV, doc, pm, an, cdv, ct, osl, rfl, lk, hcd, _, _⟩ := F.ex
  refine ⟨len, fun A outer s H args us vs Q E hr e0 hb r hsp => ?_⟩
  have nl := len _ _ _ _ hsp
  have kin : K.In s.heap := e0.mod.kin.keeps fun b o q => (e0.bs b o q).1
  have lim : s.heap.NoLimit := e0.mod.nolimit.keeps fun b o q => (e0.bs b o q).1
  have kinds : ∀ z ∈ ps.zip us, scope.names.lookup z.1 = some .local ∨ (scope.names.lookup z.1 = some .cell ∧ ((cellsFrom (s.heap.objs.size + 1) scope.names []).lookup z.1).isSome = true) := fun ⟨n, v⟩ hz =>
    (S.par n (List.of_mem_zip hz).1).elim .inl fun q => .inr ⟨q, PySem.W.cellsFrom_some _ _ _ (.inl q)⟩
  refine codeAny_call_function hr.r.depth (kin _ _ lk) rfl S.co S.gen rfl (PySem.W.codeRec_of kin hcd) (hb _ _ _ _ (wpAny_newFunctionEnv_cells S.kind kinds fun env he s1 ic => ?_))
  subst he
  refine ⟨lim.keeps ic.toInCall.keep, codeAny_func ?_⟩
  obtain ⟨t, pt, ht⟩ := hbody cdv A outer s H vs Q E (hr.deeper _) hsp
  have J0 := inv_start (CX := CX) (E := E) S hr.r.hd e0 nl r ic
  refine wpAny_mono (pt.run [] s1 (start N vs) H _ J0 ht) (fun fl s' h => ?_) fun e s' h => h
  cases fl with
  | next => exact let ⟨_, H', J, q⟩ := h; ⟨.non, H', J.os, J.bare, J.base, J.hok, rfl, q⟩
  | ret u => exact let ⟨v, _, H', J, rv, q⟩ := h; ⟨v, H', J.os, J.bare, J.base, J.hok, rv, q⟩
  | brk => exact let ⟨_, _, _, q⟩ := h; False.elim q
  | cont => exact let ⟨_, _, _, q⟩ := h; False.elim q
/-! ### promises by mirrors -/
abbrev MD := List D → S → Option (D × S)
def rM (K : PySem.W.Frag) (md : MD) : List V → Hp → VK → Prop := fun vs H Q => ∃ g s ds d s', SRel K g H s ∧ RepL K g vs ds ∧ md ds s = some (d, s') ∧ ∀ v g' H', Step K g H g' H' s' → Rep K g' v d → Q v H'
def rF (K : PySem.W.Frag) (md : MD) : List V → Hp → VK → Prop := fun vs H Q => ∃ g s ds d s', SRel K g H s ∧ RepL K g vs ds ∧ md ds s = some (d, s') ∧
  ∀ a g' H', Step K g H g' H' s' → H a = none → g'.F a = none → a ∉ g'.ad → OwnAt K g' H' a d → Q (.ref a) H'
def spM (K : PySem.W.Frag) (md : MD) : Sp := fun vs H Q _ => rM K md vs H Q
def spF (K : PySem.W.Frag) (md : MD) : Sp := fun vs H Q _ => rF K md vs H Q
/-- the mirror of a def from its body's -/
def startE (n m : Nat) (ds : List D) : EnvD := ds.map Sl.val ++ List.replicate (m - n) .unb
def outM (r : Option (Fl × EnvD × S)) : Option (D × S) := match r with
  | some (.nx, _, s) => some (.non, s)
  | some (.ret d, _, s) => some (d, s)
  | _ => none
def outF (r : Option (Fl × EnvD × S)) : Option (D × S) := match r with
  | some (.rto d, _, s) => some (d, s)
  | _ => none
/-- n parameters, m names in all -/
def mkD (n m : Nat) (b : MS) : MD := fun ds s => if ds.length = n then outM (b (startE n m ds) s) else none
def mkF (n m : Nat) (b : MS) : MD := fun ds s => if ds.length = n then outF (b (startE n m ds) s) else none
theorem mkD_some {n m : Nat} {b : MS} {ds : List D} {s : S} {r : D × S} (h : mkD n m b ds s = some r) : ds.length = n ∧ outM (b (startE n m ds) s) = some r := by
  unfold mkD at h
  split at h
  · exact ⟨by assumption, h⟩
  · cases h
theorem mkF_some {n m : Nat} {b : MS} {ds : List D} {s : S} {r : D × S} (h : mkF n m b ds s = some r) : ds.length = n ∧ outF (b (startE n m ds) s) = some r := by
  unfold mkF at h
  split at h
  · exact ⟨by assumption, h⟩
  · cases h
section
variable {K : PySem.W.Frag}
theorem map_val_get {ds : List D} {i : Nat} {x : Sl} (h : (ds.map Sl.val)[i]? = some x) : ∃ d, x = .val d ∧ ds[i]? = some d := by
  rw [List.getElem?_map] at h
  cases e : ds[i]? with
  | none => rw [e] at h; cases h
  | some d => rw [e] at h; cases h; exact ⟨d, rfl, rfl⟩
theorem startE_get {n m : Nat} {ds : List D} {i : Nat} {x : Sl} (h : (startE n m ds)[i]? = some x) : (∃ d, x = .val d ∧ ds[i]? = some d ∧ i < ds.length) ∨ x = .unb := by
  unfold startE at h
  by_cases hi : i < ds.length
  · rw [List.getElem?_append_left (by simpa using hi)] at h
    obtain ⟨d, h1, h2⟩ := map_val_get h
    exact .inl ⟨d, h1, h2, hi⟩
  · rw [List.getElem?_append_right (by simpa using hi), List.getElem?_replicate] at h
    split at h
    · cases h; exact .inr rfl
    · cases h
theorem env_start {g : G} {H : Hp} {N : List Str} {n m : Nat} {vs : List V} {ds : List D} (r : RepL K g vs ds) (hn : vs.length = n) (hm : N.length = m) (hle : n ≤ m) : EnvRel K g H (L2.start N vs) (startE n m ds) := by
  have hl := r.length
  refine ⟨?_, fun i d h => ?_, fun i d h => ?_, fun i j d d' a h => ?_⟩
  · unfold startE L2.start
    simp only [List.length_append, List.length_map, List.length_replicate]
    omega
  · rcases startE_get h with ⟨d', e, h1, h2⟩ | e
    · cases e
      obtain ⟨v, q1, q2⟩ := r.get h1
      refine ⟨v, ?_, q2⟩
      unfold L2.start
      rw [List.getElem?_append_left (by rw [List.length_map, hl]; exact h2), List.getElem?_map, q1]
      rfl
    · cases e
  · rcases startE_get h with ⟨d', e, _⟩ | e <;> cases e
  · rcases startE_get h with ⟨d', e, _⟩ | e <;> cases e
theorem noOwn_start {σ : L2.St} {n m : Nat} {ds : List D} {a : Addr} : ¬ OwnA σ (startE n m ds) a := fun ⟨i, d, h, _⟩ => by
  rcases startE_get h with ⟨d', e, _⟩ | e <;> cases e
/-- what a body did is a step of its def -/
theorem StepS.T {g g' : G} {H H' : Hp} {σ σ' : L2.St} {e e' : EnvD} {s' : Z.S} (x : StepS K g H σ e g' H' σ' e' s') (h : ∀ a, ¬ OwnA σ e a) : Step K g H g' H' s' :=
  ⟨x.rel, x.le, fun a u q => (x.new a u q).imp id fun z => z.elim id fun w => absurd w (h a), fun a q => (x.newc a q).imp id fun z => z.elim id fun w => absurd w (h a), fun a u q ha => (x.keep a u q ha (h a)).1⟩
theorem body_M {N : List Str} {n m : Nat} {b : MS} {vs : List V} {H : Hp} {Q : VK} (hm : N.length = m) (hle : n ≤ m) (h : rM K (mkD n m b) vs H Q) : trS K b { nx := fun _ H' => Q .non H', rt := Q } (L2.start N vs) H := by
  obtain ⟨g, s, ds, d, s', R, r, hmd, k⟩ := h
  have hn : vs.length = n := by rw [r.length]; exact (mkD_some hmd).1
  have hE : EnvRel K g H (L2.start N vs) (startE n m ds) := env_start r hn hm hle
  replace hmd := (mkD_some hmd).2
  unfold outM at hmd
  split at hmd
  · rename_i e1 s1 hb
    cases hmd
    exact ⟨g, _, s, .nx, e1, _, R, hE, hb, fun g' H' σ' st => k .non g' H' (st.T fun a => noOwn_start) .non⟩
  · rename_i d1 e1 s1 hb
    cases hmd
    exact ⟨g, _, s, .ret _, e1, _, R, hE, hb, fun g' H' σ' st v rv => k v g' H' (st.T fun a => noOwn_start) rv⟩
  · cases hmd
theorem body_F {N : List Str} {n m : Nat} {b : MS} {vs : List V} {H : Hp} {Q : VK} (hm : N.length = m) (hle : n ≤ m) (h : rF K (mkF n m b) vs H Q) : trS K b { nx := fun _ H' => Q .non H', rt := Q } (L2.start N vs) H := by
  obtain ⟨g, s, ds, d, s', R, r, hmd, k⟩ := h
  have hn : vs.length = n := by rw [r.length]; exact (mkF_some hmd).1
  have hE : EnvRel K g H (L2.start N vs) (startE n m ds) := env_start r hn hm hle
  replace hmd := (mkF_some hmd).2
  unfold outF at hmd
  split at hmd
  · rename_i d1 e1 s1 hb
    cases hmd
    exact ⟨g, _, s, .rto _, e1, _, R, hE, hb, fun g' H' σ' st a h1 h2 h3 h4 => k a g' H' (st.T fun a => noOwn_start) h1 h2 h3 h4⟩
  · cases hmd
end
/-! ### defs of the text -/
abbrev NoX : CXT := fun _ _ _ _ _ _ => False
structure DfZ (P : Program) (w : World) (K : PySem.W.Frag) (mg : Str → Option Value) (base : Heap) (k : Nat) (d : DefZ) (ps : List Str) (sp : Sp) : Prop where
  ex : ∃ fd, FunD K d.name d.qual d.params d.body d.scope (d.dvs K) [] (d.ad K) fd ∧ FnZ P w K mg base NoX k (d.ad K) fd ps sp ∧ Binds K fd ps []
section
variable {P : Program} {w : World} {K : PySem.W.Frag} {mg : Str → Option Value} {base : Heap} {d : DefZ} {N ps : List Str} {k n m : Nat} {b : MS}
theorem dfz_M (F : ∃ fd, FunD K d.name d.qual d.params d.body d.scope (d.dvs K) [] (d.ad K) fd) (S : FnScope N ps d.scope) (hp : ps.length = n) (hm : N.length = m) (hle : n ≤ m)
    (hbi : ∀ fd, FunD K d.name d.qual d.params d.body d.scope (d.dvs K) [] (d.ad K) fd → Binds K fd ps [])
    (hbody : ∀ (cdv : Value) (A : Around) (outer : List Env) (s : Shared) (H : Hp) (E : XK), RmZ k (A.deeper (envOfC d.qual d.scope s.heap.objs.size (d.ad K) cdv)) → PSs (cxOf NoX P w K mg base N d.qual d.scope (d.ad K) cdv A outer s H E) d.body (trS K b)) :
    DfZ P w K mg base (k + 1) d ps (spM K (mkD n m b)) := by
  obtain ⟨fd, F⟩ := F
  refine ⟨fd, F, fnz_of F S (fun vs H Q E h => ?_) (fun cdv A outer s H vs Q E hr h => ⟨_, hbody cdv A outer s H E hr, body_M hm hle h⟩), hbi fd F⟩
  obtain ⟨g, s, ds, x, s', R, r, hmd, _⟩ := h
  rw [r.length, hp]
  exact (mkD_some hmd).1
theorem dfz_F (F : ∃ fd, FunD K d.name d.qual d.params d.body d.scope (d.dvs K) [] (d.ad K) fd) (S : FnScope N ps d.scope) (hp : ps.length = n) (hm : N.length = m) (hle : n ≤ m)
    (hbi : ∀ fd, FunD K d.name d.qual d.params d.body d.scope (d.dvs K) [] (d.ad K) fd → Binds K fd ps [])
    (hbody : ∀ (cdv : Value) (A : Around) (outer : List Env) (s : Shared) (H : Hp) (E : XK), RmZ k (A.deeper (envOfC d.qual d.scope s.heap.objs.size (d.ad K) cdv)) → PSs (cxOf NoX P w K mg base N d.qual d.scope (d.ad K) cdv A outer s H E) d.body (trS K b)) :
    DfZ P w K mg base (k + 1) d ps (spF K (mkF n m b)) := by
  obtain ⟨fd, F⟩ := F
  refine ⟨fd, F, fnz_of F S (fun vs H Q E h => ?_) (fun cdv A outer s H vs Q E hr h => ⟨_, hbody cdv A outer s H E hr, body_F hm hle h⟩), hbi fd F⟩
  obtain ⟨g, s, ds, x, s', R, r, hmd, _⟩ := h
  rw [r.length, hp]
  exact (mkF_some hmd).1
end
section
variable {X : Cx} {d : DefZ} {ps : List Str} {k j : Nat} {sp : Sp} {x : Str} {p pos apos : Pos} {e o : Expr} {es : List Expr} {t : TA} {md : MD} {ma : MA} {mo : ME}
theorem DfZ.callR (F : DfZ X.prog X.w X.K X.mg X.base k d ps sp) (hr : RmZ k X.A) : CallR X (.ref (d.ad X.K)) (fun vs H Q => sp vs H Q fun _ _ _ => False) := fun pins s σ H xs us Q I r h => by
  obtain ⟨fd, _, F, hb⟩ := F.ex
  have hl : (us ++ []).length = ps.length := by
    rw [List.append_nil, ← r.length]
    exact F.len _ _ _ _ h
  have bt := hb s us I.kIn hl
  rw [List.append_nil] at bt
  refine wpAny_call (codeAny_mono (F.run X.A X.stack s H ⟨us, []⟩ us xs Q _ hr I.env0 bt r h) fun f s' hf => ?_)
  match f, hf with
  | .ok (.ret u), hf => exact I.after hf
theorem DfZ.kp (F : DfZ X.prog X.w X.K X.mg X.base k d ps sp) : PySem.W.keepIn X.K (.ref (d.ad X.K)) = true := let ⟨_, F, _⟩ := F.ex; F.kp
/-- f(e, ..) of a value that is known -/
theorem pe_callR {f : Addr} {r : List V → Hp → VK → Prop} (c : CallR X (.ref f) r) (hk : PySem.W.keepIn X.K (.ref f) = true) (hg : Gl X x) (hm : X.mg x = some (.ref f)) (ha : PA X (e :: es) t) (hdb : (x == ("__debug__" : Str)) = false := by decide +kernel)
    (he : starEach (e :: es) X.env = (false, eval e X.env) :: starEach es X.env := by rfl) (hpl : (backTo pos (starEach es X.env)).any (·.1) = false := by rfl) : PE X (.Call (.Name x p) (e :: es) [] pos) (tCB r t) := ⟨fun pins s σ H Q I h =>
  wpAny_Call_Name_kw (ld_glob I hg hm (PySem.W.callWith_K (h₀ := X.base) I.ok.mod.kin hk (thn (ha.run pos pins s σ H _ I h) fun us s1 ⟨vs, H1, I1, rv, q⟩ => ⟨I1.kIn, c pins s1 σ H1 vs us Q I1 rv q⟩) he hpl) hdb)⟩
def mCallD (md : MD) (ma : MA) : ME := fun e s => bnd (ma e s) md
theorem trE_callD {K : PySem.W.Frag} {σ : L2.St} {H : Hp} {Q : VK} (q : trE K (mCallD md ma) σ H Q) : tCB (fun vs H Q => spM K md vs H Q fun _ _ _ => False) (trA K ma) σ H Q := by
  obtain ⟨g, e, s, d, s', R, E, hm, k⟩ := q
  obtain ⟨ds, s1, h1, hm1⟩ := bnd_some hm
  exact ⟨g, e, s, ds, s1, R, E, h1, fun vs g1 H1 st1 rv => ⟨g1, s1, ds, d, s', st1.rel, rv, hm1, fun v g2 H2 st2 r2 => k v g2 H2 (st1.trans st2) r2⟩⟩
theorem trF_callD {K : PySem.W.Frag} {σ : L2.St} {H : Hp} {Q : VK} (q : trF K (mCallD md ma) σ H Q) : tCB (fun vs H Q => spF K md vs H Q fun _ _ _ => False) (trA K ma) σ H Q := by
  obtain ⟨g, e, s, d, s', R, E, hm, k⟩ := q
  obtain ⟨ds, s1, h1, hm1⟩ := bnd_some hm
  exact ⟨g, e, s, ds, s1, R, E, h1, fun vs g1 H1 st1 rv => ⟨g1, s1, ds, d, s', st1.rel, rv, hm1, fun a g2 H2 st2 q1 q2 q3 q4 => k a g2 H2 (st1.trans st2) (st1.noneOf q1) q2 q3 q4⟩⟩
theorem d_call (F : DfZ X.prog X.w X.K X.mg X.base j d ps (spM X.K md)) (hr : RmZ k X.A) (hj : j ≤ k) (hg : Gl X x) (hm : X.mg x = some (.ref (d.ad X.K))) (ha : PA X (e :: es) (trA X.K ma)) (hdb : (x == ("__debug__" : Str)) = false := by decide +kernel)
    (he : starEach (e :: es) X.env = (false, eval e X.env) :: starEach es X.env := by rfl) (hpl : (backTo pos (starEach es X.env)).any (·.1) = false := by rfl) : PE X (.Call (.Name x p) (e :: es) [] pos) (trE X.K (mCallD md ma)) :=
  PE.imp (pe_callR (F.callR (hr.mono hj)) F.kp hg hm ha hdb he hpl) fun _ _ _ => trE_callD
theorem f_call (F : DfZ X.prog X.w X.K X.mg X.base j d ps (spF X.K md)) (hr : RmZ k X.A) (hj : j ≤ k) (hg : Gl X x) (hm : X.mg x = some (.ref (d.ad X.K))) (ha : PA X (e :: es) (trA X.K ma)) (hdb : (x == ("__debug__" : Str)) = false := by decide +kernel)
    (he : starEach (e :: es) X.env = (false, eval e X.env) :: starEach es X.env := by rfl) (hpl : (backTo pos (starEach es X.env)).any (·.1) = false := by rfl) : PE X (.Call (.Name x p) (e :: es) [] pos) (trF X.K (mCallD md ma)) :=
  PE.imp (pe_callR (F.callR (hr.mono hj)) F.kp hg hm ha hdb he hpl) fun _ _ _ => trF_callD
/-- a new object becomes a cell -/
def mCel (m : ME) : ME := fun e s => bnd (m e s) fun d s => some (.cel s.length, s ++ [d])
theorem trE_cel {K : PySem.W.Frag} {m : ME} {σ : L2.St} {H : Hp} {Q : VK} (q : trE K (mCel m) σ H Q) : trF K m σ H Q := by
  obtain ⟨g, e, s, d, s', R, E, hm, k⟩ := q
  obtain ⟨d1, s1, h1, hm1⟩ := bnd_some hm
  cases hm1
  refine ⟨g, e, s, d1, s1, R, E, h1, fun a g1 H1 st1 hn hf hc o => ?_⟩
  have L : GLe g1 ⟨g1.F, g1.ad ++ [a]⟩ := ⟨fun _ _ h => h, fun n b h => by
    have hl := (List.getElem?_eq_some_iff.mp h).1
    show (g1.ad ++ [a])[n]? = some b
    rw [List.getElem?_append_left hl]; exact h⟩
  have hlen := st1.rel.len
  refine k (.ref a) ⟨g1.F, g1.ad ++ [a]⟩ H1 ⟨⟨st1.rel.sub, by simp [hlen], fun n c hq => ?_, fun n m b h1 h2 => ?_⟩, st1.le.trans L, st1.new, fun b hb => ?_, st1.keep⟩ (.cel ?_)
  · by_cases hn' : n < s1.length
    · rw [List.getElem?_append_left hn'] at hq
      obtain ⟨b, q1, q2, q3⟩ := st1.rel.cell n c hq
      exact ⟨b, L.ad n b q1, q2, q3.mono L fun _ q => q⟩
    · rw [List.getElem?_append_right (by omega)] at hq
      have : n - s1.length = 0 := by
        have := (List.getElem?_eq_some_iff.mp hq).1
        simp at this; omega
      rw [this] at hq
      cases hq
      refine ⟨a, ?_, hf, (o.mono L fun _ q => q).toC⟩
      show (g1.ad ++ [a])[n]? = some a
      rw [List.getElem?_append_right (by omega), show n - g1.ad.length = 0 by omega]
      rfl
  · have cs : ∀ {n : Nat} {b : Addr}, (g1.ad ++ [a])[n]? = some b → (n < g1.ad.length ∧ g1.ad[n]? = some b) ∨ (n = g1.ad.length ∧ b = a) := fun {n b} h => by
      by_cases hn' : n < g1.ad.length
      · rw [List.getElem?_append_left hn'] at h; exact .inl ⟨hn', h⟩
      · rw [List.getElem?_append_right (by omega)] at h
        have h3 := (List.getElem?_eq_some_iff.mp h).1
        simp at h3
        have : n - g1.ad.length = 0 := by omega
        rw [this] at h
        cases h
        exact .inr ⟨by omega, rfl⟩
    have nin : ∀ {n : Nat}, g1.ad[n]? ≠ some a := fun {n} h => hc (List.mem_iff_getElem?.mpr ⟨n, h⟩)
    rcases cs h1 with ⟨q1, q2⟩ | ⟨q1, q2⟩ <;> rcases cs h2 with ⟨q3, q4⟩ | ⟨q3, q4⟩
    · exact st1.rel.inj n m b q2 q4
    · subst q4; exact absurd q2 nin
    · subst q2; exact absurd q4 nin
    · omega
  · rcases List.mem_append.mp hb with z | z
    · exact st1.newc b z
    · rw [List.mem_singleton.mp z]; exact .inr hn
  · show (g1.ad ++ [a])[s1.length]? = some a
    rw [List.getElem?_append_right (by omega), show s1.length - g1.ad.length = 0 by omega]
    rfl
theorem d_cel {m : ME} (h : PE X e (trF X.K m)) : PE X e (trE X.K (mCel m)) := PE.imp h fun _ _ _ => trE_cel
end
end Z

set_option Elab.async false
set_option linter.all false
set_option maxRecDepth 100000
set_option maxHeartbeats 4000000
namespace Z
open PySem PySem.Spec PyProof.Rows L2
/-! ### either reading -/
def mAlt (m1 m2 : ME) : ME := fun e s => match m1 e s with
  | some r => some r
  | none => m2 e s
/-! ### instances -/
def lookF (fs : List (Str × D)) (f : Str) : Option D := fs.lookup f
section
variable {K : PySem.W.Frag} {g : G}
theorem repF_look {f : Str} : ∀ {vs : List (Str × V)} {ds : List (Str × D)}, RepF K g vs ds → (vs.lookup f = none ∧ lookF ds f = none) ∨ ∃ v d, vs.lookup f = some v ∧ lookF ds f = some d ∧ Rep K g v d
  | _, _, .nil => .inl ⟨rfl, rfl⟩
  | _, _, .cons (k := k) h r => by
    by_cases e : f = k
    · subst e
      exact .inr ⟨_, _, by simp [List.lookup], by simp [lookF, List.lookup], h⟩
    · have e' : (f == k) = false := by simpa using e
      rcases repF_look (f := f) r with ⟨h1, h2⟩ | ⟨v, d, h1, h2, h3⟩
      · refine .inl ⟨?_, ?_⟩
        · simp only [List.lookup, e']; exact h1
        · unfold lookF at h2 ⊢; simp only [List.lookup, e']; exact h2
      · refine .inr ⟨v, d, ?_, ?_, h3⟩
        · simp only [List.lookup, e']; exact h1
        · unfold lookF at h2 ⊢; simp only [List.lookup, e']; exact h2
theorem ins_H {H : Hp} {s : S} {a dx C : Addr} {fs : List (Str × V)} (R : SRel K g H s) (h : g.F a = some (.ins C dx fs)) : H a = some (.ins C dx fs) := by
  rcases R.sub _ _ h with z | ⟨⟨_, z⟩, _⟩
  · exact z
  · cases z
end
section
variable {X : Cx} {a o e : Expr} {es : List Expr} {mo m1 m2 : ME} {ma : MA} {md : MD} {c f m : Str} {pos apos p : Pos} {d : DefZ} {ps : List Str} {j k : Nat}
/-- a field -/
def mFld (c f : Str) (mo : ME) : ME := fun e s => bnd (mo e s) fun d s => match d with
  | .obj c' fs => if c' = c then lft (lookF fs f) s else none
  | _ => none
theorem d_fld (c : Str) (ho : PE X o (trE X.K mo)) (hc : Cls X.K (He.ga X.K c)) (hn : NoAttr X.K (He.ga X.K c) f) (hb : attributeBase o f X.env (eval o X.env) = eval o X.env := by rfl) : PE X (.Attribute o f pos) (trE X.K (mFld c f mo)) := PE.imp (pe_fld ho hb) fun σ H Q ⟨g, e, s, d, s', R, E, hm, k⟩ => by
  obtain ⟨d1, s1, h1, hm1⟩ := bnd_some hm
  split at hm1
  · rename_i c' fs
    split at hm1
    · rename_i hcc
      subst hcc
      obtain ⟨h4, h5⟩ := lft_some hm1
      dsimp only at h4 h5
      subst h5
      refine ⟨g, e, s, _, _, R, E, h1, fun v g1 H1 st1 rv => ?_⟩
      cases rv with
      | obj hF rF =>
        rcases repF_look (f := f) rF with ⟨_, q⟩ | ⟨v, d', q1, q2, q3⟩
        · rw [h4] at q; cases q
        · rw [h4] at q2; cases q2
          exact ⟨_, _, _, _, _, rfl, ins_H st1.rel hF, hc, hn, q1, k _ _ _ st1 q3⟩
    · cases hm1
  · cases hm1
def mMeth (c m : Str) (md : MD) (mo : ME) (ma : MA) : ME := fun e s => bnd (mo e s) fun d s => match d with
  | .obj c' fs => if c' = c ∧ lookF fs m = none then bnd (ma e s) fun ds s => md (.obj c' fs :: ds) s else none
  | _ => none
def mMeth0 (c m : Str) (md : MD) (mo : ME) : ME := fun e s => bnd (mo e s) fun d s => match d with
  | .obj c' fs => if c' = c ∧ lookF fs m = none then md [.obj c' fs] s else none
  | _ => none
/-- a property -/
def mProp (c : Str) (md : MD) (mo : ME) : ME := fun e s => bnd (mo e s) fun d s => match d with
  | .obj c' fs => if c' = c then md [.obj c' fs] s else none
  | _ => none
theorem getattr_prop {pins : List (Addr × Obj)} {σ : L2.St} {H : Hp} {s : Shared} {Q : VK} {b : Bool} {E' : Value → Shared → Prop} {a0 dx C pa : Addr} {fs : List (Str × V)} {sp : Sp} (I : Inv X pins σ H s) (ea : H a0 = some (.ins C dx fs)) (hc : Cls X.K C) (hp : PropOf X.K C f pa (d.ad X.K))
    (F : DfZ X.prog X.w X.K X.mg X.base k d ps sp) (hr : RmZ (k + 1) X.A) (h : sp [.ref a0] H Q fun _ _ _ => False) : wpAny (model X.prog X.w) X.A (getAttr (.ref a0) f b) (EP X pins σ Q) E' s := by
  obtain ⟨fd, _, Fz, hb⟩ := F.ex
  obtain ⟨mA, ob, _⟩ := ins_get I.hok ea
  obtain ⟨od, inst, _⟩ := ob.look
  obtain ⟨rest, hrec⟩ := hp.rec_
  have J := I.tok (s.toks + 1)
  have isC : (PySem.W.clsIn X.K C).isSome = true := let ⟨_, q, _⟩ := PySem.W.any_some hc.hd; by rw [q]; rfl
  have hl : ([Value.ref a0] ++ []).length = ps.length := (Fz.len _ _ _ _ h).symm ▸ rfl
  refine PySem.W.get_bind I.kIn inst (PySem.W.plainGet_of (hc.get f)).1 (PySem.W.findObj_data isC hp.at_ hp.get hp.tak) (PySem.W.plainGet_of (hc.get f)).2 (wpAny_call (PySem.W.prop_get (s := { s with toks := s.toks + 1 }) I.kIn hrec ?_))
  refine codeAny_mono (Fz.run X.A.in1 X.stack { s with toks := s.toks + 1 } H ⟨[.ref a0], []⟩ [.ref a0] [.ref a0] Q _ hr.in1 J.env0.in1 (hb _ [.ref a0] J.kIn hl) (.cons rfl .nil) h) fun r s' q => ?_
  match r, q with
  | .ok (.ret u), q =>
    obtain ⟨v, H', J3, rv, q3⟩ := J.after q
    show wpAny _ _ (handedOut u) _ _ _
    rw [PySem.W.handedOut_of (handed_of rv)]
    exact wpAny_pure ⟨v, H', J3, rv, q3⟩
theorem d_prop (c : Str) {pa : Addr} (ho : PE X o (trE X.K mo)) (hc : Cls X.K (He.ga X.K c)) (hp : PropOf X.K (He.ga X.K c) f pa (d.ad X.K)) (F : DfZ X.prog X.w X.K X.mg X.base j d ps (spM X.K md)) (hr : RmZ k X.A) (hj : j + 1 ≤ k)
    (hb : attributeBase o f X.env (eval o X.env) = eval o X.env := by rfl) : PE X (.Attribute o f pos) (trE X.K (mProp c md mo)) := ⟨fun pins s σ H Q I ⟨g, e, s0, d0, s', R, E, hm, k⟩ => by
  obtain ⟨d1, s1, h1, hm1⟩ := bnd_some hm
  split at hm1
  · rename_i c' fs
    split at hm1
    · rename_i hcc
      subst hcc
      refine attr_of hb (thn (ho.run pins s σ H (fun v H1 => ∃ a0 dx vs, v = .ref a0 ∧ H1 a0 = some (.ins (He.ga X.K c') dx vs) ∧ rM X.K md [.ref a0] H1 Q) I ⟨g, e, s0, _, _, R, E, h1, fun v g1 H1 st1 rv => ?_⟩) fun u s2 ⟨x, H1, I1, rx, a0, dx, vs, ex, ea, q⟩ => ?_)
      · cases rv with
        | obj hF rF => exact ⟨_, _, _, rfl, ins_H st1.rel hF, g1, s1, _, d0, s', st1.rel, .cons (.obj hF rF) .nil, hm1, fun v g2 H2 st2 r2 => k v g2 H2 (st1.trans st2) r2⟩
      · subst ex
        obtain rfl : u = Value.ref a0 := rx
        exact getattr_prop I1 ea hc hp F (hr.mono hj) q
    · cases hm1
  · cases hm1⟩
end
end Z

set_option Elab.async false
set_option linter.all false
set_option maxRecDepth 100000
set_option maxHeartbeats 4000000
namespace Z
open PySem PySem.Spec PyProof.Rows L2
/-! ### a new instance: its __init__ -/
structure SelfAt (K : PySem.W.Frag) (g : G) (H : Hp) (x : Addr) (c : Str) (fs : List (Str × D)) : Prop where
  F : g.F x = none
  ad : x ∉ g.ad
  o : OwnAt K g H x (.obj c fs)
/-- a step in which x alone may be written -/
structure StepN (K : PySem.W.Frag) (g : G) (H : Hp) (x : Addr) (g' : G) (H' : Hp) (s' : Z.S) : Prop where
  rel : SRel K g' H' s'
  le : GLe g g'
  new : ∀ a u, g'.F a = some u → g.F a = some u ∨ Fre H a ∨ a = x
  newc : ∀ a, a ∈ g'.ad → a ∈ g.ad ∨ H a = none
  keep : ∀ a u, H a = some u → a ∉ g.ad → a ≠ x → H' a = some u
  has : ∀ a u, H a = some u → ∃ u', H' a = some u'
section
variable {K : PySem.W.Frag} {g g' g'' : G} {H H' H'' : Hp} {s s' s'' : Z.S} {x : Addr}
theorem Step.N (st : Step K g H g' H' s') (x : Addr) : StepN K g H x g' H' s' := ⟨st.rel, st.le, fun a u h => (st.new a u h).imp id .inl, st.newc, fun a u h ha _ => st.keep a u h ha, fun a u h => st.has h⟩
theorem StepN.noneOf (st : StepN K g H x g' H' s') {a : Addr} (h : H' a = none) : H a = none := by
  cases q : H a with
  | none => rfl
  | some u => obtain ⟨u', z⟩ := st.has a u q; rw [h] at z; cases z
theorem StepN.trans (a : StepN K g H x g' H' s') (b : StepN K g' H' x g'' H'' s'') : StepN K g H x g'' H'' s'' := by
  refine ⟨b.rel, a.le.trans b.le, fun y u h => ?_, fun y h => ?_, fun y u h hy hx => ?_, fun y u h => ?_⟩
  · rcases b.new y u h with q | q | q
    · exact a.new y u q
    · rcases q with q | ⟨vs, q⟩
      · exact .inr (.inl (.inl (a.noneOf q)))
      · by_cases hx : y = x
        · exact .inr (.inr hx)
        · cases z : H y with
          | none => exact .inr (.inl (.inl z))
          | some w =>
            by_cases hy : y ∈ g.ad
            · exact absurd q (a.rel.noT (mem_ad a.le hy) vs)
            · have := a.keep y w z hy hx
              rw [q] at this; cases this
              exact .inr (.inl (.inr ⟨vs, z⟩))
    · exact .inr (.inr q)
  · rcases b.newc y h with q | q
    · exact a.newc y q
    · exact .inr (a.noneOf q)
  · refine b.keep y u (a.keep y u h hy hx) (fun z => ?_) hx
    rcases a.newc y z with q | q
    · exact hy q
    · rw [h] at q; cases q
  · obtain ⟨u', q⟩ := a.has y u h
    exact b.has y u' q
theorem SelfAt.step {c : Str} {fs : List (Str × D)} (a : SelfAt K g H x c fs) (st : Step K g H g' H' s') : SelfAt K g' H' x c fs := by
  obtain ⟨u, hu⟩ := a.o.has
  obtain ⟨h1, h2, h3⟩ := st.apart hu a.ad a.F (fun vs z => a.o.noT vs (z ▸ hu))
  exact ⟨h3, h2, a.o.mono st.le fun w hw => st.keep x w hw a.ad⟩
end
def NoOwn (e : EnvD) : Prop := ∀ (i : Nat) (d : D), e[i]? ≠ some (Sl.own d)
abbrev MN := EnvD → List (Str × D) → S → Option (List (Str × D) × S)
def trN (K : PySem.W.Frag) (c : Str) (m : MN) : TS := fun Dn σ H => ∃ g e s x fs0 fs s', SRel K g H s ∧ EnvRel K g H σ e ∧ NoOwn e ∧ σ[0]? = some (some (.ref x)) ∧ SelfAt K g H x c fs0 ∧ m e fs0 s = some (fs, s') ∧
  ∀ g' H', StepN K g H x g' H' s' → SelfAt K g' H' x c fs → Dn.nx σ H'
def bndN {α : Type} (x : Option (α × S)) (f : α → S → Option (List (Str × D) × S)) : Option (List (Str × D) × S) := match x with
  | some (a, s) => f a s
  | none => none
theorem bndN_some {α : Type} {x : Option (α × S)} {f : α → S → Option (List (Str × D) × S)} {r : List (Str × D) × S} (h : bndN x f = some r) : ∃ a s, x = some (a, s) ∧ f a s = some r := by
  cases x with
  | none => cases h
  | some p => exact ⟨p.1, p.2, rfl, h⟩
def nNil : MN := fun _ fs s => some (fs, s)
def nSeq (m1 m2 : MN) : MN := fun e fs s => bndN (m1 e fs s) fun fs s => m2 e fs s
def nExpr (m : ME) : MN := fun e fs s => bndN (m e s) fun _ s => some (fs, s)
def nNot (m : MT) : MN := fun e fs s => bndN (m e s) fun b s => match b with
  | true => none
  | false => some (fs, s)
def putFD (f : Str) (d : D) : List (Str × D) → List (Str × D)
  | [] => [(f, d)]
  | (g, x) :: r => if g = f then (g, d) :: r else (g, x) :: putFD f d r
def nFld (f : Str) (m : ME) : MN := fun e fs s => bndN (m e s) fun d s => if fs.length < 1000 then some (putFD f d fs, s) else none
theorem RepF.length {K : PySem.W.Frag} {g : G} : ∀ {vs ds}, RepF K g vs ds → vs.length = ds.length
  | _, _, .nil => rfl
  | _, _, .cons _ r => by simp [RepF.length r]
theorem RepF.put {K : PySem.W.Frag} {g : G} {f : Str} {v : V} {d : D} (h : Rep K g v d) : ∀ {vs ds}, RepF K g vs ds → RepF K g (putF f v vs) (putFD f d ds)
  | _, _, .nil => .cons h .nil
  | _, _, .cons (k := k) q r => by
    unfold putF putFD
    by_cases e : k = f
    · rw [if_pos e, if_pos e]; exact .cons h r
    · rw [if_neg e, if_neg e]; exact .cons q (RepF.put h r)
section
variable {X : Cx} {a : Expr} {st : Stmt} {sts : List Stmt} {me : ME} {mt : MT} {m1 m2 : MN} {c f : Str} {pos : Pos}
theorem n_nil : PSs X [] (trN X.K c nNil) := PSs.imp pss_nil fun Dn σ H ⟨g, e, s, x, fs0, fs, s', R, E, no, hx, sa, hm, k⟩ => by
  cases hm
  exact k g H ((Step.refl R).N x) sa
theorem trN_seq {K : PySem.W.Frag} {Dn : Ends} {σ : L2.St} {H : Hp} (h : trN K c (nSeq m1 m2) Dn σ H) : trN K c m1 { Dn with nx := trN K c m2 Dn } σ H := by
  obtain ⟨g, e, s, x, fs0, fs, s', R, E, no, hx, sa, hm, k⟩ := h
  obtain ⟨f1, s1, h1, h2⟩ := bndN_some hm
  refine ⟨g, e, s, x, fs0, f1, s1, R, E, no, hx, sa, h1, fun g1 H1 st1 sa1 => ⟨g1, e, s1, x, f1, fs, s', st1.rel, ⟨E.len, fun i d q => ?_, fun i d q => absurd q (no i d), fun i j d d' a q => absurd q (no i d)⟩, no, hx, sa1, h2, fun g2 H2 st2 sa2 => k g2 H2 (st1.trans st2) sa2⟩⟩
  obtain ⟨v, q1, q2⟩ := E.val i d q
  exact ⟨v, q1, q2.mono st1.le⟩
theorem n_cons (h1 : PS X st (trN X.K c m1)) (h2 : PSs X sts (trN X.K c m2)) : PSs X (st :: sts) (trN X.K c (nSeq m1 m2)) := PSs.imp (pss_cons h1 h2) fun _ _ _ h => trN_seq h
theorem n_expr (h : PE X a (trE X.K me)) (hs : swapsWith a none pos.line X.env = pure false := by rfl) : PS X (.Expr a pos) (trN X.K c (nExpr me)) := PS.imp (ps_expr h hs) fun Dn σ H ⟨g, e, s, x, fs0, fs, s', R, E, no, hx, sa, hm, k⟩ => by
  obtain ⟨d, s1, h1, hm1⟩ := bndN_some hm
  cases hm1
  exact ⟨g, e, s, d, _, R, E, h1, fun v g1 H1 st1 rv => k g1 H1 (st1.N x) (sa.step st1)⟩
theorem n_not {t : Expr} {sa : List Stmt} (ht : PT X t (trT X.K mt)) : PS X (.If t sa [] pos) (trN X.K c (nNot mt)) := PS.imp (ps_if (t := fun _ _ _ => False) ht ⟨fun _ _ _ _ _ _ h => h.elim⟩ pss_nil) fun Dn σ H ⟨g, e, s, x, fs0, fs, s', R, E, no, hx, sa, hm, k⟩ => by
  obtain ⟨z, s1, h1, hm1⟩ := bndN_some hm
  cases z with
  | true => cases hm1
  | false =>
    cases hm1
    exact ⟨g, e, s, false, _, R, E, h1, fun g1 H1 st1 => iteF (k g1 H1 (st1.N x) (sa.step st1))⟩
theorem put_self {K : PySem.W.Frag} {g g1 : G} {H H1 : Hp} {s1 : Z.S} {x : Addr} {c f : Str} {fs : List (Str × D)} {v : V} {d : D} {dx : Addr} {vs : List (Str × V)} (st : Step K g H g1 H1 s1) (sa : SelfAt K g1 H1 x c fs) (hi : H1 x = some (.ins (He.ga K c) dx vs)) (rf : RepF K g1 vs fs) (rv : Rep K g1 v d) :
    StepN K g H x g1 (upd H1 x (.ins (He.ga K c) dx (putF f v vs))) s1 ∧ SelfAt K g1 (upd H1 x (.ins (He.ga K c) dx (putF f v vs))) x c (putFD f d fs) := by
  have neF : ∀ b w, g1.F b = some w → b ≠ x := fun b w q z => by subst z; rw [sa.F] at q; cases q
  refine ⟨⟨⟨fun b w q => ?_, st.rel.len, fun n q hq => ?_, st.rel.inj⟩, st.le, fun a u h => (st.new a u h).imp id .inl, st.newc, fun b w q hb hx => ?_, fun b w q => ?_⟩, sa.F, sa.ad, dx, putF f v vs, upd_same, rf.put rv⟩
  · rw [upd_ne (neF b w q)]; exact st.rel.sub b w q
  · obtain ⟨b, w1, w2, w3⟩ := st.rel.cell n q hq
    refine ⟨b, w1, w2, w3.mono .refl fun u hu => ?_⟩
    rw [upd_ne (fun z => sa.ad (by subst z; exact List.mem_iff_getElem?.mpr ⟨n, w1⟩))]; exact hu
  · rw [upd_ne hx]; exact st.keep b w q hb
  · by_cases hb : b = x
    · subst hb; exact ⟨_, upd_same⟩
    · rw [upd_ne hb]; exact st.has q
theorem n_fld {x0 : Str} {p pos' : Pos} (hN : X.N[0]? = some x0) (hv : Vis X.env.scope x0) (h : PE X a (trE X.K me)) (hc : Cls X.K (He.ga X.K c)) (hn : NoAttr X.K (He.ga X.K c) f) (hd : (x0 == ("__debug__" : Str)) = false := by decide +kernel) (hcd : (x0 == ("__classdict__" : Str)) = false := by decide +kernel)
    (hs : swapsWith a (some (.Attribute (.Name x0 p) f pos')) pos.line X.env = pure false := by rfl) :
    PS X (.Assign [.Attribute (.Name x0 p) f pos'] a pos) (trN X.K c (nFld f me)) := PS.imp (ps_fld (pe_var hN hv hd hcd) h hs) fun Dn σ H ⟨g, e, s, x, fs0, fs, s', R, E, no, hx, sa, hm, k⟩ => by
  obtain ⟨d, s1, h1, hm1⟩ := bndN_some hm
  split at hm1
  · rename_i hl
    cases hm1
    refine ⟨g, e, s, d, _, R, E, h1, fun v g1 H1 st1 rv => ?_⟩
    have sa1 := sa.step st1
    obtain ⟨dx, vs, q1, q2⟩ := sa1.o
    obtain ⟨z1, z2⟩ := put_self (f := f) st1 sa1 q1 q2 rv
    exact ⟨_, hx, x, _, dx, vs, rfl, q1, hc, hn, by rw [q2.length]; exact hl, k g1 _ z1 z2⟩
  · cases hm1
end
/-! ### promises of __init__ -/
abbrev MI0 := List D → S → Option (List (Str × D) × S)
def spI (K : PySem.W.Frag) (c : Str) (mi : MI0) : Sp := fun vs H Q _ => ∃ x ws g s ds fs s', vs = .ref x :: ws ∧ SelfAt K g H x c [] ∧ SRel K g H s ∧ RepL K g ws ds ∧ mi ds s = some (fs, s') ∧ ∀ g' H', StepN K g H x g' H' s' → SelfAt K g' H' x c fs → Q .non H'
/-- n parameters behind self, m names in all -/
def startI (n m : Nat) (ds : List D) : EnvD := .unb :: startE n (m - 1) ds
def mkI (n m : Nat) (b : MN) : MI0 := fun ds s => if ds.length = n then b (startI n m ds) [] s else none
theorem mkI_some {n m : Nat} {b : MN} {ds : List D} {s : S} {r : List (Str × D) × S} (h : mkI n m b ds s = some r) : ds.length = n ∧ b (startI n m ds) [] s = some r := by
  unfold mkI at h
  split at h
  · exact ⟨by assumption, h⟩
  · cases h
theorem noOwn_startI {n m : Nat} {ds : List D} : NoOwn (startI n m ds) := fun i d h => by
  cases i with
  | zero => cases h
  | succ i =>
    have h : (startE n (m - 1) ds)[i]? = some (Sl.own d) := h
    rcases startE_get h with ⟨d', e, _⟩ | e <;> cases e
theorem env_startI {K : PySem.W.Frag} {g : G} {H : Hp} {N : List Str} {n m : Nat} {x : Addr} {vs : List V} {ds : List D} (r : RepL K g vs ds) (hn : vs.length = n) (hm : N.length = m) (hle : n + 1 ≤ m) : EnvRel K g H (L2.start N (.ref x :: vs)) (startI n m ds) := by
  have hl := r.length
  refine ⟨?_, fun i d h => ?_, fun i d h => absurd h (noOwn_startI i d), fun i j d d' a h => absurd h (noOwn_startI i d)⟩
  · unfold startI startE L2.start
    simp only [List.length_append, List.length_map, List.length_replicate, List.length_cons]
    omega
  · cases i with
    | zero => cases h
    | succ i =>
      have h : (startE n (m - 1) ds)[i]? = some (Sl.val d) := h
      rcases startE_get h with ⟨d', e, h1, h2⟩ | e
      · cases e
        obtain ⟨v, q1, q2⟩ := r.get h1
        refine ⟨v, ?_, q2⟩
        unfold L2.start
        rw [List.getElem?_append_left (by rw [List.length_map, List.length_cons, hl]; omega), List.getElem?_map, List.getElem?_cons_succ, q1]
        rfl
      · cases e
section
variable {P : Program} {w : World} {K : PySem.W.Frag} {mg : Str → Option Value} {base : Heap} {d : DefZ} {N ps : List Str} {k n m : Nat} {b : MN} {c : Str}
theorem dfz_I (F : ∃ fd, FunD K d.name d.qual d.params d.body d.scope (d.dvs K) [] (d.ad K) fd) (S : FnScope N ps d.scope) (hp : ps.length = n + 1) (hm : N.length = m) (hle : n + 1 ≤ m)
    (hbi : ∀ fd, FunD K d.name d.qual d.params d.body d.scope (d.dvs K) [] (d.ad K) fd → Binds K fd ps [])
    (hbody : ∀ (cdv : Value) (A : Around) (outer : List Env) (s : Shared) (H : Hp) (E : XK), RmZ k (A.deeper (envOfC d.qual d.scope s.heap.objs.size (d.ad K) cdv)) → PSs (cxOf NoX P w K mg base N d.qual d.scope (d.ad K) cdv A outer s H E) d.body (trN K c b)) :
    DfZ P w K mg base (k + 1) d ps (spI K c (mkI n m b)) := by
  obtain ⟨fd, F⟩ := F
  refine ⟨fd, F, fnz_of F S (fun vs H Q E h => ?_) (fun cdv A outer s H vs Q E hr h => ⟨_, hbody cdv A outer s H E hr, ?_⟩), hbi fd F⟩
  · obtain ⟨x, ws, g, s, ds, fs, s', rfl, sa, R, r, hmd, _⟩ := h
    rw [List.length_cons, r.length, hp, (mkI_some hmd).1]
  · obtain ⟨x, ws, g, s0, ds, fs, s', rfl, sa, R, r, hmd, kk⟩ := h
    obtain ⟨h1, h2⟩ := mkI_some hmd
    exact ⟨g, _, s0, x, [], fs, s', R, env_startI r (by rw [r.length]; exact h1) hm hle, noOwn_startI, rfl, sa, h2, fun g' H' st sa' => kk g' H' st sa'⟩
end
/-- the new object of a class -/
def mdMake (c : Str) (mi : MI0) : MD := fun ds s => match mi ds s with
  | some (fs, s') => some (.obj c fs, s')
  | none => none
section
variable {X : Cx} {d : DefZ} {ps : List Str} {j k : Nat} {mi : MI0} {c x : Str} {p pos : Pos} {e : Expr} {es : List Expr} {ma : MA} {t : TA}
theorem made_rel {K : PySem.W.Frag} {g : G} {H : Hp} {s : S} {x dx C : Addr} (R : SRel K g H s) (hx : H x = none) (hd : H dx = none) : SRel K g (upd (upd H dx (.own x)) x (.ins C dx [])) s := by
  have kp : ∀ b u, H b = some u → upd (upd H dx (.own x)) x (.ins C dx []) b = some u := fun b u q => by
    rw [upd_ne (ne_of_none q hx), upd_ne (ne_of_none q hd)]; exact q
  refine ⟨fun a u q => ?_, R.len, fun n q hq => ?_, R.inj⟩
  · rcases R.sub a u q with z | ⟨z1, o, z⟩
    · exact .inl (kp _ _ z)
    · exact .inr ⟨z1, o, kp _ _ z⟩
  · obtain ⟨b, w1, w2, w3⟩ := R.cell n q hq
    exact ⟨b, w1, w2, w3.mono .refl fun u hu => kp _ _ hu⟩
theorem free_of {K : PySem.W.Frag} {g : G} {H : Hp} {s : S} {x : Addr} (R : SRel K g H s) (hx : H x = none) : g.F x = none ∧ x ∉ g.ad := by
  refine ⟨?_, fun z => ?_⟩
  · cases q : g.F x with
    | none => rfl
    | some u =>
      rcases R.sub x u q with z | ⟨_, _, z⟩
      · rw [hx] at z; cases z
      · rw [hx] at z; cases z
  · obtain ⟨u, hu⟩ := R.has z
    rw [hx] at hu; cases hu
theorem makeR_core {K : PySem.W.Frag} {H : Hp} {Q : VK} {vs : List V} (h : rF K (mdMake c mi) vs H Q) {x dx : Addr} (hx : H x = none) (hd : H dx = none) (ne : dx ≠ x) :
    spI K c mi (.ref x :: vs) (upd (upd H dx (.own x)) x (.ins (He.ga K c) dx [])) (fun v H2 => v = .non ∧ Q (.ref x) H2) fun _ _ _ => False := by
  obtain ⟨g, s, ds, o, s', R, r, hm, k⟩ := h
  unfold mdMake at hm
  split at hm
  · rename_i fs s1 hmi
    cases hm
    obtain ⟨f1, f2⟩ := free_of R hx
    refine ⟨x, vs, g, s, ds, fs, _, rfl, ⟨f1, f2, dx, [], upd_same, .nil⟩, made_rel R hx hd, r, hmi, fun g' H' st sa => ⟨rfl, ?_⟩⟩
    have bk : ∀ a, upd (upd H dx (.own x)) x (.ins (He.ga K c) dx []) a = none → H a = none := fun a q => by
      by_cases h1 : a = x
      · rw [h1]; exact hx
      · rw [upd_ne h1] at q
        by_cases h2 : a = dx
        · rw [h2]; exact hd
        · rw [upd_ne h2] at q; exact q
    have bf : ∀ a, Fre (upd (upd H dx (.own x)) x (.ins (He.ga K c) dx [])) a → Fre H a := fun a q => by
      rcases q with q | ⟨vs, q⟩
      · exact .inl (bk a q)
      · by_cases h1 : a = x
        · subst h1; rw [upd_same] at q; cases q
        · rw [upd_ne h1] at q
          by_cases h2 : a = dx
          · subst h2; rw [upd_same] at q; cases q
          · rw [upd_ne h2] at q; exact .inr ⟨vs, q⟩
    refine k x g' H' ⟨st.rel, st.le, fun a u q => (st.new a u q).imp id (fun z => (z.elim (bf a) fun z => by subst z; rw [sa.F] at q; cases q)), fun a q => (st.newc a q).imp id (bk a), fun a u q ha => ?_⟩ hx sa.F sa.ad sa.o
    refine st.keep a u ?_ ha (ne_of_none q hx)
    rw [upd_ne (ne_of_none q hx), upd_ne (ne_of_none q hd)]; exact q
  · cases hm
theorem DfZ.makeR (F : DfZ X.prog X.w X.K X.mg X.base k d ps (spI X.K c mi)) (hr : RmZ (k + 1) X.A) (M : Mk X.K (He.ga X.K c) (d.ad X.K)) : CallR X (.ref (He.ga X.K c)) (rF X.K (mdMake c mi)) := fun pins s σ H xs us Q I r h => by
  obtain ⟨fd, _, F, hb⟩ := F.ex
  have hq := makeR_core h (I.hok.fresh (Nat.le_succ _)) (I.hok.fresh (Nat.le_refl _)) (Nat.ne_of_lt (Nat.lt_succ_self _))
  have J := Inv.made (C := He.ga X.K c) I
  have r2 : Vals (V.ref (s.heap.objs.size + 1) :: xs) (Value.ref (s.heap.objs.size + 1) :: us) := .cons rfl r
  have hl : (Value.ref (s.heap.objs.size + 1) :: us ++ []).length = ps.length := by
    rw [List.append_nil, ← r2.length]
    exact F.len _ _ _ _ hq
  have bt := hb _ _ J.kIn hl
  rw [List.append_nil] at bt
  refine wpAny_call (make_map (f := d.ad X.K) I.kIn M.makes M.init (beq_iff_eq.mp M.fn) (codeAny_mono (F.run _ X.stack _ _ ⟨Value.ref (s.heap.objs.size + 1) :: us, []⟩ _ _ _ _ (hr.make _ us []) (J.env0.make _ us []) bt r2 hq) fun f s' hf => ?_))
  match f, hf with
  | .ok (.ret u), hf =>
    obtain ⟨v, H', I3, rv, ev, q3⟩ := J.after hf
    subst ev
    exact ⟨rv, V.ref (s.heap.objs.size + 1), H', I3, rfl, q3⟩
theorem f_make (F : DfZ X.prog X.w X.K X.mg X.base j d ps (spI X.K c mi)) (hr : RmZ k X.A) (hj : j + 1 ≤ k) (M : Mk X.K (He.ga X.K c) (d.ad X.K)) (hg : Gl X x) (hm : X.mg x = some (.ref (He.ga X.K c))) (ha : PA X (e :: es) (trA X.K ma)) (hdb : (x == ("__debug__" : Str)) = false := by decide +kernel)
    (he : starEach (e :: es) X.env = (false, eval e X.env) :: starEach es X.env := by rfl) (hpl : (backTo pos (starEach es X.env)).any (·.1) = false := by rfl) : PE X (.Call (.Name x p) (e :: es) [] pos) (trF X.K (mCallD (mdMake c mi) ma)) :=
  PE.imp (pe_callR (F.makeR (hr.mono hj) M) M.kp hg hm ha hdb he hpl) fun _ _ _ => trF_callD
def mNone : MA := fun _ s => some ([], s)
/-- a class's name read as a value -/
theorem d_ty (hg : Gl X x) (hm : X.mg x = some (.ref (He.ga X.K x))) (hdb : (x == ("__debug__" : Str)) = false := by decide +kernel) : PE X (.Name x p) (trE X.K (mC (.ty x))) := ⟨fun pins s σ H Q I ⟨g, e, s0, d0, s', R, E, hm0, k⟩ => by
  cases hm0
  exact ld_glob I hg hm ⟨.ref (He.ga X.K x), H, I, rfl, k _ g H (.refl R) (.ty x)⟩ hdb⟩
/-- cls(e, ..), cls a local name that stands for the class c -/
def mCls (c : Str) (i : Nat) (md : MD) (ma : MA) : ME := fun e s => match e[i]? with
  | some (.val (.ty c')) => if c' = c then bnd (ma e s) md else none
  | _ => none
theorem f_cls {i : Nat} (hN : X.N[i]? = some x) (hv : Vis X.env.scope x) (F : DfZ X.prog X.w X.K X.mg X.base j d ps (spI X.K c mi)) (hr : RmZ k X.A) (hj : j + 1 ≤ k) (M : Mk X.K (He.ga X.K c) (d.ad X.K)) (ha : PA X (e :: es) (trA X.K ma)) (hd : (x == ("__debug__" : Str)) = false := by decide +kernel) (hcd : (x == ("__classdict__" : Str)) = false := by decide +kernel)
    (he : starEach (e :: es) X.env = (false, eval e X.env) :: starEach es X.env := by rfl) (hpl : (backTo pos (starEach es X.env)).any (·.1) = false := by rfl) : PE X (.Call (.Name x p) (e :: es) [] pos) (trF X.K (mCls c i (mdMake c mi) ma)) := ⟨fun pins s σ H Q I ⟨g, en, s0, d0, s', R, E, hm, k⟩ => by
  unfold mCls at hm
  split at hm
  · rename_i c' hi
    split at hm
    · rename_i hcc
      subst hcc
      obtain ⟨v, q1, q2⟩ := E.val i _ hi
      obtain ⟨ds, s1, h1, hm1⟩ := bnd_some hm
      refine wpAny_Call_Name_kw (thn ((pe_var (X := X) (pos := p) hN hv hd hcd).run pins s σ H (fun u H1 => u = v ∧ H1 = H) I ⟨v, q1, rfl, rfl⟩) fun u s2 ⟨y, H1, I1, ry, ey, eH⟩ => ?_)
      subst ey eH
      have ev : y = .ref (He.ga X.K c') := by cases q2; rfl
      subst ev
      obtain rfl : u = Value.ref (He.ga X.K c') := ry
      refine PySem.W.callWith_K (h₀ := X.base) I.ok.mod.kin M.kp (thn (ha.run pos pins s2 σ H1 (fun vs H2 => rF X.K (mdMake c' mi) vs H2 Q) I1 ⟨g, en, s0, ds, s1, R, E, h1, fun vs g1 H2 st1 rv => ⟨g1, s1, ds, d0, s', st1.rel, rv, hm1, fun a g2 H3 st2 z1 z2 z3 z4 => k a g2 H3 (st1.trans st2) (st1.noneOf z1) z2 z3 z4⟩⟩) fun us s3 ⟨vs, H2, I2, rv, q⟩ => ⟨I2.kIn, (F.makeR (hr.mono hj) M) pins s3 σ H2 vs us Q I2 rv q⟩) he hpl
    · cases hm
  · cases hm⟩
end
end Z

set_option Elab.async false
set_option linter.all false
set_option maxRecDepth 100000
set_option maxHeartbeats 4000000
namespace Z
open PySem PySem.Spec PyProof.Rows L2
section
variable {X : Cx} {K : PySem.W.Frag} {o a b e : Expr} {es : List Expr} {mo me : ME} {ma : MA} {apos pos p tpos : Pos} {x : Str}
/-! ### texts -/
def toSs : List D → Option (List Str)
  | [] => some []
  | .str x :: r => (toSs r).map (x :: ·)
  | _ :: _ => none
theorem toSs_rep {K : PySem.W.Frag} {g : G} : ∀ {ds : List D} {ys : List Str} {vs : List V}, toSs ds = some ys → RepL K g vs ds → vs = ys.map V.str
  | [], _, _, h, .nil => by cases h; rfl
  | d :: r, ys, _, h, .cons q t => by
    cases q with
    | str x =>
      cases e : toSs r with
      | none => simp [toSs, e] at h
      | some zs =>
        simp [toSs, e] at h
        subst h
        simp [toSs_rep e t]
    | _ => cases h
theorem rep_strs {K : PySem.W.Frag} {g : G} : ∀ ys : List Str, RepL K g (ys.map V.str) (ys.map D.str)
  | [] => .nil
  | _ :: r => .cons (.str _) (rep_strs r)
/-- x.split(sep) -/
def mSplit (mo me : ME) : ME := fun e s => bnd (mo e s) fun d s => bnd (me e s) fun y s => match d, y with
  | .str z, .str w => if (w.length == 0) = false ∧ z.length + 2 ≤ sizeLine then some (.lst ((Txt.split z w).map D.str), s) else none
  | _, _ => none
/-- one more object -/
theorem Step.new1 {K : PySem.W.Frag} {g g1 : G} {H H1 : Hp} {s1 : Z.S} (st : Step K g H g1 H1 s1) {q : Addr} {u : HO} (hq : H1 q = none) : Step K g H g1 (upd H1 q u) s1 ∧ H q = none ∧ g1.F q = none ∧ q ∉ g1.ad := by
  obtain ⟨h1, h2, h3⟩ := st.fresh hq
  exact ⟨st.put h1 h3 h2, h1, h2, h3⟩
theorem f_split (ho : PE X o (trE X.K mo)) (he : PE X e (trE X.K me)) (hs : starEach [e] X.env = [(false, eval e X.env)] := by rfl) (hbase : attributeBase o "split" X.env (eval o X.env) = eval o X.env := by rfl) (hline : (apos.endLine == pos.line) = true := by rfl) :
    PE X (.Call (.Attribute o "split" apos) [e] [] pos) (trF X.K (mSplit mo me)) := PE.imp (pe_split ho he hs hbase hline) fun σ H Q ⟨g, en, s, d, s', R, E, hm, k⟩ => by
  obtain ⟨d1, s1, h1, hm1⟩ := bnd_some hm
  obtain ⟨d2, s2, h2, hm2⟩ := bnd_some hm1
  split at hm2
  · rename_i z w
    split at hm2
    · rename_i hc
      cases hm2
      refine ⟨g, en, s, _, _, R, E, h1, fun v g1 H1 st1 rv => ?_⟩
      cases rv
      refine ⟨⟨_, rfl⟩, g1, en, s1, _, _, st1.rel, E.step st1, h2, fun v2 g2 H2 st2 rv2 => ?_⟩
      cases rv2
      refine ⟨_, _, rfl, rfl, hc.1, hc.2, fun q hq => ?_⟩
      obtain ⟨z1, z2, z3, z4⟩ := (st1.trans st2).new1 (u := .lst ((Txt.split z w).map V.str)) hq
      exact k q g2 _ z1 z2 z3 z4 ⟨_, upd_same, rep_strs _⟩
    · cases hm2
  · cases hm2
/-- sep.join(list or tuple of texts) -/
def joinD : D → D → Option D
  | .str z, .lst ds => (toSs ds).bind fun ys => if (ys.map (·.length)).sum + ys.length * z.length ≤ 16777216 then some (.str (Txt.join z ys)) else none
  | .str z, .tup ds => (toSs ds).bind fun ys => if (ys.map (·.length)).sum + ys.length * z.length ≤ 16777216 then some (.str (Txt.join z ys)) else none
  | _, _ => none
theorem joinD_some {d y r : D} (h : joinD d y = some r) : ∃ z ds ys, d = .str z ∧ (y = .lst ds ∨ y = .tup ds) ∧ toSs ds = some ys ∧ (ys.map (·.length)).sum + ys.length * z.length ≤ 16777216 ∧ r = .str (Txt.join z ys) := by
  unfold joinD at h
  split at h
  · rename_i z ds
    cases q : toSs ds with
    | none => rw [q] at h; cases h
    | some ys =>
      rw [q] at h
      dsimp only [Option.bind_some] at h
      split at h
      · rename_i hc
        cases h
        exact ⟨z, ds, ys, rfl, .inl rfl, q, hc, rfl⟩
      · cases h
  · rename_i z ds
    cases q : toSs ds with
    | none => rw [q] at h; cases h
    | some ys =>
      rw [q] at h
      dsimp only [Option.bind_some] at h
      split at h
      · rename_i hc
        cases h
        exact ⟨z, ds, ys, rfl, .inr rfl, q, hc, rfl⟩
      · cases h
  · cases h
def mJoin (mo me : ME) : ME := mOp joinD mo me
theorem d_join (ho : PE X o (trE X.K mo)) (he : PE X e (trE X.K me)) (hs : starEach [e] X.env = [(false, eval e X.env)] := by rfl) (hbase : attributeBase o "join" X.env (eval o X.env) = eval o X.env := by rfl) (hline : (apos.endLine == pos.line) = true := by rfl) :
    PE X (.Call (.Attribute o "join" apos) [e] [] pos) (trE X.K (mJoin mo me)) := PE.imp (pe_join ho he hs hbase hline) fun σ H Q ⟨g, en, s, d, s', R, E, hm, k⟩ => by
  obtain ⟨d1, s1, h1, hm1⟩ := bnd_some hm
  obtain ⟨d2, s2, h2, hm2⟩ := bnd_some hm1
  obtain ⟨h4, h5⟩ := lft_some hm2
  dsimp only at h4 h5
  subst h5
  obtain ⟨z, ds, ys, rfl, hy, hss, hsz, hr⟩ := joinD_some h4
  subst hr
  refine ⟨g, en, s, _, _, R, E, h1, fun v g1 H1 st1 rv => ?_⟩
  cases rv
  refine ⟨⟨_, rfl⟩, g1, en, s1, _, _, st1.rel, E.step st1, h2, fun v2 g2 H2 st2 rv2 => ?_⟩
  rcases hy with rfl | rfl
  · cases rv2 with
    | lst q r =>
      rw [toSs_rep hss r] at q
      exact ⟨_, _, ys, rfl, rfl, .inl (.inl (rd_H st2.rel q)), hsz, k _ g2 H2 (st1.trans st2) (.str _)⟩
  · cases rv2 with
    | tup q r =>
      rw [toSs_rep hss r] at q
      exact ⟨_, _, ys, rfl, rfl, .inr (sqT_H st2.rel q), hsz, k _ g2 H2 (st1.trans st2) (.str _)⟩
/-! ### isinstance -/
/-- the built-in types asked for -/
def tyD : D → Option String
  | .non => some "NoneType" | .bl _ => some "bool" | .int _ => some "int" | .str _ => some "str" | .tup _ => some "tuple" | .lst _ => some "list" | .dic _ => some "dict"
  | _ => none
/-- isinstance(x, T), T a built-in type: of built-in values -/
def isiT (T : String) : D → Option D := fun d => match d with
  | .obj _ _ => some (.bl false)
  | d => (tyD d).bind fun t => (kitB t T).map D.bl
end
/-! ### enumerate of a tuple: what it walks -/
section
variable {X : Cx} {K : PySem.W.Frag} {a b : Expr} {ma : MA} {p pos tpos : Pos}
theorem zipD_get {ds es : List D} {i : Nat} {d : D} (h : (zipD ds es)[i]? = some d) : ∃ x y, ds[i]? = some x ∧ es[i]? = some y ∧ d = .tup [x, y] := by
  unfold zipD at h
  rw [List.getElem?_map] at h
  cases q : (List.zip ds es)[i]? with
  | none => rw [q] at h; cases h
  | some z =>
    rw [q] at h
    cases h
    rw [List.getElem?_zip_eq_some] at q
    exact ⟨_, _, q.1, q.2, rfl⟩
theorem zipD_len (ds es : List D) : (zipD ds es).length = min ds.length es.length := by simp [zipD]
theorem itd_zipL {g : G} {a b : Addr} {vs ws : List V} {ds es : List D} (h : Rd g.F a (.lst vs)) (r : RepL K g vs ds) (h2 : Rd g.F b (.lst ws)) (r2 : RepL K g ws es) : ItD K (Itz K a b) g (zipD ds es) := by
  have hq : ∀ (g' : G) (H : Hp) (s : S), SRel K g' H s → GLe g g' → SqL K H a vs := fun g' H s R L => .inl (rd_H R (rd_mono L.F h))
  have hq2 : ∀ (g' : G) (H : Hp) (s : S), SRel K g' H s → GLe g g' → SqL K H b ws := fun g' H s R L => .inl (rd_H R (rd_mono L.F h2))
  refine ⟨fun g' H s i R L hi => ?_, fun g' H s R L => ⟨vs, ws, hq g' H s R L, hq2 g' H s R L, by rw [r.length, r2.length, zipD_len]; omega⟩, fun g' H s i x H' d R L hd y => ?_⟩
  · rw [zipD_len] at hi
    have l1 : i < vs.length := by rw [r.length]; omega
    have l2 : i < ws.length := by rw [r2.length]; omega
    exact ⟨vs, ws, vs[i], ws[i], hq g' H s R L, hq2 g' H s R L, List.getElem?_eq_getElem l1, List.getElem?_eq_getElem l2⟩
  · obtain ⟨T, y1, y2, rfl, hT, rfl, hy1, hy2⟩ := y
    obtain ⟨d1, d2, e1, e2, rfl⟩ := zipD_get hd
    obtain ⟨v1, q1, q2⟩ := r.get e1
    obtain ⟨v2, q3, q4⟩ := r2.get e2
    rw [hy1 vs (hq g' _ s R L)] at q1; cases q1
    rw [hy2 ws (hq2 g' _ s R L)] at q3; cases q3
    obtain ⟨z1, z2⟩ := tup_yld R hT (.cons (q2.mono L) (.cons (q4.mono L) .nil))
    exact ⟨_, z1, z2⟩
theorem itd_zipT {g : G} {a b : Addr} {vs ws : List V} {ds es : List D} (h : SqT K g.F a vs) (r : RepL K g vs ds) (h2 : SqT K g.F b ws) (r2 : RepL K g ws es) : ItD K (RZ.ItzT K a b) g (zipD ds es) := by
  have hq : ∀ (g' : G) (H : Hp) (s : S), SRel K g' H s → GLe g g' → SqT K H a vs := fun g' H s R L => sqT_H R (sqT_mono L.F h)
  have hq2 : ∀ (g' : G) (H : Hp) (s : S), SRel K g' H s → GLe g g' → SqT K H b ws := fun g' H s R L => sqT_H R (sqT_mono L.F h2)
  refine ⟨fun g' H s i R L hi => ?_, fun g' H s R L => ⟨vs, ws, hq g' H s R L, hq2 g' H s R L, by rw [r.length, r2.length, zipD_len]; omega⟩, fun g' H s i x H' d R L hd y => ?_⟩
  · rw [zipD_len] at hi
    have l1 : i < vs.length := by rw [r.length]; omega
    have l2 : i < ws.length := by rw [r2.length]; omega
    exact ⟨vs, ws, vs[i], ws[i], hq g' H s R L, hq2 g' H s R L, List.getElem?_eq_getElem l1, List.getElem?_eq_getElem l2⟩
  · obtain ⟨T, y1, y2, rfl, hT, rfl, hy1, hy2⟩ := y
    obtain ⟨d1, d2, e1, e2, rfl⟩ := zipD_get hd
    obtain ⟨v1, q1, q2⟩ := r.get e1
    obtain ⟨v2, q3, q4⟩ := r2.get e2
    rw [hy1 vs (hq g' _ s R L)] at q1; cases q1
    rw [hy2 ws (hq2 g' _ s R L)] at q3; cases q3
    obtain ⟨z1, z2⟩ := tup_yld R hT (.cons (q2.mono L) (.cons (q4.mono L) .nil))
    exact ⟨_, z1, z2⟩
def zipI (ma : MA) : MI := fun e s => bnd (ma e s) fun ds s => match ds with
  | [.lst x, .lst y] => some (zipD x y, s)
  | [.tup x, .tup y] => some (zipD x y, s)
  | _ => none
theorem i_zip {elts : List Expr} {kk : Nat} (hg : Gl X "zip") (hm : X.mg "zip" = none) (ha : PA X [a, b] (trA X.K ma)) (hs : starEach [a, b] X.env = (false, eval a X.env) :: starEach [b] X.env := by rfl) (hpl : (backTo pos (starEach [b] X.env)).any (·.1) = false := by rfl) : PI X (.Tuple elts kk tpos) (.Call (.Name "zip" p) [a, b] [] pos) (trI X.K (zipI ma)) :=
  PI.imp (RZ.pi_zipA hg hm ha hs hpl) fun σ H R ⟨g, e, s, ds, s', R0, E, hm, k⟩ => by
    obtain ⟨xs, s1, h1, hm1⟩ := bnd_some hm
    refine ⟨g, e, s, xs, s1, R0, E, h1, fun vs g1 H1 st rv => ?_⟩
    split at hm1
    · cases hm1
      cases rv with
      | cons r rr => cases rr with
        | cons r' rr =>
          cases rr
          cases r with
          | lst q r => cases r' with
            | lst q' r' => exact ⟨_, _, _, _, rfl, .inl ⟨.inl (rd_H st.rel q), .inl (rd_H st.rel q'), k _ g1 H1 st (itd_zipL q r q' r')⟩⟩
    · cases hm1
      cases rv with
      | cons r rr => cases rr with
        | cons r' rr =>
          cases rr
          cases r with
          | tup q r => cases r' with
            | tup q' r' => exact ⟨_, _, _, _, rfl, .inr ⟨sqT_H st.rel q, sqT_H st.rel q', k _ g1 H1 st (itd_zipT q r q' r')⟩⟩
    · cases hm1
end
/-! ### owned dicts written -/
section
variable {X : Cx} {a b : Expr} {m1 m2 : ME} {x : Str} {p apos cpos pos : Pos} {i : Nat}
/-- x.setdefault(k, v) as a statement -/
def sSetd (i : Nat) (m1 m2 : ME) : MS := fun e s => bndS (m1 e s) fun kd s => bndS (m2 e s) fun d s => match keyD kd, e[i]? with
  | some k, some (.own (.dic kvs)) => if kvs.length < sizeLine then some (.nx, e.set i (.own (.dic (if (lookD kvs k).isSome then kvs else putD kvs k d))), s) else none
  | _, _ => none
/-- x[k] = v, x an owned dict -/
def sPutK (i : Nat) (m1 m2 : ME) : MS := fun e s => bndS (m2 e s) fun d s => bndS (m1 e s) fun kd s => match keyD kd, e[i]? with
  | some k, some (.own (.dic kvs)) => if kvs.length < sizeLine then some (.nx, e.set i (.own (.dic (putD kvs k d))), s) else none
  | _, _ => none
end
end Z
namespace Z
open PySem PySem.Spec PyProof.Rows L2
/-! ### isinstance -/
structure InsF (K : PySem.W.Frag) (c : Str) : Prop where
  cl : Cls K (He.ga K c)
  ha : PySem.W.findIn K (.ref (He.ga K c)) "__class__" = some (some (.builtin "object.__class__"))
  hn : PySem.W.specialIn K (.builtin "object.__class__") "__get__" = some (some (.builtin "getset_descriptor.__get__"))
  tk : PySem.W.takesIn K (.builtin "object.__class__") = some true
  mr : PySem.W.mroIn K (He.ga K c) (.type "object") = some true
def insB (K : PySem.W.Frag) (c : Str) : Bool := (He.Fa.cls c).ok K && (He.eqO (PySem.W.findIn K (.ref (He.ga K c)) "__class__") (some (some (.builtin "object.__class__"))) && (He.eqO (PySem.W.specialIn K (.builtin "object.__class__") "__get__") (some (some (.builtin "getset_descriptor.__get__"))) &&
  (decide (PySem.W.takesIn K (.builtin "object.__class__") = some true) && decide (PySem.W.mroIn K (He.ga K c) (.type "object") = some true))))
theorem insB_ok {K : PySem.W.Frag} {c : Str} (h : insB K c = true) : InsF K c := by
  obtain ⟨h1, h⟩ := He.ba h
  obtain ⟨h2, h⟩ := He.ba h
  obtain ⟨h3, h⟩ := He.ba h
  obtain ⟨h4, h5⟩ := He.ba h
  exact ⟨He.cls_ok h1, He.eqO_ok h2, He.eqO_ok h3, of_decide_eq_true h4, of_decide_eq_true h5⟩
def bTys : List String := ["NoneType", "bool", "int", "str", "tuple", "list", "dict"]
structure IsiF (K : PySem.W.Frag) (cs : List Str) (tys : List String) : Prop where
  ins : ∀ c ∈ cs, InsF K c
  oT : ∀ c ∈ cs, ∀ T ∈ tys, PySem.W.kitOne K (.ref (He.ga K c)) (.type T) = some false
  oO : ∀ c ∈ cs, ∀ C ∈ cs, PySem.W.kitOne K (.ref (He.ga K c)) (.ref (He.ga K C)) = some (decide (c = C))
  tO : ∀ t ∈ bTys, ∀ C ∈ cs, PySem.W.kitOne K (.type t) (.ref (He.ga K C)) = some false
def isiB (K : PySem.W.Frag) (cs : List Str) (tys : List String) : Bool := (cs.all fun c => insB K c) && ((cs.all fun c => tys.all fun T => decide (PySem.W.kitOne K (.ref (He.ga K c)) (.type T) = some false)) &&
  ((cs.all fun c => cs.all fun C => decide (PySem.W.kitOne K (.ref (He.ga K c)) (.ref (He.ga K C)) = some (decide (c = C)))) && (bTys.all fun t => cs.all fun C => decide (PySem.W.kitOne K (.type t) (.ref (He.ga K C)) = some false))))
theorem isiB_ok {K : PySem.W.Frag} {cs : List Str} {tys : List String} (h : isiB K cs tys = true) : IsiF K cs tys := by
  obtain ⟨h1, h⟩ := He.ba h
  obtain ⟨h2, h⟩ := He.ba h
  obtain ⟨h3, h4⟩ := He.ba h
  refine ⟨fun c hc => insB_ok (List.all_eq_true.mp h1 c hc), fun c hc T hT => of_decide_eq_true (List.all_eq_true.mp (List.all_eq_true.mp h2 c hc) T hT), fun c hc C hC => of_decide_eq_true (List.all_eq_true.mp (List.all_eq_true.mp h3 c hc) C hC), fun t ht C hC => of_decide_eq_true (List.all_eq_true.mp (List.all_eq_true.mp h4 t ht) C hC)⟩
def isiD (cs : List Str) (tys : List String) : List D → Option D
  | [.obj c _, .opq (.ty T)] => if c ∈ cs ∧ T ∈ tys then some (.bl false) else none
  | [.obj c _, .ty C] => if c ∈ cs ∧ C ∈ cs then some (.bl (decide (c = C))) else none
  | [d, .opq (.ty T)] => (tyD d).bind fun t => (kitB t T).map D.bl
  | [d, .ty C] => if C ∈ cs then (tyD d).map fun _ => .bl false else none
  | _ => none
section
variable {K : PySem.W.Frag} {cs : List Str} {tys : List String}
theorem tyD_mem {d : D} {t : String} (h : tyD d = some t) : t ∈ bTys := by
  cases d <;> simp only [tyD] at h <;> cases h <;> decide
theorem tyX_of {g : G} {H : Hp} {s : S} {v : V} {d : D} {t : String} (R : SRel K g H s) (r : Rep K g v d) (h : tyD d = some t) : TyX K H v (.type t) := by
  cases r with
  | non => cases h; exact .base .non
  | bl b => cases h; exact .base (.bl b)
  | int i => cases h; exact .base (.int i)
  | str x => cases h; exact .base (.str x)
  | tup q r =>
    cases h
    rcases sqT_H R q with (z | ⟨o, z⟩) | z
    · exact .base (.tup z)
    · exact .fTuple z
    · obtain ⟨o, its, n, q1, q2, _⟩ := z
      exact .kTuple q1 q2
  | lst q r =>
    cases h
    rcases rd_H R q with z | ⟨o, z⟩
    · exact .base (.lst z)
    · exact .base (.frz z)
  | dic q r =>
    cases h
    rcases rdK_H R q with z | ⟨o, z⟩
    · exact .base (.dK z)
    · exact .fDict z
  | obj q r => cases h
  | cel q => cases h
  | opq v => cases h
  | ty c => cases h
theorem isi_ok (F : IsiF K cs tys) : CallOk K (rIsi K) (isiD cs tys) := fun g H s xs ds d Q R r h k => by
  unfold isiD at h
  split at h
  · split at h
    · rename_i c fs T hc
      cases h
      cases r with
      | cons r1 r => cases r with
        | cons r2 r =>
          cases r
          cases r2
          cases r1 with
          | obj q rf =>
            have i := F.ins c hc.1
            exact ⟨_, _, _, _, false, rfl, .ty T, .base (.ins (ins_H R q) i.cl i.ha i.hn i.tk i.mr), F.oT c hc.1 T hc.2, k _ g H (.refl R) (.bl false)⟩
    · cases h
  · split at h
    · rename_i c fs C hc
      cases h
      cases r with
      | cons r1 r => cases r with
        | cons r2 r =>
          cases r
          cases r2
          cases r1 with
          | obj q rf =>
            have i := F.ins c hc.1
            exact ⟨_, _, _, _, _, rfl, .own _, .base (.ins (ins_H R q) i.cl i.ha i.hn i.tk i.mr), F.oO c hc.1 C hc.2, k _ g H (.refl R) (.bl _)⟩
    · cases h
  · rename_i d0 T _
    cases e : tyD d0 with
    | none => rw [e] at h; cases h
    | some t =>
      rw [e] at h
      dsimp only [Option.bind_some] at h
      cases e2 : kitB t T with
      | none => rw [e2] at h; cases h
      | some b =>
        rw [e2] at h
        cases h
        cases r with
        | cons r1 r => cases r with
          | cons r2 r =>
            cases r
            cases r2
            exact ⟨_, _, _, _, b, rfl, .ty T, tyX_of R r1 e, kit_ty e2, k _ g H (.refl R) (.bl b)⟩
  · split at h
    · rename_i d0 C _ hc
      cases e : tyD d0 with
      | none => rw [e] at h; cases h
      | some t =>
        rw [e] at h
        cases h
        cases r with
        | cons r1 r => cases r with
          | cons r2 r =>
            cases r
            cases r2
            exact ⟨_, _, _, _, false, rfl, .own _, tyX_of R r1 e, F.tO t (tyD_mem e) C hc, k _ g H (.refl R) (.bl false)⟩
    · cases h
  · cases h
end
section
variable {X : Cx} {x : Str} {p : Pos} {T : String}
/-- the name of a built-in type -/
theorem d_bty (hg : Gl X x) (hm : X.mg x = none) (hv : bootBuiltins x = some (.type T)) (hn : x ≠ "__name__" := by decide +kernel) (hdb : (x == ("__debug__" : Str)) = false := by decide +kernel) : PE X (.Name x p) (trE X.K (mC (.opq (.ty T)))) := ⟨fun pins s σ H Q I ⟨g, e, s0, d0, s', R, E, hm0, k⟩ => by
  cases hm0
  exact ld_blt I hg hm hv ⟨.ty T, H, I, rfl, k _ g H (.refl R) (.opq _)⟩ hn hdb⟩
end
end Z

set_option Elab.async false
set_option linter.all false
set_option maxRecDepth 100000
set_option maxHeartbeats 4000000
namespace Z
open PySem PySem.Spec PyProof.Rows L2
/-! ### one order for ints, texts and tuples of them -/
def encS : D → List Int
  | .int i => [0, i]
  | .str x => 1 :: (x.cps.toList.map Int.ofNat ++ [-1])
  | _ => [2]
def encD : D → List Int
  | .tup ds => ds.flatMap encS
  | d => encS d
def ltS (a b : D) : Bool := decide (encD a < encD b)
theorem swo_enc {α : Type} (f : α → List Int) : SrtO.Swo fun x y => decide (f x < f y) := by
  refine ⟨fun x y h => ?_, fun x y z h1 h2 => ?_⟩
  · have h := of_decide_eq_true h
    exact decide_eq_false (List.lt_asymm h)
  · have h1 := of_decide_eq_false h1
    have h2 := of_decide_eq_false h2
    refine decide_eq_false ?_
    rw [List.not_lt] at h1 h2 ⊢
    exact List.le_trans h1 h2
theorem enc_int (i j : Int) (r r' : List Int) : (encS (.int i) ++ r < encS (.int j) ++ r') ↔ (i < j ∨ (i = j ∧ r < r')) := by
  simp [encS, List.cons_lt_cons_iff]
theorem enc_cps : ∀ (xs ys : List Nat) (r r' : List Int), (xs.map Int.ofNat ++ (-1 :: r) < ys.map Int.ofNat ++ (-1 :: r')) ↔ (xs < ys ∨ (xs = ys ∧ r < r'))
  | [], [], r, r' => by simp [List.cons_lt_cons_iff]
  | [], y :: ys, r, r' => by
    simp only [List.map_nil, List.nil_append, List.map_cons, List.cons_append, List.cons_lt_cons_iff]
    constructor
    · intro _; exact .inl (List.nil_lt_cons _ _)
    · intro _; left; exact Int.lt_of_lt_of_le (by decide) (Int.natCast_nonneg y)
  | x :: xs, [], r, r' => by
    simp only [List.map_nil, List.nil_append, List.map_cons, List.cons_append, List.cons_lt_cons_iff]
    constructor
    · rintro (h | ⟨h, _⟩)
      · have := Int.natCast_nonneg x; exact absurd h (by show ¬ ((x : Int) < -1); omega)
      · have := Int.natCast_nonneg x; have h : (x : Int) = -1 := h; omega
    · rintro (h | ⟨h, _⟩)
      · exact absurd h (List.not_lt_nil _)
      · cases h
  | x :: xs, y :: ys, r, r' => by
    have ih := enc_cps xs ys r r'
    simp only [List.map_cons, List.cons_append, List.cons_lt_cons_iff, List.cons.injEq, ih]
    have e1 : (Int.ofNat x < Int.ofNat y) ↔ x < y := by show ((x : Int) < (y : Int)) ↔ _; omega
    have e2 : (Int.ofNat x = Int.ofNat y) ↔ x = y := by show ((x : Int) = (y : Int)) ↔ _; omega
    rw [e1, e2]
    constructor
    · rintro (h | ⟨h, h2 | ⟨h2, h3⟩⟩)
      · exact .inl (.inl h)
      · exact .inl (.inr ⟨h, h2⟩)
      · exact .inr ⟨⟨h, h2⟩, h3⟩
    · rintro ((h | ⟨h, h2⟩) | ⟨⟨h, h2⟩, h3⟩)
      · exact .inl h
      · exact .inr ⟨h, .inl h2⟩
      · exact .inr ⟨h, .inr ⟨h2, h3⟩⟩
theorem str_cps {x y : Str} : x.cps.toList = y.cps.toList ↔ x = y := by
  constructor
  · intro h
    cases x; cases y
    simp only at h
    rw [Array.toList_inj.mp h]
  · rintro rfl; rfl
theorem enc_str (x y : Str) (r r' : List Int) : (encS (.str x) ++ r < encS (.str y) ++ r') ↔ (x.cps.toList < y.cps.toList ∨ (x = y ∧ r < r')) := by
  have := enc_cps x.cps.toList y.cps.toList r r'
  simp only [encS, List.cons_append, List.append_assoc, List.cons_lt_cons_iff, Int.lt_irrefl, false_or, true_and, List.nil_append]
  rw [this, str_cps]
/-! ### which lists may be sorted -/
/-- 0: an int, 1: a text -/
def kS : D → Option Nat
  | .int _ => some 0
  | .str _ => some 1
  | _ => none
def kD : D → Option (List Nat)
  | .tup ds => ds.mapM kS
  | _ => none
theorem mapM_cons_some {α β : Type} {f : α → Option β} {a : α} {l : List α} {r : List β} (h : (a :: l).mapM f = some r) : ∃ b bs, f a = some b ∧ l.mapM f = some bs ∧ r = b :: bs := by
  rw [List.mapM_cons] at h
  cases e : f a with
  | none => rw [e] at h; cases h
  | some b =>
    rw [e] at h
    cases e2 : l.mapM f with
    | none => rw [e2] at h; cases h
    | some bs => rw [e2] at h; cases h; exact ⟨b, bs, rfl, rfl, rfl⟩
/-- a sign list that stands for an item's kind: ints [], texts [] are told by one kind each -/
def sameK : List D → Bool
  | [] => true
  | d :: ds => match d with
    | .int _ => ds.all fun e => match e with | .int _ => true | _ => false
    | .str _ => ds.all fun e => match e with | .str _ => true | _ => false
    | .tup _ => match kD d with
      | some (k :: ks) => ds.all fun e => decide (kD e = some (k :: ks))
      | _ => false
    | _ => false
def sortL (ds : List D) : List D := ds.mergeSort fun a b => !ltS b a
def sortedD : List D → Option D
  | [.lst ds] => if sameK ds then some (.lst (sortL ds)) else none
  | _ => none
/-! ### there is one sorted list -/
theorem perm_srtd_eq {α : Type} {lt : α → α → Bool} (O : SrtO.Swo lt) : ∀ {l m : List α}, l.Perm m → SrtO.Srtd lt l → SrtO.Srtd lt m → (∀ x ∈ l, ∀ y ∈ l, lt x y = false → lt y x = false → x = y) → l = m
  | [], m, p, _, _, _ => p.nil_eq
  | x :: l, [], p, _, _, _ => absurd p.length_eq (by simp)
  | x :: l, y :: m, p, hl, hm, hx => by
    have hy : y ∈ x :: l := p.mem_iff.mpr List.mem_cons_self
    have e : x = y := by
      refine hx x List.mem_cons_self y hy ?_ ?_
      · rcases List.mem_cons.mp (p.mem_iff.mp (List.mem_cons_self (a := x) (l := l))) with e | h
        · rw [e]; exact O.refl y
        · exact (List.pairwise_cons.mp hm).1 x h
      · rcases List.mem_cons.mp hy with e | h
        · rw [e]; exact O.refl x
        · exact (List.pairwise_cons.mp hl).1 y h
    subst e
    rw [perm_srtd_eq O p.cons_inv (List.pairwise_cons.mp hl).2 (List.pairwise_cons.mp hm).2 fun a ha b hb => hx a (List.mem_cons_of_mem _ ha) b (List.mem_cons_of_mem _ hb)]
theorem ltS_swo : SrtO.Swo ltS := swo_enc encD
theorem sortL_perm (ds : List D) : (sortL ds).Perm ds := List.mergeSort_perm ds _
theorem sortL_srtd (ds : List D) : SrtO.Srtd ltS (sortL ds) := by
  have h := List.pairwise_mergeSort (le := fun a b => !ltS b a) (fun a b c h1 h2 => ?_) (fun a b => ?_) ds
  · exact h.imp fun {a b} h => by simpa using h
  · have h1 : ltS b a = false := by simpa using h1
    have h2 : ltS c b = false := by simpa using h2
    simp [ltS_swo.tr _ _ _ h1 h2]
  · cases q : ltS b a with
    | false => simp
    | true => simp [ltS_swo.asym _ _ q]
theorem sortL_eq {ds es : List D} (p : es.Perm ds) (h : SrtO.Srtd ltS es) (hx : ∀ x ∈ ds, ∀ y ∈ ds, ltS x y = false → ltS y x = false → x = y) : sortL ds = es :=
  perm_srtd_eq ltS_swo ((sortL_perm ds).trans p.symm) (sortL_srtd ds) h fun x hx' y hy' => hx x ((sortL_perm ds).mem_iff.mp hx') y ((sortL_perm ds).mem_iff.mp hy')
theorem lt_int {i j : Int} : ltS (.int i) (.int j) = decide (i < j) := by
  unfold ltS
  have := enc_int i j [] []
  simp only [List.append_nil] at this
  show decide (encS (.int i) < encS (.int j)) = _
  rw [decide_eq_decide, this]
  simp
theorem lt_str {x y : Str} : ltS (.str x) (.str y) = decide (x.cps.toList < y.cps.toList) := by
  unfold ltS
  have := enc_str x y [] []
  simp only [List.append_nil] at this
  show decide (encS (.str x) < encS (.str y)) = _
  rw [decide_eq_decide, this]
  simp
theorem nlt_eq {xs ys : List Nat} (h1 : ¬ xs < ys) (h2 : ¬ ys < xs) : xs = ys := List.le_antisymm (List.not_lt.mp h2) (List.not_lt.mp h1)
theorem mapM_len {α β : Type} {f : α → Option β} : ∀ {l : List α} {r : List β}, l.mapM f = some r → l.length = r.length
  | [], r, h => by cases h; rfl
  | a :: l, r, h => by
    obtain ⟨b, bs, _, h2, rfl⟩ := mapM_cons_some h
    simp [mapM_len h2]
/-- items of one kind that are not told apart are equal -/
theorem enc_inj : ∀ (ks : List Nat) {ds es : List D} , ds.mapM kS = some ks → es.mapM kS = some ks → ¬ (ds.flatMap encS < es.flatMap encS) → ¬ (es.flatMap encS < ds.flatMap encS) → ds = es := by
  intro ks
  induction ks with
  | nil =>
    intro ds es h1 h2 _ _
    cases ds with
    | cons d ds => obtain ⟨_, _, _, _, e⟩ := mapM_cons_some h1; cases e
    | nil => cases es with
      | nil => rfl
      | cons d ds => obtain ⟨_, _, _, _, e⟩ := mapM_cons_some h2; cases e
  | cons k ks ih =>
    intro ds es h1 h2 n1 n2
    cases ds with
    | nil => cases h1
    | cons d ds => cases es with
      | nil => cases h2
      | cons e es =>
        obtain ⟨k1, ks1, a1, a2, a3⟩ := mapM_cons_some h1
        obtain ⟨k2, ks2, b1, b2, b3⟩ := mapM_cons_some h2
        cases a3; cases b3
        simp only [List.flatMap_cons] at n1 n2
        cases d <;> simp only [kS] at a1 <;> cases a1 <;> cases e <;> simp only [kS] at b1 <;> cases b1
        · rw [enc_int] at n1 n2
          rename_i i j
          have : i = j := by omega
          subst this
          simp only [Int.lt_irrefl, true_and, false_or] at n1 n2
          rw [ih a2 b2 n1 n2]
        · rw [enc_str] at n1 n2
          rename_i x y
          have : x = y := str_cps.mp (nlt_eq (fun h => n1 (.inl h)) (fun h => n2 (.inl h)))
          subst this
          have irr : ¬ x.cps.toList < x.cps.toList := List.lt_irrefl _
          simp only [irr, true_and, false_or] at n1 n2
          rw [ih a2 b2 n1 n2]
/-! ### the compare of two tuples -/
def scV : Value → D
  | .int i _ => .int i
  | .str x _ => .str x
  | _ => .non
def keyV (h : Heap) : Value → List D
  | .ref a => match h.get? a with
    | some o => match o.data with
      | .seq its _ => its.toList.map scV
      | _ => []
    | none => []
  | _ => []
section
variable {prog : Program} {w : World} {A : Around} {s : Shared}
theorem kat_enc : ∀ (ks : List Nat) (xs ys : List Value) (i : Nat) (Q : Bool → Shared → Prop), (xs.map scV).mapM kS = some ks → (ys.map scV).mapM kS = some ks → Q (decide ((xs.map scV).flatMap encS < (ys.map scV).flatMap encS)) s →
    PySem.W.KatLex prog w A true false Q (xs.zip ys) i s := by
  intro ks
  induction ks with
  | nil =>
    intro xs ys i Q h1 h2 h
    cases xs with
    | cons d ds => obtain ⟨_, _, _, _, e⟩ := mapM_cons_some h1; cases e
    | nil => cases ys with
      | cons d ds => obtain ⟨_, _, _, _, e⟩ := mapM_cons_some h2; cases e
      | nil =>
        refine PySem.W.kat_nil ?_
        have : ¬ (([] : List Int) < []) := List.lt_irrefl _
        simpa [this] using h
  | cons k ks ih =>
    intro xs ys i Q h1 h2 h
    cases xs with
    | nil => cases h1
    | cons x xs => cases ys with
      | nil => cases h2
      | cons y ys =>
        obtain ⟨k1, ks1, a1, a2, a3⟩ := mapM_cons_some h1
        obtain ⟨k2, ks2, b1, b2, b3⟩ := mapM_cons_some h2
        cases a3; cases b3
        rw [List.map_cons, List.map_cons, List.flatMap_cons, List.flatMap_cons] at h
        cases x <;> simp only [scV, kS] at a1 <;> cases a1 <;> cases y <;> simp only [scV, kS] at b1 <;> cases b1
        · rename_i m t n u
          simp only [scV, enc_int] at h
          refine PySem.W.kat_cons (SeqAt.EqAt.int_int m t n u prog w _ _ ?_)
          refine PySem.W.kat_go (fun e => ?_) (fun e => ?_)
          · have e : m = n := by simpa using e
            subst e
            refine PySem.W.kat_yes (ih xs ys (i + 1) Q a2 b2 ?_)
            simpa using h
          · have e : ¬ m = n := by simpa using e
            refine PySem.W.kat_no ?_
            have h : Q (decide (m < n)) s := by simpa [e] using h
            cases hb : (true && i == 0)
            · exact PySem.W.kat_one _ _ (PyProof.Rows.lt_int h)
            · exact oneLt_int h
        · rename_i m t n u
          simp only [scV, enc_str] at h
          refine PySem.W.kat_cons (SeqAt.EqAt.str_str m t n u prog w _ _ ?_)
          refine PySem.W.kat_go (fun e => ?_) (fun e => ?_)
          · have e : m = n := by simpa using e
            subst e
            refine PySem.W.kat_yes (ih xs ys (i + 1) Q a2 b2 ?_)
            have irr : ¬ m.cps.toList < m.cps.toList := List.lt_irrefl _
            simpa [irr] using h
          · have e : ¬ m = n := by simpa using e
            refine PySem.W.kat_no ?_
            have h : Q (decide (m.cps.toList < n.cps.toList)) s := by simpa [e] using h
            cases hb : (true && i == 0)
            · exact PySem.W.kat_one _ _ (PySem.P.lt_str h)
            · exact oneLt_str h
end
end Z
namespace Z
open PySem PySem.Spec PyProof.Rows L2
def keyZ (h : Heap) (v : Value) : D := match v with
  | .int i _ => .int i
  | .str x _ => .str x
  | v => .tup (keyV h v)
section
variable {X : Cx} {pins : List (Addr × Obj)} {σ : L2.St} {H : Hp} {s : Shared} {g : G} {s0 : S}
theorem scs_of : ∀ {xs : List V} {its : List Value} {ds : List D} {ks : List Nat}, Vals xs its → RepL X.K g xs ds → ds.mapM kS = some ks → its.map scV = ds
  | _, _, _, _, .nil, .nil, _ => rfl
  | _, _, _, _, .cons r t, .cons q u, h => by
    obtain ⟨k1, ks1, a1, a2, a3⟩ := mapM_cons_some h
    rw [List.map_cons, scs_of t u a2]
    congr 1
    cases q <;> simp only [kS] at a1 <;> cases a1
    · obtain ⟨t, rfl⟩ := r; rfl
    · obtain ⟨t, rfl⟩ := r; rfl
theorem keyZ_of (I : Inv X pins σ H s) (R : SRel X.K g H s0) {x : V} {v : Value} {d : D} (rv : RelV x v) (r : Rep X.K g x d) (h : (∃ i, d = .int i) ∨ (∃ z, d = .str z) ∨ ∃ ks, kD d = some ks) : keyZ s.heap v = d := by
  rcases h with ⟨i, rfl⟩ | ⟨z, rfl⟩ | ⟨ks, h⟩
  · cases r; obtain ⟨t, rfl⟩ := rv; rfl
  · cases r; obtain ⟨t, rfl⟩ := rv; rfl
  · cases r <;> simp only [kD] at h <;> try cases h
    rename_i a vs ds q r
    obtain rfl : v = Value.ref a := rv
    obtain ⟨its, r2, ⟨o, ho, hc, n, hd⟩, _⟩ := I.tuple (sqT_H R q)
    show D.tup (keyV s.heap (.ref a)) = _
    unfold keyV
    simp only [ho, hd]
    rw [scs_of r2 r h]
/-- what an item is, at any heap that keeps the tuples -/
structure Itm (h : Heap) (v : Value) (d : D) : Prop where
  sc : (∃ i t, v = .int i t ∧ d = .int i) ∨ (∃ z t, v = .str z t ∧ d = .str z) ∨ ∃ a o its n ds ks, v = .ref a ∧ h.get? a = some o ∧ o.cls = .type "tuple" ∧ o.data = .seq its n ∧ its.toList.map scV = ds ∧ d = .tup ds ∧ ds.mapM kS = some ks
theorem itm_of (I : Inv X pins σ H s) (R : SRel X.K g H s0) {x : V} {v : Value} {d : D} (rv : RelV x v) (r : Rep X.K g x d) (h : (∃ i, d = .int i) ∨ (∃ z, d = .str z) ∨ ∃ ks, kD d = some ks) : Itm s.heap v d := by
  refine ⟨?_⟩
  rcases h with ⟨i, rfl⟩ | ⟨z, rfl⟩ | ⟨ks, h⟩
  · cases r; obtain ⟨t, rfl⟩ := rv; exact .inl ⟨_, t, rfl, rfl⟩
  · cases r; obtain ⟨t, rfl⟩ := rv; exact .inr (.inl ⟨_, t, rfl, rfl⟩)
  · cases r <;> simp only [kD] at h <;> try cases h
    rename_i a vs ds q r
    obtain rfl : v = Value.ref a := rv
    obtain ⟨its, r2, ⟨o, ho, hc, n, hd⟩, _⟩ := I.tuple (sqT_H R q)
    exact .inr (.inr ⟨a, o, its.toArray, n, ds, ks, rfl, ho, hc, hd, by rw [List.toList_toArray]; exact scs_of r2 r h, rfl, h⟩)
theorem Itm.keep {h h' : Heap} {v : Value} {d : D} (i : Itm h v d) (k : ∀ b o, h.get? b = some o → o.cls = .type "tuple" → h'.get? b = some o) : Itm h' v d := by
  refine ⟨?_⟩
  rcases i.sc with z | z | ⟨a, o, its, n, ds, ks, e1, e2, e3, e4⟩
  · exact .inl z
  · exact .inr (.inl z)
  · exact .inr (.inr ⟨a, o, its, n, ds, ks, e1, k _ _ e2 e3, e3, e4⟩)
theorem Itm.key {h : Heap} {v : Value} {d : D} (i : Itm h v d) : keyZ h v = d := by
  rcases i.sc with ⟨i, t, rfl, rfl⟩ | ⟨z, t, rfl, rfl⟩ | ⟨a, o, its, n, ds, ks, rfl, e2, e3, e4, e5, rfl, e6⟩
  · rfl
  · rfl
  · show D.tup (keyV h (.ref a)) = _
    unfold keyV
    simp only [e2, e4, e5]
end
inductive Itms (h : Heap) : List Value → List D → Prop
  | nil : Itms h [] []
  | cons {v d vs ds} : Itm h v d → Itms h vs ds → Itms h (v :: vs) (d :: ds)
theorem Itms.keep {h h' : Heap} (k : ∀ b o, h.get? b = some o → o.cls = .type "tuple" → h'.get? b = some o) : ∀ {vs ds}, Itms h vs ds → Itms h' vs ds
  | _, _, .nil => .nil
  | _, _, .cons i r => .cons (i.keep k) (Itms.keep k r)
theorem Itms.keys {h : Heap} : ∀ {vs ds}, Itms h vs ds → vs.map (keyZ h) = ds
  | _, _, .nil => rfl
  | _, _, .cons i r => by rw [List.map_cons, i.key, Itms.keys r]
theorem Itms.mem {h : Heap} : ∀ {vs ds} {v : Value}, Itms h vs ds → v ∈ vs → ∃ d ∈ ds, Itm h v d
  | _, _, v, .cons (d := d) i r, m => by
    rcases List.mem_cons.mp m with e | m
    · subst e; exact ⟨d, List.mem_cons_self, i⟩
    · obtain ⟨d', q, j⟩ := Itms.mem r m
      exact ⟨d', List.mem_cons_of_mem _ q, j⟩
/-- one kind of items -/
inductive OneK : List D → Prop
  | kInts (ns : List Int) : OneK (ns.map D.int)
  | kStrs (xs : List Str) : OneK (xs.map D.str)
  | kTups (ds : List D) (k : Nat) (ks : List Nat) (h : ∀ d ∈ ds, kD d = some (k :: ks)) : OneK ds
theorem all_ints : ∀ {ds : List D}, (ds.all fun e => match e with | .int _ => true | _ => false) = true → ∃ ns : List Int, ds = ns.map D.int
  | [], _ => ⟨[], rfl⟩
  | d :: ds, h => by
    rw [List.all_cons, Bool.and_eq_true] at h
    obtain ⟨ns, e⟩ := all_ints h.2
    cases d <;> simp at h
    exact ⟨_ :: ns, by rw [List.map_cons, e]⟩
theorem all_strs : ∀ {ds : List D}, (ds.all fun e => match e with | .str _ => true | _ => false) = true → ∃ ns : List Str, ds = ns.map D.str
  | [], _ => ⟨[], rfl⟩
  | d :: ds, h => by
    rw [List.all_cons, Bool.and_eq_true] at h
    obtain ⟨ns, e⟩ := all_strs h.2
    cases d <;> simp at h
    exact ⟨_ :: ns, by rw [List.map_cons, e]⟩
theorem sameK_one {ds : List D} (h : sameK ds = true) : OneK ds := by
  unfold sameK at h
  split at h
  · exact .kInts []
  · split at h
    · obtain ⟨ns, e⟩ := all_ints h
      rename_i i
      rw [e]
      exact .kInts (i :: ns)
    · obtain ⟨ns, e⟩ := all_strs h
      rename_i x
      rw [e]
      exact .kStrs (x :: ns)
    · split at h
      · rename_i k ks hk
        refine .kTups _ k ks fun d hd => ?_
        rcases List.mem_cons.mp hd with e | hd
        · rw [e]; exact hk
        · exact of_decide_eq_true (List.all_eq_true.mp h d hd)
      · cases h
    · cases h
theorem OneK.sc {ds : List D} (h : OneK ds) : ∀ d ∈ ds, (∃ i, d = .int i) ∨ (∃ z, d = .str z) ∨ ∃ ks, kD d = some ks := fun d hd => by
  cases h with
  | kInts ns => obtain ⟨i, _, e⟩ := List.mem_map.mp hd; exact .inl ⟨i, e.symm⟩
  | kStrs xs => obtain ⟨i, _, e⟩ := List.mem_map.mp hd; exact .inr (.inl ⟨i, e.symm⟩)
  | kTups _ k ks h => exact .inr (.inr ⟨_, h d hd⟩)
theorem kD_tup {d : D} {ks : List Nat} (h : kD d = some ks) : ∃ ds, d = .tup ds ∧ ds.mapM kS = some ks := by
  cases d <;> simp only [kD] at h <;> try cases h
  exact ⟨_, rfl, h⟩
theorem OneK.inj {ds : List D} (h : OneK ds) : ∀ x ∈ ds, ∀ y ∈ ds, ltS x y = false → ltS y x = false → x = y := fun x hx y hy h1 h2 => by
  cases h with
  | kInts ns =>
    obtain ⟨i, _, rfl⟩ := List.mem_map.mp hx
    obtain ⟨j, _, rfl⟩ := List.mem_map.mp hy
    rw [lt_int] at h1 h2
    have h1 := of_decide_eq_false h1
    have h2 := of_decide_eq_false h2
    rw [show i = j by omega]
  | kStrs xs =>
    obtain ⟨i, _, rfl⟩ := List.mem_map.mp hx
    obtain ⟨j, _, rfl⟩ := List.mem_map.mp hy
    rw [lt_str] at h1 h2
    rw [str_cps.mp (nlt_eq (of_decide_eq_false h1) (of_decide_eq_false h2))]
  | kTups _ k ks h =>
    obtain ⟨xs, rfl, a1⟩ := kD_tup (h x hx)
    obtain ⟨ys, rfl, b1⟩ := kD_tup (h y hy)
    rw [enc_inj (k :: ks) a1 b1 (of_decide_eq_false h1) (of_decide_eq_false h2)]
theorem itms_ints {h : Heap} : ∀ {vs : List Value} {ns : List Int}, Itms h vs (ns.map D.int) → IntsAre vs ns
  | _, [], .nil => .nil
  | _, n :: ns, .cons i r => by
    rcases i.sc with ⟨i, t, rfl, e⟩ | ⟨z, t, rfl, e⟩ | ⟨a, o, its, m, ds, ks, rfl, e2, e3, e4, e5, e, e6⟩ <;> cases e
    exact .cons _ _ (itms_ints r)
theorem itms_strs {h : Heap} : ∀ {vs : List Value} {ns : List Str}, Itms h vs (ns.map D.str) → StrsAre vs ns
  | _, [], .nil => .nil
  | _, n :: ns, .cons i r => by
    rcases i.sc with ⟨i, t, rfl, e⟩ | ⟨z, t, rfl, e⟩ | ⟨a, o, its, m, ds, ks, rfl, e2, e3, e4, e5, e, e6⟩ <;> cases e
    exact .cons _ _ (itms_strs r)
theorem itms_tups {h : Heap} {k : Nat} {ks : List Nat} : ∀ {vs : List Value} {ds : List D}, Itms h vs ds → (∀ d ∈ ds, kD d = some (k :: ks)) → ∃ fs, PySem.W.KatTups h vs fs ∧ fs.length = vs.length ∧ ∀ f ∈ fs, kS (scV f) = some k
  | _, _, .nil, _ => ⟨[], .nil, rfl, fun f hf => by cases hf⟩
  | _, _, .cons i r, hk => by
    obtain ⟨fs, h1, h2, h3⟩ := itms_tups r fun d hd => hk d (List.mem_cons_of_mem _ hd)
    have q := hk _ List.mem_cons_self
    rcases i.sc with ⟨i, t, rfl, e⟩ | ⟨z, t, rfl, e⟩ | ⟨a, o, its, m, ds, ks', rfl, e2, e3, e4, e5, e, e6⟩
    · subst e; cases q
    · subst e; cases q
    · subst e
      have q : ds.mapM kS = some (k :: ks) := q
      cases ds with
      | nil => cases q
      | cons d0 ds0 =>
        obtain ⟨k1, ks1, a1, a2, a3⟩ := mapM_cons_some q
        cases a3
        obtain ⟨f, rest, hf⟩ : ∃ f rest, its.toList = f :: rest := by
          cases hq : its.toList with
          | nil => rw [hq] at e5; cases e5
          | cons f rest => exact ⟨f, rest, rfl⟩
        rw [hf, List.map_cons] at e5
        have hfd : scV f = d0 := (List.cons.inj e5).1
        refine ⟨f :: fs, .cons e2 e3 e4 ?_ h1, by simp [h2], fun f' hf' => ?_⟩
        · rw [← Array.getElem?_toList, hf]; rfl
        · rcases List.mem_cons.mp hf' with z | z
          · subst z; rw [hfd]; exact a1
          · exact h3 f' z
section
variable {prog : Program} {w : World} {A : Around} {s : Shared}
theorem cmp_Z {vs : List Value} {ds : List D} (O : OneK ds) (T : Itms s.heap vs ds) (hne : 2 ≤ vs.length) : ∃ κ, (∀ (Q : SortKind → Shared → Prop) (E : Value → Shared → Prop), Q κ s → wpAny (model prog w) A (keyKind' vs.toArray) Q E s) ∧
    SrtO.Cmp prog w A s κ (fun p => p.1 ∈ vs) (SrtO.lt2 fun v u => ltS (keyZ s.heap v) (keyZ s.heap u)) := by
  cases O with
  | kInts ns =>
    have hI := itms_ints T
    refine ⟨oneType', fun Q E hq => ?_, fun p q hp hq => ?_⟩
    · match vs, hI, hne with
      | v1 :: v2 :: rest, hI, _ =>
        rw [keyKind_ints hI]
        exact wpAny_pure hq
    · obtain ⟨d1, m1, i1⟩ := T.mem hp
      obtain ⟨d2, m2, i2⟩ := T.mem hq
      obtain ⟨a, _, rfl⟩ := List.mem_map.mp m1
      obtain ⟨b, _, rfl⟩ := List.mem_map.mp m2
      show wpAny _ _ _ (fun r s' => s' = s ∧ r = ltS (keyZ s.heap p.1) (keyZ s.heap q.1)) _ _
      rw [i1.key, i2.key, lt_int]
      rcases i1.sc with ⟨i, t, e1, e⟩ | ⟨z, t, _, e⟩ | ⟨_, o, its, m, ds, ks, _, e2, e3, e4, e5, e, e6⟩ <;> cases e
      rcases i2.sc with ⟨i, t, e2, e⟩ | ⟨z, t, _, e⟩ | ⟨_, o, its, m, ds, ks, _, e2, e3, e4, e5, e, e6⟩ <;> cases e
      rw [e1, e2, keyLt'_oneType]
      exact oneLt_int ⟨rfl, rfl⟩
  | kStrs xs =>
    have hI := itms_strs T
    refine ⟨oneType', fun Q E hq => ?_, fun p q hp hq => ?_⟩
    · match vs, hI, hne with
      | v1 :: v2 :: rest, hI, _ =>
        rw [keyKind_strs hI]
        exact wpAny_pure hq
    · obtain ⟨d1, m1, i1⟩ := T.mem hp
      obtain ⟨d2, m2, i2⟩ := T.mem hq
      obtain ⟨a, _, rfl⟩ := List.mem_map.mp m1
      obtain ⟨b, _, rfl⟩ := List.mem_map.mp m2
      show wpAny _ _ _ (fun r s' => s' = s ∧ r = ltS (keyZ s.heap p.1) (keyZ s.heap q.1)) _ _
      rw [i1.key, i2.key, lt_str]
      rcases i1.sc with ⟨i, t, _, e⟩ | ⟨z, t, e1, e⟩ | ⟨_, o, its, m, ds, ks, _, e2, e3, e4, e5, e, e6⟩ <;> cases e
      rcases i2.sc with ⟨i, t, _, e⟩ | ⟨z, t, e2, e⟩ | ⟨_, o, its, m, ds, ks, _, e2, e3, e4, e5, e, e6⟩ <;> cases e
      rw [e1, e2, keyLt'_oneType]
      exact oneLt_str ⟨rfl, rfl⟩
  | kTups _ k ks hk =>
    obtain ⟨fs, h1, h2, h3⟩ := itms_tups T hk
    refine ⟨tuples' true, fun Q E hq => ?_, fun p q hp hq => ?_⟩
    · have hl : 0 < fs.length := by omega
      have hk01 : (k = 0 ∧ ∀ f ∈ fs, ∃ i t, f = Value.int i t) ∨ (k = 1 ∧ ∀ f ∈ fs, ∃ i t, f = Value.str i t) := by
        obtain ⟨f, r, e⟩ : ∃ f r, fs = f :: r := by
          cases fs with
          | nil => simp at hl
          | cons f r => exact ⟨f, r, rfl⟩
        have q0 := h3 f (by rw [e]; exact List.mem_cons_self)
        have hk' : k = 0 ∨ k = 1 := by
          cases f <;> simp only [scV, kS] at q0 <;> cases q0
          · exact .inl rfl
          · exact .inr rfl
        rcases hk' with rfl | rfl
        · refine .inl ⟨rfl, fun f hf => ?_⟩
          have q := h3 f hf
          cases f <;> simp only [scV, kS] at q <;> cases q
          exact ⟨_, _, rfl⟩
        · refine .inr ⟨rfl, fun f hf => ?_⟩
          have q := h3 f hf
          cases f <;> simp only [scV, kS] at q <;> cases q
          exact ⟨_, _, rfl⟩
      rcases hk01 with ⟨_, hf⟩ | ⟨_, hf⟩
      · refine PySem.W.kat_kind (T := .type "int") h1 hl (fun f hm => ?_) (by rfl) ?_
        · obtain ⟨x, t, rfl⟩ := hf f hm
          exact PySem.W.Looks.now
        · have e : (Value.type "int" != Value.type "tuple") = true := by first | decide +kernel | rfl | decide
          rw [e]
          exact hq
      · refine PySem.W.kat_kind (T := .type "str") h1 hl (fun f hm => ?_) (by rfl) ?_
        · obtain ⟨x, t, rfl⟩ := hf f hm
          exact PySem.W.Looks.now
        · have e : (Value.type "str" != Value.type "tuple") = true := by first | decide +kernel | rfl | decide
          rw [e]
          exact hq
    · obtain ⟨d1, m1, i1⟩ := T.mem hp
      obtain ⟨d2, m2, i2⟩ := T.mem hq
      have k1 := hk d1 m1
      have k2 := hk d2 m2
      show wpAny _ _ _ (fun r s' => s' = s ∧ r = ltS (keyZ s.heap p.1) (keyZ s.heap q.1)) _ _
      rw [i1.key, i2.key]
      rcases i1.sc with ⟨i, t, _, e⟩ | ⟨z, t, _, e⟩ | ⟨a1, o1, its1, n1, ds1, ks1, ev1, g1, c1, t1, e1, e, y1⟩ <;> try (subst e; cases k1)
      rcases i2.sc with ⟨i, t, _, e'⟩ | ⟨z, t, _, e'⟩ | ⟨a2, o2, its2, n2, ds2, ks2, ev2, g2, c2, t2, e2, e', y2⟩ <;> try (subst e'; cases k2)
      subst e e'
      have k1 : ds1.mapM kS = some (k :: ks) := k1
      have k2 : ds2.mapM kS = some (k :: ks) := k2
      have l1 : ds1.length = (k :: ks).length := mapM_len k1
      have l2 : ds2.length = (k :: ks).length := mapM_len k2
      rw [ev1, ev2]
      refine PySem.W.kat_lt g1 t1 g2 t2 ?_
      have sz : decide (its1.size < its2.size) = false := by
        have a : its1.size = ds1.length := by rw [← e1, List.length_map, Array.length_toList]
        have b : its2.size = ds2.length := by rw [← e2, List.length_map, Array.length_toList]
        rw [a, b, l1, l2]; simp
      rw [sz]
      refine kat_enc (k :: ks) _ _ 0 _ (by rw [e1]; exact k1) (by rw [e2]; exact k2) ⟨rfl, ?_⟩
      rw [e1, e2]
      rfl
end
end Z
namespace Z
open PySem PySem.Spec PyProof.Rows L2
section
variable {X : Cx} {pins : List (Addr × Obj)} {σ : L2.St} {H : Hp} {s : Shared} {g : G} {s0 : S}
theorem itms_of (I : Inv X pins σ H s) (R : SRel X.K g H s0) : ∀ {xs : List V} {vs : List Value} {ds : List D}, Vals xs vs → RepL X.K g xs ds → (∀ d ∈ ds, (∃ i, d = .int i) ∨ (∃ z, d = .str z) ∨ ∃ ks, kD d = some ks) → Itms s.heap vs ds
  | _, _, _, .nil, .nil, _ => .nil
  | _, _, _, .cons r t, .cons q u, h => .cons (itm_of I R r q (h _ List.mem_cons_self)) (itms_of I R t u fun d hd => h d (List.mem_cons_of_mem _ hd))
/-- what comes out of a sort is again values -/
theorem back_of (I : Inv X pins σ H s) (R : SRel X.K g H s0) {xs : List V} {vs : List Value} {ds : List D} (rv : Vals xs vs) (r : RepL X.K g xs ds) (hd : ∀ d ∈ ds, (∃ i, d = .int i) ∨ (∃ z, d = .str z) ∨ ∃ ks, kD d = some ks) :
    ∀ out : List Value, (∀ v ∈ out, v ∈ vs) → ∃ ys, Vals ys out ∧ RepL X.K g ys (out.map (keyZ s.heap))
  | [], _ => ⟨[], .nil, .nil⟩
  | v :: out, h => by
    obtain ⟨ys, h1, h2⟩ := back_of I R rv r hd out fun u hu => h u (List.mem_cons_of_mem _ hu)
    obtain ⟨i, hi⟩ := List.mem_iff_getElem?.mp (h v List.mem_cons_self)
    have hl : i < xs.length := by rw [rv.length]; exact (List.getElem?_eq_some_iff.mp hi).1
    obtain ⟨u, hu, ru⟩ := rv.get (List.getElem?_eq_getElem hl)
    rw [hi] at hu; cases hu
    obtain ⟨d, q1, q2⟩ := r.getV (List.getElem?_eq_getElem hl)
    refine ⟨xs[i] :: ys, .cons ru h1, ?_⟩
    rw [List.map_cons, keyZ_of I R ru q2 (hd d (List.mem_iff_getElem?.mpr ⟨i, q1⟩))]
    exact .cons q2 h2
theorem cr_sortZ : CallR X (.builtin "sorted") (rF X.K fun ds s => lft (sortedD ds) s) := fun pins s σ H xs us Q I r h => by
  obtain ⟨g, s0, ds, d, s', R, rl, hm, k⟩ := h
  obtain ⟨h4, h5⟩ := lft_some hm
  dsimp only at h4 h5
  subst h5
  unfold sortedD at h4
  split at h4
  · rename_i es
    split at h4
    · rename_i hk
      cases h4
      cases rl with
      | cons r1 rl =>
        cases rl
        cases r1 with
        | @lst a vs _ q rr =>
          obtain ⟨its, rv, hl, hz⟩ := I.list (.inl (rd_H R q))
          rw [Vals.ref1 r]
          have O := sameK_one hk
          have T := itms_of I R rv rr O.sc
          have hlen := rv.length
          refine SrtO.sorted_ord (ltv := fun v u => ltS (keyZ s.heap v) (keyZ s.heap u)) ⟨fun x y => ltS_swo.asym _ _, fun x y z => ltS_swo.tr _ _ _⟩ hl.isList (by rw [← hlen]; exact hz) (fun h2 h1 a' ha kk => ?_) fun out o1 o2 => ?_
          · intro h' keep
            have hT' : Itms h' its es := (T.keep (h' := h1) fun b o e _ => (kk b o e).2).keep fun b o e c => keep b o (fun z => by
              subst z
              have e' : some o = some (seqObj "list" its.toArray 0) := e.symm.trans ha
              cases e'
              exact absurd (Value.type.inj c) (by decide)) e
            obtain ⟨κ, hκ, hC⟩ := cmp_Z (prog := X.prog) (w := X.w) (A := X.A.in1.in1) (s := { s with heap := h' }) O hT' h2
            refine ⟨κ, hκ, fun p q hp hq => ?_⟩
            have e : ∀ v ∈ its, keyZ h' v = keyZ s.heap v := fun v hv => by
              obtain ⟨i, hi⟩ := List.mem_iff_getElem?.mp hv
              have a1 := congrArg (fun l => l[i]?) T.keys
              have a2 := congrArg (fun l => l[i]?) hT'.keys
              simp only [List.getElem?_map, hi, Option.map_some] at a1 a2
              rw [← a1] at a2
              exact Option.some.inj a2
            have := hC p q hp hq
            show wpAny _ _ _ (fun r s' => s' = _ ∧ r = ltS (keyZ s.heap p.1) (keyZ s.heap q.1)) _ _
            rw [← e p.1 hp, ← e q.1 hq]
            exact this
          · obtain ⟨ys, y1, y2⟩ := back_of I R rv rr O.sc out fun v hv => o2.perm.mem_iff.mp hv
            have hperm : (out.map (keyZ s.heap)).Perm es := by
              have := o2.perm.map (keyZ s.heap)
              rw [T.keys] at this
              exact this
            have hs : SrtO.Srtd ltS (out.map (keyZ s.heap)) := List.pairwise_map.mpr o1
            have he := sortL_eq hperm hs O.inj
            rw [← he] at y2
            obtain ⟨ep, he'⟩ := PyProof.Rows.sortedAll_at s.heap its out.toArray
            have hyl : ys.length ≤ sizeLine := by
              rw [y1.length, o2.perm.length_eq, ← hlen]; exact hz
            have hn := I.hok.fresh (Nat.le_succ s.heap.objs.size)
            obtain ⟨z1, z2, z3, z4⟩ := (Step.refl R).new1 (u := .lst ys) hn
            exact ⟨.ref _, upd H (s.heap.objs.size + 1) (.lst ys), I.laid (t' := s.toks) (fun _ _ => PyProof.Rows.sortedAll_old) (Nat.le_succ _) ⟨hyl, out, ep, y1, he'⟩, rfl, k _ g _ z1 z2 z3 z4 ⟨ys, upd_same, y2⟩⟩
    · cases h4
  · cases h4
end
section
variable {X : Cx} {a e : Expr} {es : List Expr} {ma : MA} {p pos : Pos} {x : Str}
/-- f(..), a built-in function, to a new object -/
theorem f_bltF {id : String} {md : MD} (hc : CallR X (.builtin id) (rF X.K md)) (hv : bootBuiltins x = some (.builtin id)) (hg : Gl X x) (hm : X.mg x = none) (ha : PA X (a :: es) (trA X.K ma)) (hn : x ≠ "__name__" := by decide +kernel) (hdb : (x == ("__debug__" : Str)) = false := by decide +kernel)
    (he : starEach (a :: es) X.env = (false, eval a X.env) :: starEach es X.env := by rfl) (hpl : (backTo pos (starEach es X.env)).any (·.1) = false := by rfl) : PE X (.Call (.Name x p) (a :: es) [] pos) (trF X.K (mCallD md ma)) :=
  PE.imp (pe_callB hc hg hm hv ha hn hdb he hpl) fun _ _ _ => trF_callD
theorem d_tyM {T : String} {md : MD} (hc : CallR X (.type T) (rM X.K md)) (hv : bootBuiltins x = some (.type T)) (hg : Gl X x) (hm : X.mg x = none) (ha : PA X (a :: es) (trA X.K ma)) (hn : x ≠ "__name__" := by decide +kernel) (hdb : (x == ("__debug__" : Str)) = false := by decide +kernel)
    (he : starEach (a :: es) X.env = (false, eval a X.env) :: starEach es X.env := by rfl) (hpl : (backTo pos (starEach es X.env)).any (·.1) = false := by rfl) : PE X (.Call (.Name x p) (a :: es) [] pos) (trE X.K (mCallD md ma)) :=
  PE.imp (pe_callTy hc hg hm hv ha hn hdb he hpl) fun _ _ _ => trE_callD
theorem d_bltM {id : String} {md : MD} (hc : CallR X (.builtin id) (rM X.K md)) (hv : bootBuiltins x = some (.builtin id)) (hg : Gl X x) (hm : X.mg x = none) (ha : PA X (a :: es) (trA X.K ma)) (hn : x ≠ "__name__" := by decide +kernel) (hdb : (x == ("__debug__" : Str)) = false := by decide +kernel)
    (he : starEach (a :: es) X.env = (false, eval a X.env) :: starEach es X.env := by rfl) (hpl : (backTo pos (starEach es X.env)).any (·.1) = false := by rfl) : PE X (.Call (.Name x p) (a :: es) [] pos) (trE X.K (mCallD md ma)) :=
  PE.imp (pe_callB hc hg hm hv ha hn hdb he hpl) fun _ _ _ => trE_callD
end
end Z

set_option Elab.async false
set_option linter.all false
set_option maxRecDepth 100000
set_option maxHeartbeats 4000000
namespace Z
open PySem PySem.Spec PyProof.Rows L2 PySem.W
section
variable {prog : Program} {w : World} {A : Around} {E : Value → Shared → Prop} {s : Shared} {T : String} {r d : Addr} {n : Nat} {P : Nat → Value → Prop} {OK : Heap → Prop}
end
def kVD : Key → D
  | .inl i => .int i
  | .inr x => .str x
section
variable {K : PySem.W.Frag} {g : G}
end
section
variable {X : Cx} {pins : List (Addr × Obj)} {σ : L2.St} {H : Hp} {s : Shared}
def tupleDicD : List D → Option D
  | [.dic kvs] => if kvs.length ≤ sizeLine then some (.tup (kvs.map fun p => kVD p.1)) else none
  | _ => none
/-! ### tuple(x.values()) -/
def tupleValsD : D → Option D
  | .dic kvs => if kvs.length ≤ sizeLine then some (.tup (kvs.map fun p => p.2)) else none
  | _ => none
variable {e : Expr} {me : ME} {p pos apos cpos : Pos}
end
end Z

set_option Elab.async false
set_option linter.all false
set_option maxRecDepth 100000
set_option maxHeartbeats 4000000
namespace Z
open PySem PySem.Spec PyProof.Rows L2
/-! ### enumerate of a tuple -/
def tItObj (l : Addr) : Obj := { cls := .type "tuple_iterator", data := .fields #[.ref l, .int 0 0] }
theorem meets_enumT (l : Addr) (its : Array Value) :
    Meets (Builtin.«enumerate.__new__» ⟨[.type "enumerate", .ref l], []⟩) (fun _ R s => s.heap.IsTuple l its ∧
      R (.ok (.ret (.ref (s.heap.push (tItObj l)).objs.size))) { s with heap := (s.heap.push (tItObj l)).push { cls := .type "enumerate", data := .fields #[.none, .bool false, .ref s.heap.objs.size, rawInt 0, .none, .none] } }) :=
  .of_wp fun prog w A R s h => by
    obtain ⟨hp, gs, dr, tk, os⟩ := s
    obtain ⟨h1, h⟩ := h
    have hsub := sub_enumerate
    have q1 : ∀ {A' : Around} {E : Value → Shared → Prop} {Q : Value → Shared → Prop}, Q (.ref hp.objs.size) ⟨hp.push (tItObj l), gs, dr, tk, os⟩ → wpAny (model prog w) A' (pyIter (.ref l)) Q E ⟨hp, gs, dr, tk, os⟩ :=
      fun q => wpAny_pyIter_tuple h1 q
    wp_walk using q1
    refine wpAny_stack_any fun st => wpAny_pure ?_
    split
    · rename_i c _ _ _ _ _
      cases (c == Value.type "enumerate")
      · wp_walk using q1
        exact ⟨_, rfl, h⟩
      · wp_walk using q1
        exact ⟨_, rfl, h⟩
    · wp_walk using q1
      exact ⟨_, rfl, h⟩
section
variable {prog : Program} {w : World} {A : Around} {E : Value → Shared → Prop} {s : Shared}
theorem enum_tuple {l : Addr} {its : Array Value} {Q : Value → Shared → Prop} (hl : s.heap.IsTuple l its)
    (h : ∀ h', IsEnum h' (s.heap.objs.size + 1) s.heap.objs.size 0 .none → h'.IsTupleIter s.heap.objs.size l 0 → h'.objs.size = s.heap.objs.size + 2 → (∀ b o, s.heap.get? b = some o → h'.get? b = some o) → Q (.ref (s.heap.objs.size + 1)) { s with heap := h' }) :
    wpAny (model prog w) A (call (.type "enumerate") [.ref l]) Q E s := by
  refine callType_new F.called_enumerate (by decide) (F.typeCall_enumerate_1 _) (F.newCall_enumerate_1 _) (fun obj => F.args_object_init_2 obj _) F.entry_enumerate_new (meets_enumT l its) ⟨hl, ?_⟩
  have hz : (s.heap.push (tItObj l)).objs.size = s.heap.objs.size + 1 := Heap.size_push ..
  show _ ∧ _
  rw [hz]
  have he : IsEnum ((s.heap.push (tItObj l)).push { cls := .type "enumerate", data := .fields #[.none, .bool false, .ref s.heap.objs.size, rawInt 0, .none, .none] }) (s.heap.objs.size + 1) s.heap.objs.size 0 .none := by
    have q := Heap.get?_push_size (s.heap.push (tItObj l)) (o := { cls := .type "enumerate", data := .fields #[.none, .bool false, .ref s.heap.objs.size, rawInt 0, .none, .none] }) rfl
    rw [hz] at q; exact q
  exact ⟨⟨_, he, rfl⟩, h _ he ⟨_, Heap.get?_push_of_some _ (Heap.get?_push_size _ rfl), rfl, rfl⟩ (by rw [Heap.size_push, hz]) fun b o x => Heap.get?_push_of_some _ (Heap.get?_push_of_some _ x)⟩
end
/-- the tuple at a, each item in a new pair -/
def IteT (K : PySem.W.Frag) (a : Addr) : It :=
  ⟨fun i H => ∃ (xs : List V) (x : V), SqT K H a xs ∧ xs[i]? = some x, fun i H v H' => ∃ T x, v = .ref T ∧ H T = none ∧ H' = upd H T (.tup [.int (i : Nat), x]) ∧ ∀ xs, SqT K H a xs → xs[i]? = some x, fun i H => ∃ xs : List V, SqT K H a xs ∧ xs.length = i⟩
theorem turn_enumT {P : Program} {w : World} {K : PySem.W.Frag} {elts : List Expr} {kk : Nat} {tpos : Pos} (a e it : Addr) :
    Turn P w K (.Tuple elts kk tpos) (IteT K a) [e, it] e (fun i h => (∃ old, IsEnum h e it ((i : Nat) : Int) old) ∧ h.IsTupleIter it a i ∧ e ≠ it ∧ a ≠ it ∧ a ≠ e) where
  mem := by simp
  obj := fun i h st b hb => by
    obtain ⟨⟨old, he⟩, ⟨o, ho, hc, hd⟩, _⟩ := st
    rcases (show b = e ∨ b = it by simpa using hb) with z | z
    · rw [z]; exact ⟨_, he, fun v q => nomatch q⟩
    · rw [z]; exact ⟨o, ho, fun v q => by rw [hd] at q; cases q⟩
  keep := fun i h h' st k => ⟨let ⟨old, he⟩ := st.1; ⟨old, k e (by simp) _ he⟩, st.2.1.at fun o q => k it (by simp) o q, st.2.2⟩
  item := by
    intro X hP hw hK hc i pins s σ H E I hf st hg
    subst hP hw hK
    obtain ⟨⟨old, he⟩, hit, hne, hai, hae⟩ := st
    obtain ⟨xs, x, hq, hx⟩ := hg
    obtain ⟨its, rv, p, hz⟩ := I.tuple hq
    obtain ⟨u, hu, ru⟩ := rv.get hx
    have hel : e < s.heap.objs.size := Heap.lt_size he
    have hil : it < s.heap.objs.size := let ⟨_, q, _⟩ := hit; Heap.lt_size q
    have hsz : i < its.toArray.size := by
      have := (List.getElem?_eq_some_iff.mp hu).1
      simpa using this
    have Dw := Draws.tuple (prog := X.prog) (w := X.w) (A := X.A.in1) (I.ok.hd hc) it a hai its.toArray
    refine wpAny_pyNext_enum_itemD Dw he ⟨hit, p⟩ hsz hne (by simp only [List.mem_cons, List.not_mem_nil, or_false, not_or]; exact ⟨hne, fun z => hae z.symm⟩) fun y h' tk hy ho hs' hT hsz' hk => ?_
    have ey : y = u := by
      have hy : its.toArray[i]? = some y := hy
      simp only [List.getElem?_toArray] at hy
      rw [hu] at hy; exact (Option.some.inj hy).symm
    subst ey
    refine ⟨_, rfl, wpAny_letOwnedTupleGo_enum (s := { s with heap := h', toks := tk + 1 }) ho fun h'' he' sb => ?_⟩
    have hT2 : h''.get? s.heap.objs.size = some { cls := .type "tuple", data := .seq #[.int i tk, y] } := (sb.2 _ (Nat.ne_of_gt hel)).trans hT
    have new : ObjOk X.prog X.w (upd H s.heap.objs.size (.tup [.int (i : Nat), x])) h'' s.heap.objs.size (.tup [.int (i : Nat), x]) :=
      ⟨by show 2 ≤ sizeLine; decide, [.int i tk, y], .cons ⟨_, rfl⟩ (.cons ru .nil), ⟨_, hT2, rfl, _, rfl⟩⟩
    have I1 : Inv X pins σ (upd H s.heap.objs.size (.tup [.int (i : Nat), x])) { s with heap := h'', toks := tk + 1 } :=
      I.turnedNew (ch := [e, it]) (fun b ob hb q => (sb.2 b (fun z => hb (by simp [z]))).trans (hk b ob (fun z => hb (by simp [z])) (fun z => hb (by simp [z])) q)) hf (Nat.le_refl _) new
    refine ⟨.ref s.heap.objs.size, _, I1, rfl, ⟨_, x, rfl, I.hok.fresh (Nat.le_refl _), rfl, fun ys hy => by rw [I.tuple_inj hy hq]; exact hx⟩, ⟨⟨y, ?_⟩, hs'.1.at fun o q => (sb.2 it (Ne.symm hne)).trans q, hne, hai, hae⟩, fun b hb => ?_⟩
    · rw [show ((i + 1 : Nat) : Int) = (i : Int) + 1 by omega]; exact he'
    · have hb' : b < s.heap.objs.size := by
        rcases (show b = e ∨ b = it by simpa using hb) with z | z
        · rw [z]; exact hel
        · rw [z]; exact hil
      rw [upd_ne (Nat.ne_of_lt hb')]
      exact (hf b hb).1
  done := by
    intro X hP hw hK hc i pins s σ H E I hf st hg
    subst hP hw hK
    obtain ⟨⟨old, he⟩, hit, hne, hai, hae⟩ := st
    obtain ⟨xs, hq, hx⟩ := hg
    obtain ⟨its, rv, p, hz⟩ := I.tuple hq
    obtain ⟨f0, f1, f2, f3, f4, f5⟩ := hf it (by simp)
    subst hx
    have Dw := Draws.tuple (prog := X.prog) (w := X.w) (A := X.A.in1) (I.ok.hd hc) it a hai its.toArray
    have hsz : xs.length = its.toArray.size := by simpa using rv.length
    rw [hsz] at he hit
    exact wpAny_pyNext_enum_endD Dw he ⟨hit, p⟩ fun h' eb => ⟨rfl, I.turned (t' := s.toks) (fun b o hb q => eb b o hb q) f0 f1 f3 f4 f5⟩
  self := fun A i s Q E st h => let ⟨⟨_, he⟩, _⟩ := st; wpAny_pyIter_enum he h
section
variable {X : Cx} {K : PySem.W.Frag} {e : Expr} {ta : TA} {ma : MA} {p pos tpos : Pos} {elts : List Expr} {kk : Nat}
def iEnumT (K : PySem.W.Frag) (ta : TA) : TI := fun σ H R => ta σ H fun vs H1 => ∃ a xs, vs = [.ref a] ∧ SqT K H1 a xs ∧ R (IteT K a) H1
theorem pi_enumT (hg : Gl X "enumerate") (hm : X.mg "enumerate" = none) (ha : PA X [e] ta) (hs : starEach [e] X.env = [(false, eval e X.env)] := by rfl) : PI X (.Tuple elts kk tpos) (.Call (.Name "enumerate" p) [e] [] pos) (iEnumT X.K ta) := ⟨fun pins s σ H R I h => by
  refine Call_ (ld_blt I hg hm boot_enumerate (PyProof.Rows.callWith_type1 (thn (ha.run pos pins s σ H _ I h) fun us s1 ⟨vs, H1, I1, r1, a, xs, ex, hq, q⟩ => ?_) hs rfl))
  subst ex
  rw [Vals.ref1 r1]
  obtain ⟨its, rv, p', hz⟩ := I1.tuple hq
  have hlt : a < s1.heap.objs.size := let ⟨_, z, _⟩ := p'; Heap.lt_size z
  refine enum_tuple p' fun h' he hit hsz hk => wpAny_pyIter_enum he ?_
  have I2 : Inv X pins σ H1 { s1 with heap := h' } := I1.kept (t' := s1.toks) hk
  refine ⟨s1.heap.objs.size + 1, [s1.heap.objs.size + 1, s1.heap.objs.size], _, _, H1, rfl, I2, turn_enumT a (s1.heap.objs.size + 1) s1.heap.objs.size, ⟨⟨.none, he⟩, hit, Nat.succ_ne_self _, Nat.ne_of_lt hlt, Nat.ne_of_lt (Nat.lt_succ_of_lt hlt)⟩, fun b hb => ?_, q⟩
  have hle : s1.heap.objs.size ≤ b := by
    rcases (show b = s1.heap.objs.size + 1 ∨ b = s1.heap.objs.size by simpa using hb) with z | z <;> rw [z]
    · exact Nat.le_succ _
    · exact Nat.le_refl _
  exact I1.fpOk hle (I1.hok.fresh hle)⟩
theorem itd_enumT {g : G} {a : Addr} {vs : List V} {ds : List D} (h : SqT K g.F a vs) (r : RepL K g vs ds) : ItD K (IteT K a) g (enumD ds) := by
  have hq : ∀ (g' : G) (H : Hp) (s : S), SRel K g' H s → GLe g g' → SqT K H a vs := fun g' H s R L => sqT_H R (sqT_mono L.F h)
  refine ⟨fun g' H s i R L hi => ?_, fun g' H s R L => ⟨vs, hq g' H s R L, by rw [r.length]; simp [enumD]⟩, fun g' H s i x H' d R L hd y => ?_⟩
  · have hi' : i < vs.length := by rw [r.length]; simpa [enumD] using hi
    exact ⟨vs, vs[i], hq g' H s R L, List.getElem?_eq_getElem hi'⟩
  · obtain ⟨T, y, rfl, hT, rfl, hy⟩ := y
    have hx := hy vs (hq g' _ s R L)
    have hi : i < ds.length := by
      have := (List.getElem?_eq_some_iff.mp hd).1
      simpa [enumD] using this
    simp [enumD, List.getElem?_map, List.getElem?_range hi, List.getElem?_eq_getElem hi] at hd
    subst hd
    obtain ⟨v, h1, h2⟩ := r.get (List.getElem?_eq_getElem hi)
    rw [hx] at h1; cases h1
    obtain ⟨q1, q2⟩ := tup_yld R hT (.cons (.int (i : Nat)) (.cons (h2.mono L) .nil))
    exact ⟨_, q1, q2⟩
def enum2I (ma : MA) : MI := fun e s => bnd (ma e s) fun ds s => match ds with
  | [.lst ds] => some (enumD ds, s)
  | [.tup ds] => some (enumD ds, s)
  | _ => none
theorem i_enum2 (hg : Gl X "enumerate") (hm : X.mg "enumerate" = none) (ha : PA X [e] (trA X.K ma)) (hs : starEach [e] X.env = [(false, eval e X.env)] := by rfl) : PI X (.Tuple elts kk tpos) (.Call (.Name "enumerate" p) [e] [] pos) (trI X.K (enum2I ma)) :=
  PI.imp (PI.or (pi_enum hg hm ha hs) (pi_enumT hg hm ha hs)) fun σ H R ⟨g, en, s, ds, s', R0, E, hm, k⟩ => by
    obtain ⟨xs, s1, h1, hm1⟩ := bnd_some hm
    split at hm1
    · cases hm1
      refine .inl ⟨g, en, s, _, _, R0, E, h1, fun vs g1 H1 st rv => ?_⟩
      cases rv with
      | cons r rr =>
        cases rr
        cases r with
        | lst q r => exact ⟨_, _, rfl, .inl (rd_H st.rel q), k _ g1 H1 st (itd_enum q r)⟩
    · cases hm1
      refine .inr ⟨g, en, s, _, _, R0, E, h1, fun vs g1 H1 st rv => ?_⟩
      cases rv with
      | cons r rr =>
        cases rr
        cases r with
        | tup q r => exact ⟨_, _, rfl, sqT_H st.rel q, k _ g1 H1 st (itd_enumT q r)⟩
    · cases hm1
end
end Z

set_option Elab.async false
set_option linter.all false
set_option maxRecDepth 100000
set_option maxHeartbeats 4000000
namespace Z
open PySem PySem.Spec PyProof.Rows L2
/-! ### a def called below a built-in -/
section
variable {X : Cx} {d : DefZ} {ps : List Str} {k j : Nat} {sp : Sp} {md : MD} {c : Str}
theorem DfZ.callAt (F : DfZ X.prog X.w X.K X.mg X.base k d ps sp) {A : Around} (hr : RmZ k A) (hA : A.frames = some X.stack) {E : Value → Shared → Prop} {pins : List (Addr × Obj)} {s : Shared} {σ : L2.St} {H : Hp} {xs : List V} {us : List Value} {Q : VK} (I : Inv X pins σ H s) (r : Vals xs us) (h : sp xs H Q fun _ _ _ => False) :
    wpAny (model X.prog X.w) A (call (.ref (d.ad X.K)) us) (EP X pins σ Q) E s := by
  obtain ⟨fd, _, F, hb⟩ := F.ex
  have hl : (us ++ []).length = ps.length := by
    rw [List.append_nil, ← r.length]
    exact F.len _ _ _ _ h
  have bt := hb s us I.kIn hl
  rw [List.append_nil] at bt
  have e0 : Env0 X.prog X.w X.K X.mg X.base A X.stack s H := ⟨hA, I.env0.mod, I.env0.bs, I.env0.bsz, I.env0.funs, I.env0.frf, I.env0.hok, I.env0.bare⟩
  refine wpAny_call (codeAny_mono (F.run A X.stack s H ⟨us, []⟩ us xs Q _ hr e0 bt r h) fun f s' hf => ?_)
  match f, hf with
  | .ok (.ret u), hf => exact I.after hf
/-- an instance as the heap has it -/
theorem inst_of {pins : List (Addr × Obj)} {s : Shared} {σ : L2.St} {H : Hp} {a C dx : Addr} {fs : List (Str × V)} (I : Inv X pins σ H s) (h : H a = some (.ins C dx fs)) : ∃ ox od, PySem.W.InstAt s.heap a ox C od := by
  obtain ⟨mA, ob, _⟩ := ins_get I.hok h
  obtain ⟨od, inst, _⟩ := ob.look
  exact ⟨_, _, inst⟩
/-- what is asked of a receiver: the class -/
def ofC (c : Str) (d : D) : Bool := match d with
  | .obj c' _ => decide (c' = c)
  | _ => false
theorem ofC_some {d : D} (h : ofC c d = true) : ∃ fs, d = .obj c fs := by
  unfold ofC at h
  split at h
  · rename_i c' fs
    exact ⟨fs, by rw [of_decide_eq_true h]⟩
  · cases h
/-- f(x) of an instance goes to a def of its class -/
def ownD (c : Str) (md : MD) (ok : D → Bool) : MD := fun ds s => match ds with
  | [d] => match ofC c d with
    | true => match md [d] s with
      | some (r, s') => if ok r then some (r, s') else none
      | none => none
    | false => none
  | _ => none
theorem ownD_some {ok : D → Bool} {ds : List D} {s : S} {r : D × S} (h : ownD c md ok ds s = some r) : ∃ fs, ds = [.obj c fs] ∧ md [.obj c fs] s = some r ∧ ok r.1 = true := by
  unfold ownD at h
  split at h
  · rename_i d
    split at h
    · rename_i ho
      obtain ⟨fs, rfl⟩ := ofC_some ho
      split at h
      · rename_i r0 s' hm
        split at h
        · rename_i hk
          cases h
          exact ⟨fs, rfl, hm, hk⟩
        · cases h
      · cases h
    · cases h
  · cases h
def okLen (d : D) : Bool := match d with
  | .int n => decide (0 ≤ n) && decide (n < 2 ^ 63)
  | _ => false
def okStr (d : D) : Bool := match d with
  | .str _ => true
  | _ => false
def okBool (d : D) : Bool := match d with
  | .bl _ => true
  | _ => false
theorem cr_str (F : DfZ X.prog X.w X.K X.mg X.base k d ps (spM X.K md)) (hr : RmZ (k + 2) X.A) (hm : Meth X.K (He.ga X.K c) "__str__" (d.ad X.K)) : CallR X (.type "str") (rM X.K (ownD c md okStr)) := fun pins s σ H xs us Q I r ⟨g, s0, ds, y, s', R, rl, hmd, kk⟩ => by
  obtain ⟨fs, rfl, h1, h2⟩ := ownD_some hmd
  cases rl with
  | cons r1 rl =>
    cases rl
    cases id r1 with
    | @obj a dx _ vs _ hF rF =>
      rw [Vals.ref1 r]
      obtain ⟨ox, od, inst⟩ := inst_of I (ins_H R hF)
      have hu : X.A.in1.in1.units < cLine := hr.in1.in1.r.units0
      have one : Vals [V.ref a] [Value.ref a] := .cons rfl .nil
      refine callType_codes (T := "str") (Bi := Builtin.«object.__init__») (Q₁ := fun r s₁ => ∃ y u, r = .str y u ∧ EP X pins σ Q r s₁) PySem.F.called_str (PySem.F.typeCall_str_1 _) PySem.F.entry_object_init ?_ ?_
      · refine codeAny_of_tree ?_
        show wpAny _ X.A.in1.in1 (do checkBuiltinCall "str.__new__" ⟨[.type "str", .ref a], []⟩; again (.builtin "str.__new__" ⟨[.type "str", .ref a], []⟩)) _ _ s
        refine wpAny_bind (wpAny_of_eq (PySem.F.newCall_str_1 _) (wpAny_pure ⟨plainId_quiet (by decide +kernel) _, codeAny_builtin PySem.F.entry_str_new ?_⟩))
        rw [Around.under_plainId (by decide +kernel) _, str_new_tree]
        refine wpAny_bind (wpAny_pure (wpAny_bind (wpAny_of_eq isSubtype_str_str ?_)))
        have key : wpAny (model X.prog X.w) X.A.in1.in1 (PySem.Builtin.Str.strOf (.ref a)) (fun r s₁ => ∃ y u, r = .str y u ∧ EP X pins σ Q r s₁) X.xe s := by
          unfold PySem.Builtin.Str.strOf
          rw [show PySem.Builtin.Str.isExactStr (.ref a) = false from rfl]
          refine wpAny_bind (m := cRoomFor _ _) (wpAny_cRoomFor hu ?_)
          refine wpAny_bind (m := callSpecial? (.ref a) (Str.ofString "__str__")) (PySem.W.special_fn I.kIn inst hm.at_ (beq_iff_eq.mp hm.fn) (wpAny_mono (F.callAt hr.in1.in1 (by exact I.ok.frames) (pins := pins) (σ := σ) I one (Q := fun v H' => ∃ z, v = .str z ∧ Q (.str z) H') ⟨g, s0, _, y, s', R, .cons r1 .nil, h1, fun v g' H' st rv => ?_⟩) (fun u s1 ⟨v, H1, I1, rv, z, ev, q⟩ => ?_) fun _ _ z => z))
          · cases y <;> simp only [okStr] at h2 <;> try cases h2
            cases rv
            exact ⟨_, rfl, kk _ g' H' st (.str _)⟩
          · subst ev
            obtain ⟨t, rfl⟩ := rv
            exact wpAny_pure ⟨z, t, rfl, .str z, H1, I1, ⟨t, rfl⟩, q⟩
        exact wpAny_bind (wpAny_mono key (fun r s₁ hr => wpAny_pure hr) fun _ _ y => y)
      · rintro obj s₁ ⟨y, u, rfl, hq⟩
        exact ⟨typeIs_str _ _ _, PySem.F.args_object_init_2 _ _, object_init_meets PySem.F.called_str.init.lookup PySem.F.called_str.made (by decide) X.prog X.w X.A.in1 _ s₁ ⟨typeIs_str _ _ _, rfl, hq⟩⟩
end
end Z
namespace Z
open PySem PySem.Spec PyProof.Rows L2
/-! ### operators that go to a def of the class -/
def mOpM (f : D → D → S → Option (D × S)) (ma mb : ME) : ME := fun e s => bnd (ma e s) fun a s => bnd (mb e s) fun b s => f a b s
def rOpM (K : PySem.W.Frag) (f : D → D → S → Option (D × S)) : R2 := fun x y H Q => ∃ g s a b d s', SRel K g H s ∧ Rep K g x a ∧ Rep K g y b ∧ f a b s = some (d, s') ∧ ∀ v g' H', Step K g H g' H' s' → Rep K g' v d → Q v H'
def tAlt (m1 m2 : MT) : MT := fun e s => match m1 e s with
  | some r => some r
  | none => m2 e s
section
variable {X : Cx} {a b o e : Expr} {ma mb mo me : ME} {m1 m2 : MT} {d : DefZ} {ps : List Str} {k j : Nat} {md : MD} {c : Str} {pos : Pos} {op : CmpOp}
theorem PT.or {t t' : TT} (h : PT X a t) (h' : PT X a t') : PT X a (fun σ H Q => t σ H Q ∨ t' σ H Q) := ⟨fun pins s σ H Q I q => q.elim (h.run pins s σ H Q I) (h'.run pins s σ H Q I)⟩
theorem trE_opM {K : PySem.W.Frag} {f : D → D → S → Option (D × S)} {σ : L2.St} {H : Hp} {Q : VK} (q : trE K (mOpM f ma mb) σ H Q) : tOp (rOpM K f) (trE K ma) (trE K mb) σ H Q := by
  obtain ⟨g, e, s, d, s', R, E, hm, k⟩ := q
  obtain ⟨x, s1, h1, hm1⟩ := bnd_some hm
  obtain ⟨y, s2, h2, hm2⟩ := bnd_some hm1
  exact ⟨g, e, s, x, s1, R, E, h1, fun v g1 H1 st1 rv => ⟨g1, e, s1, y, s2, st1.rel, E.step st1, h2, fun w g2 H2 st2 rw => ⟨g2, s2, x, y, d, s', st2.rel, rv.mono st2.le, rw, hm2, fun z g3 H3 st3 r3 => k z g3 H3 ((st1.trans st2).trans st3) r3⟩⟩⟩
/-- x in o, o an instance of c -/
def ownIn (c : Str) (md : MD) : D → D → S → Option (D × S) := fun a b s => match ofC c b with
  | true => match md [b, a] s with
    | some (.bl r, s') => some (.bl r, s')
    | _ => none
  | false => none
def ownNotIn (c : Str) (md : MD) : D → D → S → Option (D × S) := fun a b s => match ofC c b with
  | true => match md [b, a] s with
    | some (.bl r, s') => some (.bl (!r), s')
    | _ => none
  | false => none
/-- o[i], o an instance of c -/
def ownSub (c : Str) (md : MD) : D → D → S → Option (D × S) := fun a b s => match ofC c a with
  | true => md [a, b] s
  | false => none
end
/-! ### repr -/
def reprD (d : D) : Option D := (toP d).bind fun p => if p.showable = true ∧ p.depth ≤ 60 ∧ p.shown.length ≤ sizeLine ∧ p.hasDict = false then some (.str p.shown) else none
def reprM : MD := fun ds s => match ds with
  | [d] => lft (reprD d) s
  | _ => none
section
variable {X : Cx}
theorem cr_repr (hu : X.A.units + 64 < cLine) (hg : X.A.guards = some []) : CallR X (.builtin "repr") (rM X.K reprM) := fun pins s σ H xs us Q I r ⟨g, s0, ds, y, s', R, rl, hmd, kk⟩ => by
  unfold reprM at hmd
  split at hmd
  · rename_i d
    obtain ⟨h4, h5⟩ := lft_some hmd
    dsimp only at h4 h5
    subst h5
    unfold reprD at h4
    cases e : toP d with
    | none => rw [e] at h4; cases h4
    | some p =>
      rw [e] at h4
      dsimp only [Option.bind_some] at h4
      split at h4
      · rename_i hc
        cases h4
        obtain ⟨c1, c2, c3, c4⟩ := hc
        cases rl with
        | cons r1 rl =>
          cases rl
          obtain ⟨u, rfl, ru⟩ := vals1 r
          have dp := dp_of R r1 e
          have fin : ∀ h' (t : Tok) tk, (∀ b o, s.heap.get? b = some o → h'.get? b = some o) → EP X pins σ Q (.str p.shown t) { s with heap := h', toks := tk } := fun h' t tk hk => ⟨.str p.shown, H, I.kept hk, ⟨t, rfl⟩, kk _ g H (.refl R) (.str _)⟩
          obtain ⟨as, rd⟩ := Dp.reads I p _ u dp ru
          cases id r1 with
          | non => obtain rfl : u = Value.none := ru; simp only [toP] at e; cases e; exact PySem.P.repr_of_none (fin _ _ _ fun _ _ z => z)
          | bl b => obtain rfl : u = Value.bool b := ru; simp only [toP] at e; cases e; exact PySem.P.repr_of_bool (fin _ _ _ fun _ _ z => z)
          | int i => obtain ⟨t, rfl⟩ := ru; simp only [toP] at e; cases e; exact PySem.P.repr_of_int (by simpa [PyData.showable] using c1) (fin _ _ _ fun _ _ z => z)
          | str x => obtain ⟨t, rfl⟩ := ru; simp only [toP] at e; cases e; exact PySem.P.repr_of_str (fin _ _ _ fun _ _ z => z) c3
          | tup q rr => obtain rfl : u = Value.ref _ := ru; exact PySem.repr_of_reads' rd c1 (PyData.noDict_hsm c4) hg (by omega) (fun _ _ z => z) (fun h' t tk hk => fin h' t tk hk) c3
          | lst q rr => obtain rfl : u = Value.ref _ := ru; exact PySem.repr_of_reads' rd c1 (PyData.noDict_hsm c4) hg (by omega) (fun _ _ z => z) (fun h' t tk hk => fin h' t tk hk) c3
          | dic q rr => simp only [toP] at e; cases e
          | obj q rr => simp only [toP] at e; cases e
          | cel q => simp only [toP] at e; cases e
          | opq v => simp only [toP] at e; cases e
          | ty c => simp only [toP] at e; cases e
      · cases h4
  · cases hmd
end
end Z

set_option Elab.async false
set_option linter.all false
set_option maxRecDepth 100000
set_option maxHeartbeats 4000000
namespace Z
open PySem PySem.Spec PyProof.Rows L2
section
variable {X : Cx} {K : PySem.W.Frag} {a b : Expr} {me mb ma : ME} {pos : Pos}
/-! ### a cell's item, read -/
def idxCel (a b : D) (s : S) : Option (D × S) := match a, b with
  | .cel n, .int k => match s[n]? with
    | some (.lst ds) => (atI ds k).map fun d => (d, s)
    | _ => none
  | _, _ => none
theorem idxCel_ok {x y : V} {H : Hp} {Q : VK} (h : rOpM K idxCel x y H Q) : rIx K x y H Q := by
  obtain ⟨g, s, p, q, d, s', R, rx, ry, hf, k⟩ := h
  unfold idxCel at hf
  split at hf
  · rename_i n i
    split at hf
    · rename_i ds hs
      obtain ⟨d', hd, e⟩ := Option.map_eq_some_iff.mp hf
      cases e
      cases rx with
      | cel hp =>
        cases ry
        obtain ⟨w, q1, q2, vs, q3, q4⟩ := R.cell n _ hs
        rw [hp] at q1
        cases q1
        obtain ⟨v, h1, h2⟩ := repL_at q4 hd
        exact .inl ⟨_, _, _, _, rfl, rfl, .inl (.inl q3), h1, k _ _ _ (.refl R) h2⟩
    · cases hf
  · cases hf
theorem d_idxCel (ha : PE X a (trE X.K me)) (hb : PE X b (trE X.K mb)) (hs : PlainIx b := by exact fun _ _ => rfl) : PE X (.Subscript a b pos) (trE X.K (mOpM idxCel me mb)) :=
  PE.imp (pe_ix ix_seq ha hb hs) fun σ H Q q => by
    have z := trE_opM q
    obtain ⟨g, e, s, d, s', R, E, hm, k⟩ := z
    exact ⟨g, e, s, d, s', R, E, hm, fun v g1 H1 st rv => by
      obtain ⟨g2, e2, s2, d2, s3, R2, E2, hm2, k2⟩ := k v g1 H1 st rv
      exact ⟨g2, e2, s2, d2, s3, R2, E2, hm2, fun w g3 H3 st3 rw => idxCel_ok (k2 w g3 H3 st3 rw)⟩⟩
/-! ### + of all kinds, as a value -/
def addAll (a b : D) : Option D := match addD a b with
  | some d => some d
  | none => catD a b
theorem addAll_ok : OpOk K (fun x y H Q => rAddZ K x y H Q ∨ rCatZ x y H Q) addAll := fun g H s x y a b d Q R ra rb e k => by
  unfold addAll at e
  split at e
  · rename_i d' h
    cases e
    exact .inl (add_ok g H s x y a b _ Q R ra rb h k)
  · exact .inr (cat_ok.E g H s x y a b d Q R ra rb e k)
theorem d_addA (ha : PE X a (trE X.K ma)) (hb : PE X b (trE X.K mb)) : PE X (.BinOp a .Add b pos) (trE X.K (mOp addAll ma mb)) := PE.imp (pe_op (OpR.or op_addZ op_catZ) ha hb) fun _ _ _ => trE_op addAll_ok
/-! ### list * int -/
/-! ### membership by deep equality -/
def inDp (x y : D) : Option Bool := match toP x, (match y with
    | .lst ds => toPL ds
    | .tup ds => toPL ds
    | _ => none) with
  | some d, some xs => if PyData.canLayAll0 xs = true ∧ d.canLay0 = true ∧ d.depth ≤ 60 then some (xs.any fun y => PyData.eqv y d) else none
  | _, _ => none
def inA (x y : D) : Option Bool := match inB x y with
  | some b => some b
  | none => inDp x y
def inAD (x y : D) : Option D := (inA x y).map .bl
def notInAD (x y : D) : Option D := (inA x y).map fun b => .bl (!b)
def rInDp (K : PySem.W.Frag) (f : Bool → Bool) : R2 := fun x y H Q => ∃ p d xs, y = .ref p ∧ Dp K H x d ∧ (Dp K H y (.list xs) ∨ Dp K H y (.tuple xs)) ∧ PyData.canLayAll0 xs = true ∧ d.canLay0 = true ∧ d.depth ≤ 60 ∧ Q (.bl (f (xs.any fun y => PyData.eqv y d))) H
theorem op_inDp (hu : X.A.units + 64 < cLine) : OpR X (compareOp .In) (rInDp X.K id) := fun pins s σ H x y v u Q I rx ry q0 => by
  obtain ⟨p, d, xs, rfl, dx, dy, c1, c2, c3, q⟩ := q0
  obtain ⟨bs, r2⟩ := Dp.reads I d x v dx rx
  have room : X.A.units + 1 + min (PyData.depthAll xs) d.depth < cLine := by omega
  rcases dy with dy | dy
  · obtain ⟨as, r1⟩ := Dp.reads I _ _ u dy ry
    exact PySem.SeqAt.in_list_reads r1 r2 c1 c2 room ⟨.bl _, H, I, rfl, q⟩
  · obtain ⟨as, r1⟩ := Dp.reads I _ _ u dy ry
    exact PySem.SeqAt.in_tuple_reads r1 r2 c1 c2 room ⟨.bl _, H, I, rfl, q⟩
theorem op_notInDp (hu : X.A.units + 64 < cLine) : OpR X (compareOp .NotIn) (rInDp X.K (!·)) := fun pins s σ H x y v u Q I rx ry q0 => by
  obtain ⟨p, d, xs, rfl, dx, dy, c1, c2, c3, q⟩ := q0
  obtain ⟨bs, r2⟩ := Dp.reads I d x v dx rx
  have room : X.A.units + 1 + min (PyData.depthAll xs) d.depth < cLine := by omega
  rcases dy with dy | dy
  · obtain ⟨as, r1⟩ := Dp.reads I _ _ u dy ry
    exact PySem.SeqAt.notIn_list_reads r1 r2 c1 c2 room ⟨.bl _, H, I, rfl, q⟩
  · obtain ⟨as, r1⟩ := Dp.reads I _ _ u dy ry
    exact PySem.SeqAt.notIn_tuple_reads r1 r2 c1 c2 room ⟨.bl _, H, I, rfl, q⟩
theorem inDp_ok {f : Bool → Bool} {g : G} {H : Hp} {s : S} {x y : V} {a b : D} {k : Bool} {Q : VK} (R : SRel K g H s) (ra : Rep K g x a) (rb : Rep K g y b) (e : inDp a b = some k) (q : Q (.bl (f k)) H) : rInDp K f x y H Q := by
  unfold inDp at e
  split at e
  · rename_i d xs hd hx
    split at e
    · rename_i hc
      cases e
      have dx := dp_of R ra hd
      split at hx
      · cases id rb with
        | lst h1 r1 => exact ⟨_, d, xs, rfl, dx, .inl (dp_of R rb (by simp only [toP, hx]; rfl)), hc.1, hc.2.1, hc.2.2, q⟩
      · cases id rb with
        | tup h1 r1 => exact ⟨_, d, xs, rfl, dx, .inr (dp_of R rb (by simp only [toP, hx]; rfl)), hc.1, hc.2.1, hc.2.2, q⟩
      · cases hx
    · cases e
  · cases e
theorem inA_ok : OpOk K (fun x y H Q => rInZ K x y H Q ∨ rInDp K id x y H Q) inAD := fun g H s x y a b d Q R ra rb e k => by
  unfold inAD inA at e
  split at e
  · rename_i b0 hb
    exact .inl (in_ok g H s x y a b d Q R ra rb (by unfold inD; rw [hb]; exact e) k)
  · obtain ⟨k0, h1, rfl⟩ := Option.map_eq_some_iff.mp e
    exact .inr (inDp_ok R ra rb h1 (k _ _ _ (.refl R) (.bl _)))
theorem notInA_ok : OpOk K (fun x y H Q => rNotInZ K x y H Q ∨ rInDp K (!·) x y H Q) notInAD := fun g H s x y a b d Q R ra rb e k => by
  unfold notInAD inA at e
  split at e
  · rename_i b0 hb
    exact .inl (notIn_ok g H s x y a b d Q R ra rb (by unfold notInD; rw [hb]; exact e) k)
  · obtain ⟨k0, h1, rfl⟩ := Option.map_eq_some_iff.mp e
    exact .inr (inDp_ok R ra rb h1 (k _ _ _ (.refl R) (.bl _)))
theorem d_inA (hu : X.A.units + 64 < cLine) (ha : PE X a (trE X.K ma)) (hb : PE X b (trE X.K mb)) (hm : behindInMarks .In b = false := by rfl) : PE X (.Compare a [.In] [b] pos) (trE X.K (mOp inAD ma mb)) := PE.imp (pe_cmpR (OpR.or oIn (op_inDp hu)) ha hb hm) fun _ _ _ => trE_op inA_ok
theorem bly_inA : Bly inAD := fun a b d h => by unfold inAD at h; obtain ⟨c, _, rfl⟩ := Option.map_eq_some_iff.mp h; exact ⟨_, rfl⟩
theorem bly_notInA : Bly notInAD := fun a b d h => by unfold notInAD at h; obtain ⟨c, _, rfl⟩ := Option.map_eq_some_iff.mp h; exact ⟨_, rfl⟩
theorem t_inA (hu : X.A.units + 64 < cLine) (ha : PE X a (trE X.K ma)) (hb : PE X b (trE X.K mb)) (hm : behindInMarks .In b = false := by rfl) : PT X (.Compare a [.In] [b] pos) (trT X.K (mT (mOp inAD ma mb))) := PT.imp (pt_cmpR (OpR.or oIn (op_inDp hu)) ha hb hm) fun _ _ _ => trT_op inA_ok bly_inA
theorem t_notInA (hu : X.A.units + 64 < cLine) (ha : PE X a (trE X.K ma)) (hb : PE X b (trE X.K mb)) (hm : behindInMarks .NotIn b = false := by rfl) : PT X (.Compare a [.NotIn] [b] pos) (trT X.K (mT (mOp notInAD ma mb))) := PT.imp (pt_cmpR (OpR.or oNotIn (op_notInDp hu)) ha hb hm) fun _ _ _ => trT_op notInA_ok bly_notInA
end
end Z

set_option Elab.async false
set_option linter.all false
set_option maxRecDepth 100000
set_option maxHeartbeats 4000000
namespace Z
open PySem PySem.Spec PyProof.Rows L2 PySem.W
/-! ### a, *b = list -/
section
variable {prog : Program} {w : World} {A : Around} {E : Value → Shared → Prop} {s : Shared}
theorem star_list {l : Addr} {zs : List Value} {n i : Nat} {Q : List Value → Shared → Prop} (hl : s.heap.IsList l zs.toArray) (hh : A.handled = none) (hi : i < n) (hn : n ≤ zs.length + 1) (hz : zs.length ≤ 16384)
    (fin : ∀ (h' : Heap) (tk : Nat), (∀ b o, s.heap.get? b = some o → h'.get? b = some o) →
      Q (zs.take i ++ [.ref h'.objs.size] ++ (zs.drop i).drop (zs.length + 1 - n)) { s with heap := h'.push { cls := .type "list", data := .seq ((zs.drop i).take (zs.length + 1 - n)).toArray }, toks := tk }) :
    wpAny (model prog w) A (unpackItems (.ref l) n (some i)) Q E s := by
  have at_ : ∃ o, s.heap.get? l = some o := let ⟨o, ho, _⟩ := hl; ⟨o, ho⟩
  obtain ⟨o0, ho0⟩ := at_
  have below := Heap.lt_size ho0
  have ne : l ≠ s.heap.objs.size := Nat.ne_of_lt below
  unfold unpackItems notIterableAtAll
  refine wpAny_bind (wpAny_bind (wpAny_specialOf hl.typeIs slot_list_iter.lookup (wpAny_pure ?_)))
  simp only [Bool.false_eq_true, if_false]
  refine wpAny_bind (wpAny_holding (wpAny_pyIter_list hl (wpAny_bind (wpAny_holding ?_))))
  refine kun_draw ne i 0 _ _ ⟨_, Heap.get?_push_size _ rfl, rfl, rfl⟩ (hl.push _) (by rw [List.size_toArray]; omega) fun h1 it1 same1 => ?_
  have keep1 := same1.extBut
  have l1 : h1.IsList l zs.toArray := (hl.push _).extBut keep1 ne
  rw [Nat.zero_add] at it1
  obtain ⟨oi, hoi, _⟩ := id it1
  obtain ⟨ol, hol, _⟩ := id l1
  have full : (List.take i (List.drop 0 zs.toArray.toList)).length = i := by simp; omega
  rw [if_neg (by rw [full]; omega)]
  refine wpAny_bind (wpAny_holding ?_)
  refine kun_collect (s := { s with heap := h1 }) (T := "list_iterator") (.inr (.inr (.inl rfl))) (Walks.list (A := A.in1) hh s.heap.objs.size l ne zs.toArray) (fun j u st => st.1.typeIs) (k := i) (by rw [List.size_toArray]; omega) ⟨it1, l1⟩ (Heap.lt_size hoi) (Heap.lt_size hol) (fun h2 tk keep2 => ?_) (by rw [List.size_toArray, sizeLine_eq]; omega)
  have left : (List.drop i zs.toArray.toList).length = zs.length - i := by simp
  have all : ∀ b o, s.heap.get? b = some o → h2.get? b = some o := fun b o e => by
    have hb : b ≠ s.heap.objs.size := Nat.ne_of_lt (Heap.lt_size e)
    exact keep2 b o hb (keep1 b o hb (Heap.get?_push_of_some _ e))
  show wpAny _ _ (if (List.drop i zs.toArray.toList).length < n - 1 - i then _ else _) _ _ _
  rw [if_neg (by rw [left]; omega)]
  have mid : (List.drop i zs.toArray.toList).length - (n - 1 - i) = zs.length + 1 - n := by rw [left]; omega
  show wpAny _ _ (newList ((List.drop i zs.toArray.toList).take ((List.drop i zs.toArray.toList).length - (n - 1 - i))) >>= fun d => pure (List.take i (List.drop 0 zs.toArray.toList) ++ [d] ++ (List.drop i zs.toArray.toList).drop ((List.drop i zs.toArray.toList).length - (n - 1 - i)))) _ _ _
  rw [mid]
  exact wpAny_bind (wpAny_newList (wpAny_pure (by simpa using fin h2 tk all)) (by simp; rw [sizeLine_eq]; omega))
end
section
variable {X : Cx} {K : PySem.W.Frag} {ms : MGs} {pos : Pos} {es : List Expr} {t : Expr} {p : Pos}
theorem pgs_star {ts : TGs} (h : PGs X (t :: es) ts) (heq : (assignEach (.Starred t p :: es) X.env).map (·.2) = (assignEach (t :: es) X.env).map (·.2) := by rfl) : PGs X (.Starred t p :: es) ts :=
  ⟨fun pins s σ H vs us Q I r q => by rw [heq]; exact h.run pins s σ H vs us Q I r q⟩
def gStar (i n : Nat) (ms : MGs) : MG := fun d e s => match d with
  | .lst ds => if i < n ∧ n ≤ ds.length + 1 ∧ ds.length ≤ 16384 then ms (ds.take i ++ [.lst ((ds.drop i).take (ds.length + 1 - n))] ++ (ds.drop i).drop (ds.length + 1 - n)) e s else none
  | _ => none
def gStarT (K : PySem.W.Frag) (i n : Nat) (t : TGs) : TG := fun v σ H Q => ∃ a xs, v = .ref a ∧ SqL K H a xs ∧ i < n ∧ n ≤ xs.length + 1 ∧ xs.length ≤ 16384 ∧
  ∀ l, H l = none → t (xs.take i ++ [.ref l] ++ (xs.drop i).drop (xs.length + 1 - n)) σ (upd H l (.lst ((xs.drop i).take (xs.length + 1 - n)))) Q
theorem pg_star {t : TGs} {i n k : Nat} (hc : X.calm = true) (h : PGs X es t) (hn : (assignEach es X.env).length = n) (hst : (assignEach es X.env).findIdx? (·.1) = some i) : PG X (.Tuple es k pos) (gStarT X.K i n t) := by
  refine ⟨fun pins s σ H v u Q I r hw => ?_⟩
  obtain ⟨a, xs, e1, hq, h1, h2, h3, hw⟩ := hw
  subst e1
  cases r
  obtain ⟨zs, rv, pl, hz⟩ := I.list hq
  have il : s.heap.IsList a zs.toArray := by
    obtain ⟨o, m, e, c, d, q⟩ := pl
    exact ⟨o, e, c, m, q⟩
  have ln : xs.length = zs.length := rv.length
  rw [PyProof.Rows.assign_Tuple]
  refine wpAny_bind (wpAny_standAt ?_)
  unfold unpack
  rw [hn, hst]
  refine wpAny_bind (wpAny_holding (star_list il (I.ok.hd hc) h1 (by omega) (by omega) fun h' tk kp => ?_))
  have I0 := I.kept (t' := tk) kp
  have hf : H h'.objs.size = none := I0.hok.fresh (Nat.le_refl _)
  have rm : Vals ((xs.drop i).take (xs.length + 1 - n)) ((zs.drop i).take (zs.length + 1 - n)) := by rw [ln]; exact (rv.drop i).take _
  have I1 := I0.laid (t' := tk) (a := h'.objs.size) (o := .lst ((xs.drop i).take (xs.length + 1 - n))) (h' := h'.push { cls := .type "list", data := .seq ((zs.drop i).take (zs.length + 1 - n)).toArray }) (fun b o e => Heap.get?_push_of_some _ e) (Nat.le_refl _)
    ⟨by rw [sizeLine_eq, List.length_take, List.length_drop]; omega, _, 0, rm, Heap.get?_push_size _ rfl⟩
  have rt : Vals ((xs.drop i).drop (xs.length + 1 - n)) ((zs.drop i).drop (zs.length + 1 - n)) := by rw [ln]; exact (rv.drop i).drop _
  have rl : Vals [V.ref h'.objs.size] [Value.ref h'.objs.size] := .cons (show RelV (V.ref _) (Value.ref _) from rfl) .nil
  exact h.run pins _ σ _ _ _ Q I1 (((rv.take i).append rl).append rt) (hw _ hf)
theorem g_star {i n kk : Nat} (hc : X.calm = true) (h : PGs X es (trGs X.K ms)) (hn : (assignEach es X.env).length = n := by rfl) (hst : (assignEach es X.env).findIdx? (·.1) = some i := by rfl) : PG X (.Tuple es kk pos) (trG X.K (gStar i n ms)) :=
  PG.imp (pg_star hc h hn hst) fun v σ H Q ⟨g, e, s, d, e', s', R, E, r, hm, k⟩ => by
  unfold gStar at hm
  split at hm
  · rename_i ds
    split at hm
    · rename_i hc
      cases r with
      | lst hl rl =>
        have ln := rl.length
        refine ⟨_, _, rfl, .inl (rd_H R hl), hc.1, by omega, by omega, fun l hf => ?_⟩
        obtain ⟨st, h1, h2, o⟩ := fresh_upd (u := .lst _) (d := .lst ((ds.drop i).take (ds.length + 1 - n))) R hf fun g' L => ⟨_, upd_same, ((rl.drop i).take (ds.length + 1 - n)).mono L⟩
        have st2 := st.frz hf upd_same h1 h2
        rw [ln]
        refine ⟨_, e, s, _, e', s', st2.rel, E.step st2, ?_, hm, fun g' H' σ' x => k g' H' σ' ((st2.S E).trans x)⟩
        have r1 := rl.mono st2.le
        refine ((r1.take i).append (.cons ?_ .nil)).append ((r1.drop i).drop _)
        exact .lst (.inl (by show upd g.F l _ l = _; exact upd_same)) ((r1.drop i).take _)
    · cases hm
  · cases hm
end
end Z
namespace Z
open PySem PySem.Spec PyProof.Rows L2
/-! ### keywords -/
def pick {α : Type} (ix : List Nat) (ws : List α) : List α := ix.filterMap fun i => ws[i]?
theorem vals_get {zs : List V} {ws : List Value} (r : Vals zs ws) (i : Nat) : (zs[i]? = none ∧ ws[i]? = none) ∨ ∃ v u, zs[i]? = some v ∧ ws[i]? = some u ∧ RelV v u := by
  cases h : zs[i]? with
  | none =>
    left
    refine ⟨rfl, ?_⟩
    rw [List.getElem?_eq_none_iff] at h ⊢
    rw [← r.length]; exact h
  | some v =>
    obtain ⟨u, h1, h2⟩ := r.get h
    exact .inr ⟨v, u, rfl, h1, h2⟩
theorem vals_pick {zs : List V} {ws : List Value} (r : Vals zs ws) : ∀ ix : List Nat, Vals (pick ix zs) (pick ix ws)
  | [] => .nil
  | i :: ix => by
    have ih := vals_pick r ix
    unfold pick at ih ⊢
    rcases vals_get r i with ⟨h1, h2⟩ | ⟨v, u, h1, h2, h3⟩
    · rw [List.filterMap_cons_none h1, List.filterMap_cons_none h2]; exact ih
    · rw [List.filterMap_cons_some h1, List.filterMap_cons_some h2]; exact .cons h3 ih
theorem rep_pick {K : PySem.W.Frag} {g : G} {vs : List V} {ds : List D} (r : RepL K g vs ds) : ∀ ix : List Nat, RepL K g (pick ix vs) (pick ix ds)
  | [] => .nil
  | i :: ix => by
    have ih := rep_pick r ix
    unfold pick at ih ⊢
    cases h : ds[i]? with
    | none =>
      have h1 : vs[i]? = none := by
        rw [List.getElem?_eq_none_iff] at h ⊢
        rw [r.length]; exact h
      rw [List.filterMap_cons_none h1, List.filterMap_cons_none h]; exact ih
    | some d =>
      obtain ⟨v, h1, h2⟩ := r.get h
      rw [List.filterMap_cons_some h1, List.filterMap_cons_some h]; exact .cons h2 ih
/-- n values ahead, then the keywords ks: in the order of the parameters ps they are those at ix -/
structure KwZ (fd : FuncData) (ps ks : List Str) (n : Nat) (ix : List Nat) : Prop where
  to : ∀ (s : Shared) (us ws : List Value), us.length = n → ws.length = ks.length → BindsTo s fd ⟨us, ks.zip ws⟩ (ps.zip (us ++ pick ix ws))
theorem kwz {K : PySem.W.Frag} {x qual : Str} {params : Arguments} {body : List Stmt} {scope : Scope} {f : Addr} {fd : FuncData} {ps ks : List Str} {n : Nat} {ix : List Nat} (F : FunD K x qual params body scope [] [] f fd)
    (h : ∀ (kV doc pm : Value) (an : Option Addr) (cdv ct : Value) (us ws : List Value), us.length = n → ws.length = ks.length → bindArgs (PySem.W.fnOf x qual params body scope .none kV doc pm an cdv ct) ⟨us, ks.zip ws⟩ = pure (ps.zip (us ++ pick ix ws))) : KwZ fd ps ks n ix := ⟨fun s us ws l1 l2 => by
  obtain ⟨oc, od, dV, kV, doc, pm, an, cdv, ct, osl, rfl, lk, hcd, hD, hK⟩ := F.ex
  rcases hD with ⟨_, rfl⟩ | ⟨e, _⟩
  · exact .of_eq (h kV doc pm an cdv ct us ws l1 l2)
  · exact absurd rfl e⟩
/-- a call with n values ahead and keywords alone -/
def CallRK (X : Cx) (f : Value) (ks : List Str) (r : List V → List V → Hp → VK → Prop) : Prop := ∀ (pins : List (Addr × Obj)) (s : Shared) (σ : L2.St) (H : Hp) (as vs : List V) (bs us : List Value) (Q : VK), Inv X pins σ H s → Vals as bs → Vals vs us → us.length = ks.length → r as vs H Q →
  wpAny (model X.prog X.w) X.A (call f bs (ks.zip us)) (EP X pins σ Q) X.xe s
section
variable {X : Cx} {d : DefZ} {ps ks : List Str} {k j n : Nat} {ix : List Nat} {sp : Sp} {x m c : Str} {p pos apos kpos : Pos} {e o : Expr} {kws : List Keyword} {t : TA} {md : MD} {ma : MA} {me mo : ME} {mi : MI0} {nm : Option Str}
theorem k_nil : PK X [] (trA X.K aNil) := ⟨fun pos pins s σ H Q I ⟨g, e, s0, ds, s', R, E, hm, k⟩ => pk_nil.run pos pins s σ H Q I (by cases hm; exact k [] g H (.refl R) .nil)⟩
theorem k_cons (h : PE X e (trE X.K me)) (hr : PK X kws (trA X.K ma)) : PK X (⟨nm, e, kpos⟩ :: kws) (trA X.K (aCons me ma)) := ⟨fun pos pins s σ H Q I ⟨g, en, s0, ds, s', R, E, hm, k⟩ => (pk_cons h hr).run pos pins s σ H Q I (by
  obtain ⟨d, s1, h1, hm1⟩ := bnd_some hm
  obtain ⟨ds1, s2, h2, hm2⟩ := bnd_some hm1
  cases hm2
  exact ⟨g, en, s0, d, s1, R, E, h1, fun v g1 H1 st1 rv => ⟨g1, en, s1, ds1, s', st1.rel, E.step st1, h2, fun vs g2 H2 st2 rvs => k (v :: vs) g2 H2 (st1.trans st2) (.cons (rv.mono st2.le) rvs)⟩⟩)⟩
theorem DfZ.makeRK (F : DfZ X.prog X.w X.K X.mg X.base k d ps (spI X.K c mi)) (hr : RmZ (k + 1) X.A) (M : Mk X.K (He.ga X.K c) (d.ad X.K)) (hk : ∀ fd, FunD X.K d.name d.qual d.params d.body d.scope (d.dvs X.K) [] (d.ad X.K) fd → KwZ fd ps ks 1 ix) :
    CallRK X (.ref (He.ga X.K c)) ks (fun as vs H Q => as = [] ∧ rF X.K (mdMake c mi) (pick ix vs) H Q) := fun pins s σ H as vs bs us Q I ra rv hl ⟨h0, h⟩ => by
  subst h0
  cases ra
  obtain ⟨fd, hfd, F, hb⟩ := F.ex
  have hq := makeR_core h (I.hok.fresh (Nat.le_succ _)) (I.hok.fresh (Nat.le_refl _)) (Nat.ne_of_lt (Nat.lt_succ_self _))
  have J := Inv.made (C := He.ga X.K c) I
  have r1 : Vals [V.ref (s.heap.objs.size + 1)] [Value.ref (s.heap.objs.size + 1)] := .cons rfl .nil
  have bt := (hk fd hfd).to { s with heap := (s.heap.push PySem.W.emptyDict).push (PySem.W.instObj (He.ga X.K c) s.heap.objs.size) } [Value.ref (s.heap.objs.size + 1)] us rfl hl
  refine wpAny_call (make_map (f := d.ad X.K) I.kIn M.makes M.init (beq_iff_eq.mp M.fn) (codeAny_mono (F.run _ X.stack _ _ ⟨Value.ref (s.heap.objs.size + 1) :: [], ks.zip us⟩ _ _ _ _ (hr.make _ [] _) (J.env0.make _ [] _) bt (r1.append (vals_pick rv ix)) hq) fun f s' hf => ?_))
  match f, hf with
  | .ok (.ret u), hf =>
    obtain ⟨v, H', I3, rv, ev, q3⟩ := J.after hf
    subst ev
    exact ⟨rv, V.ref (s.heap.objs.size + 1), H', I3, rfl, q3⟩
/-- f(k = v, ..) of a value that is known -/
theorem pe_callRK {f : Addr} {r : List V → List V → Hp → VK → Prop} (cr : CallRK X (.ref f) ks r) (hk : PySem.W.keepIn X.K (.ref f) = true) (hg : Gl X x) (hm : X.mg x = some (.ref f)) (ha : PK X kws t) (hl : ∀ σ H Q, t σ H Q → t σ H fun vs H' => vs.length = ks.length ∧ Q vs H')
    (hdb : (x == ("__debug__" : Str)) = false := by decide +kernel) (hall : (backToKw pos (keywordEach kws X.env)).all (·.1.isSome) = true := by rfl) (hks : (backToKw pos (keywordEach kws X.env)).filterMap (·.1) = ks := by rfl)
    (hpl : ((backTo pos (starEach [] X.env)).any (·.1) || (backToKw pos (keywordEach kws X.env)).any (·.1.isNone)) = false := by rfl) : PE X (.Call (.Name x p) [] kws pos) (fun σ H Q => t σ H fun vs H' => r [] vs H' Q) := ⟨fun pins s σ H Q I h =>
  wpAny_Call_Name_kw (ld_glob I hg hm (PySem.W.callWith_KW0 (first := []) (h₀ := X.base) I.ok.mod.kin hk hall (thn (ha.run pos pins s σ H _ I (hl σ H _ h)) fun us s1 ⟨vs, H1, I1, rv, hlen, q⟩ => ⟨I1.kIn, by rw [hks]; exact cr pins s1 σ H1 [] vs [] us Q I1 .nil rv (by rw [← rv.length]; exact hlen) q⟩) hpl) hdb)⟩
theorem trA_len {K : PySem.W.Frag} {n : Nat} (h : ∀ e s ds s', ma e s = some (ds, s') → ds.length = n) {σ : L2.St} {H : Hp} {Q : List V → Hp → Prop} (q : trA K ma σ H Q) : trA K ma σ H fun vs H' => vs.length = n ∧ Q vs H' :=
  let ⟨g, e, s, ds, s', R, E, hm, k⟩ := q
  ⟨g, e, s, ds, s', R, E, hm, fun vs g' H' st r => ⟨by rw [r.length]; exact h e s ds s' hm, k vs g' H' st r⟩⟩
theorem len_nil : ∀ (e : EnvD) (s : S) ds s', aNil e s = some (ds, s') → ds.length = 0 := fun e s ds s' h => by cases h; rfl
theorem len_cons {n : Nat} (h : ∀ e s ds s', ma e s = some (ds, s') → ds.length = n) : ∀ e s ds s', aCons me ma e s = some (ds, s') → ds.length = n + 1 := fun e s ds s' q => by
  obtain ⟨d, s1, h1, hm1⟩ := bnd_some q
  obtain ⟨ds1, s2, h2, hm2⟩ := bnd_some hm1
  cases hm2
  rw [List.length_cons, h _ _ _ _ h2]
def mdPick (ix : List Nat) (md : MD) : MD := fun ds s => md (pick ix ds) s
theorem f_makeK (F : DfZ X.prog X.w X.K X.mg X.base j d ps (spI X.K c mi)) (hr : RmZ k X.A) (hj : j + 1 ≤ k) (M : Mk X.K (He.ga X.K c) (d.ad X.K)) (hk : ∀ fd, FunD X.K d.name d.qual d.params d.body d.scope (d.dvs X.K) [] (d.ad X.K) fd → KwZ fd ps ks 1 ix) (hg : Gl X x) (hm : X.mg x = some (.ref (He.ga X.K c)))
    (ha : PK X kws (trA X.K ma)) (hl : ∀ e s ds s', ma e s = some (ds, s') → ds.length = ks.length)
    (hdb : (x == ("__debug__" : Str)) = false := by decide +kernel) (hall : (backToKw pos (keywordEach kws X.env)).all (·.1.isSome) = true := by rfl) (hks : (backToKw pos (keywordEach kws X.env)).filterMap (·.1) = ks := by rfl)
    (hpl : ((backTo pos (starEach [] X.env)).any (·.1) || (backToKw pos (keywordEach kws X.env)).any (·.1.isNone)) = false := by rfl) : PE X (.Call (.Name x p) [] kws pos) (trF X.K (mCallD (mdPick ix (mdMake c mi)) ma)) :=
  PE.imp (pe_callRK (F.makeRK (hr.mono hj) M hk) M.kp hg hm ha (fun _ _ _ q => trA_len hl q) hdb hall hks hpl) fun σ H Q ⟨g, e, s, d, s', R, E, hm, k⟩ => by
  obtain ⟨ds, s1, h1, hm1⟩ := bnd_some hm
  exact ⟨g, e, s, ds, s1, R, E, h1, fun vs g1 H1 st1 rv => ⟨rfl, g1, s1, _, d, s', st1.rel, rep_pick rv ix, hm1, fun a g2 H2 st2 q1 q2 q3 q4 => k a g2 H2 (st1.trans st2) (st1.noneOf q1) q2 q3 q4⟩⟩
/-- o.m(k = v, ..) -/
def mMethK (c m : Str) (ix : List Nat) (md : MD) (mo : ME) (ma : MA) : ME := fun e s => bnd (mo e s) fun d s => match d with
  | .obj c' fs => if c' = c ∧ lookF fs m = none then bnd (ma e s) fun ds s => md (.obj c' fs :: pick ix ds) s else none
  | _ => none
end
end Z

set_option Elab.async false
set_option linter.all false
set_option maxRecDepth 100000
set_option maxHeartbeats 4000000
namespace Z
open PySem PySem.Spec PyProof.Rows L2
/-! ### C.m(..), m a classmethod -/
def mCm (c : Str) (md : MD) (mo : ME) (ma : MA) : ME := fun e s => bnd (mo e s) fun d s => match d with
  | .ty c' => if c' = c then bnd (ma e s) fun ds s => md (.ty c :: ds) s else none
  | _ => none
def mCmK (c : Str) (ix : List Nat) (md : MD) (mo : ME) (ma : MA) : ME := fun e s => bnd (mo e s) fun d s => match d with
  | .ty c' => if c' = c then bnd (ma e s) fun ds s => md (.ty c :: pick ix ds) s else none
  | _ => none
section
variable {X : Cx} {d : DefZ} {ps ks : List Str} {k j : Nat} {ix : List Nat} {m c : Str} {pos apos : Pos} {e o : Expr} {es : List Expr} {kws : List Keyword} {md : MD} {ma : MA} {mo : ME} {rec : Addr}
theorem d_cm (c : Str) (ho : PE X o (trE X.K mo)) (R : ClX.CRead X.K (He.ga X.K c) (.type "type")) (M : ClX.CMet X.K (He.ga X.K c) (.type "type") m rec (d.ad X.K)) (F : DfZ X.prog X.w X.K X.mg X.base j d ps (spM X.K md)) (hr : RmZ k X.A) (hj : j ≤ k) (ha : PA X (e :: es) (trA X.K ma))
    (hst : starEach (e :: es) X.env = (false, eval e X.env) :: starEach es X.env := by rfl) (hpl : (backTo pos (starEach es X.env)).any (·.1) = false := by rfl)
    {pl : Sem Bool} (ht : eval (.Call (.Attribute o m apos) (e :: es) [] pos) X.env = (do
      let ov ← eval o X.env
      standAt apos.atName
      let (f, first) ← holding [ov] (getMethod ov m pl)
      callWith pos f first (backTo pos (starEach (e :: es) X.env)) (backToKw pos (keywordEach [] X.env))) := by rfl) :
    PE X (.Call (.Attribute o m apos) (e :: es) [] pos) (trE X.K (mCm c md mo ma)) := ⟨fun pins s σ H Q I ⟨g, en, s0, d0, s', R0, E0, hmm, kk⟩ => by
  obtain ⟨d1, s1, h1, hm1⟩ := bnd_some hmm
  split at hm1
  · rename_i c'
    split at hm1
    · rename_i hcc
      subst hcc
      obtain ⟨ds, s2, h2, hm2⟩ := bnd_some hm1
      refine PySem.W.methodCall_KW (pl := pl) (thn (ho.run pins s σ H (fun x H1 => ∃ g1, Step X.K g H g1 H1 s1 ∧ Rep X.K g1 x (.ty c')) I ⟨g, en, s0, _, s1, R0, E0, h1, fun v g1 H1 st1 rv => ⟨g1, st1, rv⟩⟩) fun u t1 ⟨x, H1, I1, rx, g1, st1, rv⟩ => ?_) ht
      have ex : x = .ref (He.ga X.K c') := by cases rv; rfl
      subst ex
      obtain rfl : u = Value.ref (He.ga X.K c') := rx
      refine ClX.getmethcm_ok I1 R M fun t2 I2 => ?_
      refine ClX.callwith_cm I2 (ClX.base_none I1 (Nat.le_refl _)) M.fi (thn (ha.run pos _ t2 σ H1 (fun vs H2 => ∃ g2, Step X.K g1 H1 g2 H2 s2 ∧ RepL X.K g2 vs ds) I2 ⟨g1, en, s1, ds, s2, st1.rel, E0.step st1, h2, fun vs g2 H2 st2 rv => ⟨g2, st2, rv⟩⟩) fun us t3 ⟨vs, H2, I3, rvs, g2, st2, rl⟩ => ⟨⟨ClX.pin_at I3, I3.kIn⟩, ?_⟩) hst hpl
      obtain ⟨fd, _, F1, hb⟩ := F.ex
      have rr : Vals (V.ref (He.ga X.K c') :: vs) (Value.ref (He.ga X.K c') :: us) := .cons rfl rvs
      have sp : spM X.K md (V.ref (He.ga X.K c') :: vs) H2 Q fun _ _ _ => False := ⟨g2, s2, _, d0, s', st2.rel, .cons (.ty c') rl, hm2, fun v g3 H3 st3 r3 => kk v g3 H3 ((st1.trans st2).trans st3) r3⟩
      have hl : (Value.ref (He.ga X.K c') :: us ++ []).length = ps.length := by
        rw [List.append_nil, ← rr.length]
        exact F1.len _ _ _ _ sp
      have bt := hb t3 _ I3.kIn hl
      rw [List.append_nil] at bt
      have z : wpAny (model X.prog X.w) X.A (call (.ref t1.heap.objs.size) us) (EP X ((t1.heap.objs.size, PySem.W.methodObj (.ref (d.ad X.K)) (.ref (He.ga X.K c'))) :: pins) σ Q) X.xe t3 :=
        wpAny_call (PySem.W.method_call (ClX.pin_at I3) (codeAny_mono (F1.run X.A X.stack t3 H2 ⟨_ :: us, []⟩ (_ :: us) (_ :: vs) Q _ (hr.mono hj) I3.env0 bt rr sp) fun f s' hf => by
          match f, hf with
          | .ok (.ret u), hf => exact I3.after hf))
      exact thn z fun _ _ y => ClX.unpinE y
    · cases hm1
  · cases hm1⟩
end
end Z

set_option Elab.async false
set_option linter.all false
set_option maxRecDepth 100000
set_option maxHeartbeats 4000000
namespace Z
open PySem PySem.Spec PyProof.Rows L2
/-! ### {k: v for .. in .. for .. in ..} -/
abbrev dE2 (kx vx t0 i0 : Expr) (f0 : List Expr) (t1 i1 : Expr) (f1 : List Expr) (sc : Scope) (ps : Pos) : Expr := .DictComp kx vx [⟨t0, i0, f0, 0⟩, ⟨t1, i1, f1, 0⟩] sc ps
section
variable {kx vx t0 i0 t1 i1 : Expr} {f0 f1 : List Expr} {sc : Scope} {ps : Pos} {it : Value} {cell : Addr} {env : Env}
theorem dturn0 : compTurn (dE2 kx vx t0 i0 f0 t1 i1 f1 sc ps) 0 it (.ref cell) env = (do
    standAt i0.pos
    match ← pyNext it with
    | none => pure (.done .next)
    | some item =>
      letOwnedTupleGo t0 it item
      assign t0 env item
      let mut go := true
      for c in f0 do
        if go then go ← isTrue c env (eval c env)
      if go then
        let src ← eval i1 env
        standAt i1.pos
        let src ← foldedSetIterable i1 env src
        let _ ← runOwn (.compStart (dE2 kx vx t0 i0 f0 t1 i1 f1 sc ps) 1 (← holding [src] (pyIter src)) (.ref cell) env) env
      again (.compLoop (dE2 kx vx t0 i0 f0 t1 i1 f1 sc ps) 0 it (.ref cell) env)) := by rfl
theorem dturn1 : compTurn (dE2 kx vx t0 i0 f0 t1 i1 f1 sc ps) 1 it (.ref cell) env = (do
    standAt i1.pos
    match ← pyNext it with
    | none => pure (.done .next)
    | some item =>
      letOwnedTupleGo t1 it item
      assign t1 env item
      let mut go := true
      for c in f1 do
        if go then go ← isTrue c env (eval c env)
      if go then
        (do
          let kk ← eval kx env
          let vv ← holding [kk] (eval vx env)
          standAt { kx.pos with endLine := vx.pos.endLine, endCol := vx.pos.endCol }
          holding [kk, vv] (dictSet cell kk vv))
      again (.compLoop (dE2 kx vx t0 i0 f0 t1 i1 f1 sc ps) 1 it (.ref cell) env)) := by rfl
variable {prog : Program} {w : World} {A : Around} {R : Result → Shared → Prop} {s : Shared}
abbrev nxE (prog : Program) (w : World) (A : Around) (env : Env) (R : Result → Shared → Prop) : Value → Shared → Prop := notedBy (model prog w) A env fun e s' => R (.error e) s'
/-- the tests of a clause -/
abbrev tests (fs : List Expr) (env : Env) : Sem Bool := forIn fs true fun c r => if r = true then do let ok ← isTrue c env (eval c env); pure (ForInStep.yield ok) else pure (ForInStep.yield r)
theorem dloop0 (hs : ∀ x, foldedSetIterable i1 env x = pure x) (J : Nat → Shared → Prop)
    (turn : ∀ n s, J n s → wpAny (model prog w) A (pyNext it) (fun r a => match r with
      | none => R (.ok .next) a
      | some item => wpAny (model prog w) A (letOwnedTupleGo t0 it item) (fun _ b => wpAny (model prog w) A (assign t0 env item) (fun _ c => wpAny (model prog w) A (tests f0 env) (fun go d =>
          if go = true then wpAny (model prog w) A (eval i1 env) (fun x e => wpAny (model prog w) A (pyIter x) (fun it1 f =>
              codeAny (model prog w) A (.compStart (dE2 kx vx t0 i0 f0 t1 i1 f1 sc ps) 1 it1 (.ref cell) env) (fun r z => match r with
                | .ok _ => ∃ m, m < n ∧ J m z
                | .error _ => False) f) (nxE prog w A env R) e) (nxE prog w A env R) d
          else ∃ m, m < n ∧ J m d) (nxE prog w A env R) c) (nxE prog w A env R) b) (nxE prog w A env R) a) (nxE prog w A env R) s)
    (n : Nat) (h : J n s) : codeAny (model prog w) A (.compLoop (dE2 kx vx t0 i0 f0 t1 i1 f1 sc ps) 0 it (.ref cell) env) R s := by
  refine codeAny_loop rfl J (fun n s hJ => ?_) n h
  show wpAny _ A ((compTurn (dE2 kx vx t0 i0 f0 t1 i1 f1 sc ps) 0 it (.ref cell) env).onRaise (fun x => do noteFrame x env; theTreesLotGoes x)) _ _ s
  refine wpAny_noted ?_
  rw [dturn0]
  refine wpAny_bind (wpAny_standAt (wpAny_bind (wpAny_mono (turn n s hJ) (fun r a ha => ?_) fun _ _ z => z)))
  match r, ha with
  | none, ha => exact wpAny_pure ha
  | some item, ha =>
    refine wpAny_bind (wpAny_mono ha (fun _ b hb => wpAny_bind (wpAny_mono hb (fun _ c hc => wpAny_bind (wpAny_mono hc (fun go d hd => ?_) fun _ _ z => z)) fun _ _ z => z)) fun _ _ z => z)
    match go, hd with
    | false, hd => exact wpAny_pure ⟨rfl, hd⟩
    | true, hd =>
      refine wpAny_bind (wpAny_mono hd (fun x e he => wpAny_bind (wpAny_standAt (wpAny_bind (wpAny_of_eq (hs x) (wpAny_bind (wpAny_holding (wpAny_mono he (fun it1 f hf => ?_) fun _ _ z => z))))))) fun _ _ z => z)
      refine wpAny_bind (wpAny_runOwn ?_)
      rw [Around.mark_none]
      refine codeAny_mono hf fun r z hr => ?_
      match r, hr with
      | .ok _, hr =>
        first
          | exact wpAny_pure ⟨rfl, hr⟩
          | exact wpAny_bind (wpAny_pure (wpAny_pure ⟨rfl, hr⟩))
theorem dloop1 (J : Nat → Shared → Prop)
    (turn : ∀ n s, J n s → wpAny (model prog w) A (pyNext it) (fun r a => match r with
      | none => R (.ok .next) a
      | some item => wpAny (model prog w) A (letOwnedTupleGo t1 it item) (fun _ b => wpAny (model prog w) A (assign t1 env item) (fun _ c => wpAny (model prog w) A (tests f1 env) (fun go d =>
          if go = true then wpAny (model prog w) A (eval kx env) (fun kk e => wpAny (model prog w) A (eval vx env) (fun vv f =>
              wpAny (model prog w) A (dictSet cell kk vv) (fun _ z => ∃ m, m < n ∧ J m z) (nxE prog w A env R) f) (nxE prog w A env R) e) (nxE prog w A env R) d
          else ∃ m, m < n ∧ J m d) (nxE prog w A env R) c) (nxE prog w A env R) b) (nxE prog w A env R) a) (nxE prog w A env R) s)
    (n : Nat) (h : J n s) : codeAny (model prog w) A (.compLoop (dE2 kx vx t0 i0 f0 t1 i1 f1 sc ps) 1 it (.ref cell) env) R s := by
  refine codeAny_loop rfl J (fun n s hJ => ?_) n h
  show wpAny _ A ((compTurn (dE2 kx vx t0 i0 f0 t1 i1 f1 sc ps) 1 it (.ref cell) env).onRaise (fun x => do noteFrame x env; theTreesLotGoes x)) _ _ s
  refine wpAny_noted ?_
  rw [dturn1]
  refine wpAny_bind (wpAny_standAt (wpAny_bind (wpAny_mono (turn n s hJ) (fun r a ha => ?_) fun _ _ z => z)))
  match r, ha with
  | none, ha => exact wpAny_pure ha
  | some item, ha =>
    refine wpAny_bind (wpAny_mono ha (fun _ b hb => wpAny_bind (wpAny_mono hb (fun _ c hc => wpAny_bind (wpAny_mono hc (fun go d hd => ?_) fun _ _ z => z)) fun _ _ z => z)) fun _ _ z => z)
    match go, hd with
    | false, hd => exact wpAny_pure ⟨rfl, hd⟩
    | true, hd =>
      exact wpAny_bind (wpAny_bind (wpAny_mono hd (fun kk e he => wpAny_bind (wpAny_holding (wpAny_mono he (fun vv f hf => wpAny_bind (wpAny_standAt (wpAny_holding (wpAny_mono hf (fun _ z hz => wpAny_pure ⟨rfl, hz⟩) fun _ _ q => q)))) fun _ _ q => q))) fun _ _ q => q))
theorem dstart1 (a0 : codeAny (model prog w) A (.compLoop (dE2 kx vx t0 i0 f0 t1 i1 f1 sc ps) 1 it (.ref cell) env) R s)
    (a1 : wpAny (model prog w) A (pyIter it) (fun u z => codeAny (model prog w) A (.compLoop (dE2 kx vx t0 i0 f0 t1 i1 f1 sc ps) 1 u (.ref cell) env) R z) (nxE prog w A env R) s) :
    codeAny (model prog w) A (.compStart (dE2 kx vx t0 i0 f0 t1 i1 f1 sc ps) 1 it (.ref cell) env) R s := by
  refine codeAny_of_tree ?_
  show wpAny _ _ ((compStart (dE2 kx vx t0 i0 f0 t1 i1 f1 sc ps) 1 it (.ref cell) env).onRaise (fun x => do noteFrame x env; standAt theWindowsPlace)) _ _ s
  refine wpAny_notedAt ?_
  unfold compStart
  show wpAny _ _ (ask >>= _) _ _ s
  refine wpAny_bind (wpAny_askSetting (wpAny_ite ?_))
  split
  · first
      | exact wpAny_pure ⟨rfl, a0⟩
      | exact wpAny_bind (wpAny_pure (wpAny_pure ⟨rfl, a0⟩))
  · first
      | exact wpAny_bind (wpAny_rule (wpAny_bind (wpAny_standAt (wpAny_bind (wpAny_mono a1 (fun u z hz => wpAny_pure ⟨rfl, hz⟩) fun _ _ q => q)))))
      | (refine wpAny_bind (wpAny_rule ?_); show wpAny _ _ (standAt i1.pos >>= _) _ _ s; exact wpAny_bind (wpAny_standAt (wpAny_bind (wpAny_mono a1 (fun u z hz => wpAny_pure ⟨rfl, hz⟩) fun _ _ q => q))))
end
end Z
namespace Z
open PySem PySem.Spec PyProof.Rows L2
/-- of the block of a comprehension, wherever it runs -/
abbrev InBlk (X : Cx) (sc : Scope) (p : Cx → Prop) : Prop := ∀ (s : Shared) (H : Hp) (C : Addr) (cl : List (Str × Addr)) (fp : List Addr), p (X.blk s H sc (compEnvC sc cl C X.env) fp)
section
variable {X : Cx}
def tDc2 (wi : TI) (g : TG) (tt : TT) (wi1 : TI) (g1 : TG) (tt1 : TT) (tk tv : TE) (vs vs1 : List Nat) : TE := fun σ H Q => wi σ H fun J Ha => ∀ M, Ha M = none → ∃ W : Nat → Nat → Hp → Prop, (∃ m, W 0 m (upd Ha M (.dK []))) ∧ ∀ i m H, W i m H →
  (J.stop i H ∧ Q (.ref M) H) ∨ (J.go i H ∧ ∃ Nx : Hp → Prop, (∀ Hz, Nx Hz → ∃ m', m' < m ∧ W (i + 1) m' Hz) ∧ ∀ x Hb, J.yld i H x Hb → g x (wipe σ vs) Hb fun σ2 Hc => wipe σ2 vs = wipe σ vs ∧ tt σ2 Hc fun b Hd =>
    if b = true then wi1 σ2 Hd fun J1 He => ∃ W1 : Nat → Nat → Hp → Prop, (∃ m, W1 0 m He) ∧ ∀ j k H, W1 j k H →
      (J1.stop j H ∧ Nx H) ∨ (J1.go j H ∧ ∃ Nx1 : Hp → Prop, (∀ Hz, Nx1 Hz → ∃ k', k' < k ∧ W1 (j + 1) k' Hz) ∧ ∀ x Hf, J1.yld j H x Hf → g1 x (wipe σ2 vs1) Hf fun σ3 Hg => wipe σ3 vs1 = wipe σ2 vs1 ∧ tt1 σ3 Hg fun b Hh =>
        if b = true then tk σ3 Hh fun y Hi => tv σ3 Hi fun z Hj => ∃ kvs k, y = kV k ∧ Hj M = some (.dK kvs) ∧ kvs.length < sizeLine ∧ Nx1 (upd Hj M (.dK (putK kvs k z))) else Nx1 Hh)
    else Nx Hd)
variable {pins : List (Addr × Obj)} {s : Shared} {σ : L2.St} {H : Hp} {Q : VK} {kx vx t0 i0 t1 i1 : Expr} {f0 f1 : List Expr} {sc : Scope} {own : List (Str × Nat)} {vs1 : List Nat} {ps ps' : Pos} {wi wi1 : TI} {g g1 : TG} {tt tt1 : TT} {tk tv : TE} {use : Option (Value → Sem Unit)} {Qf : Value → Shared → Prop}
theorem dc2_core (hc : X.calm = true) (hN : X.N.Nodup) (I : Inv X pins σ H s) (hi : PI X t0 i0 wi) (ok : BlkOk X.N X.env.scope sc own) (hv : ∀ i ∈ vs1, i ∈ own.map (·.2))
    (hg : InBlk X sc fun Y => PG Y t0 g) (ht : InBlk X sc fun Y => PTs Y f0 tt) (hk : InBlk X sc fun Y => PE Y kx tk) (he : InBlk X sc fun Y => PE Y vx tv)
    (hi1 : InBlk X sc fun Y => PI Y t1 i1 wi1) (hg1 : InBlk X sc fun Y => PG Y t1 g1) (ht1 : InBlk X sc fun Y => PTs Y f1 tt1) (hs : ∀ x, foldedSetIterable i0 X.env x = pure x) (hs1 : ∀ env x, foldedSetIterable i1 env x = pure x)
    (h : tDc2 wi g tt wi1 g1 tt1 tk tv (own.map (·.2)) vs1 σ H Q)
    (out : ∀ M C z m Hz, Inv X pins σ Hz z → Q (.ref M) Hz → z.heap.Ns C m → FpOk X pins Hz C → compPost (model X.prog X.w) X.A X.xe use Qf (.ref M) C (.ok .next) z) :
    wpAny (model X.prog X.w) X.A (comprehension (dE2 kx vx t0 i0 f0 t1 i1 f1 sc ps) sc X.env ps' newDict false (eval i0 X.env) use) Qf X.xe s := by
  have clo : ∀ y ∈ sc.names, y.2 = .free → ∃ c, X.env.cells.lookup y.1 = some c := fun y hy e => (ok.free y hy e).elim (fun z => I.ok.has _ (.inl z)) fun z => I.ok.has _ (.inr z)
  refine wpAny_comprehension_free (use := use) rfl hs (closure_ok clo) ok.kind (fun y hy e => by rw [ok.uniq y hy, e]) (thn (hi.run pins s σ H _ I h) fun src sa ha => thn ha fun itv sb hb => ?_)
  obtain ⟨it, fp, tn, J, Hb, rfl, Ib, T, stb, fb, q⟩ := hb
  refine wpAny_newObj_type (newEnv_comp ?_)
  generalize hM : sb.heap.objs.size = M
  have freeM : Hb M = none := Ib.hok.fresh (Nat.le_of_eq hM)
  obtain ⟨W, ⟨m0, w0⟩, turn⟩ := q M freeM
  generalize hsc : ({ sb with heap := sb.heap.push { cls := .type "dict", data := .dict #[] } } : Shared) = sd
  have hpd : sd.heap = sb.heap.push { cls := .type "dict", data := .dict #[] } := by rw [← hsc]
  have Id : Inv X pins σ (upd Hb M (.dK [])) sd := by
    subst hsc
    refine Ib.laid (t' := sb.toks) (fun b o e => Heap.get?_push_of_some _ e) (Nat.le_of_eq hM) ?_
    subst hM
    exact dk_empty sb.heap Ib.big
  have fpLt : ∀ b ∈ fp, b < sb.heap.objs.size := fun b hb => let ⟨o, e, _⟩ := T.obj _ _ stb b hb; Heap.lt_size e
  have fd : ∀ b ∈ fp, FpOk X pins (upd Hb M (.dK [])) b ∧ b < sd.heap.objs.size := fun b hb => by
    have lt := fpLt b hb
    have ne : b ≠ M := by rw [← hM]; exact Nat.ne_of_lt lt
    exact ⟨⟨by rw [upd_ne ne]; exact (fb b hb).1, (fb b hb).2⟩, by rw [hpd, Heap.size_push]; exact Nat.lt_succ_of_lt lt⟩
  have std : tn 0 sd.heap := T.keep _ _ _ stb fun b _ o e => by rw [hpd]; exact Heap.get?_push_of_some _ e
  have Ie := block_start Id ok hN fd
  generalize hcl : cellsFrom (sd.heap.objs.size + 1) sc.names (cloFrom X.env.cells sc.names []) = cl at Ie
  have pg := hg sd (upd Hb M (.dK [])) sd.heap.objs.size cl fp
  have pt := ht sd (upd Hb M (.dK [])) sd.heap.objs.size cl fp
  have pk := hk sd (upd Hb M (.dK [])) sd.heap.objs.size cl fp
  have pv := he sd (upd Hb M (.dK [])) sd.heap.objs.size cl fp
  have qi := hi1 sd (upd Hb M (.dK [])) sd.heap.objs.size cl fp
  have qg := hg1 sd (upd Hb M (.dK [])) sd.heap.objs.size cl fp
  have qt := ht1 sd (upd Hb M (.dK [])) sd.heap.objs.size cl fp
  show codeAny _ _ (.compStart (dE2 kx vx t0 i0 f0 t1 i1 f1 sc ps) 0 (.ref it) (.ref M) (compEnvC sc cl sd.heap.objs.size X.env)) (compPost (model X.prog X.w) X.A X.xe use Qf (.ref M) sd.heap.objs.size) { sd with heap := pushCells (sd.heap.push { cls := .type "dict", data := .dict #[] }) sc.names }
  have fpN : ∀ b ∈ fp, (upd Hb M (.dK [])) b = none := fun b hb => (fd b hb).1.1
  generalize hce : compEnvC sc cl sd.heap.objs.size X.env = ce at Ie pg pt pk pv qi qg qt ⊢
  have ceL : ce.locals = sd.heap.objs.size := by subst hce; rfl
  generalize hHd : upd Hb M (.dK []) = Hd at Id Ie pg pt pk pv qi qg qt w0 fpN fd
  generalize hse : ({ sd with heap := pushCells (sd.heap.push { cls := .type "dict", data := .dict #[] }) sc.names } : Shared) = se at Ie ⊢
  have ste : tn 0 se.heap := T.keep _ _ _ std fun b _ o e => by rw [← hse]; exact pushCells_keeps _ _ _ _ (Heap.get?_push_of_some _ e)
  have still : ∀ {σz : L2.St} {Hz : Hp} {z : Shared}, Inv (X.blk sd Hd sc ce fp) [] σz Hz z → (∀ b ∈ fp, Hz b = none) → ∀ b ∈ fp, FpOk (X.blk sd Hd sc ce fp) [] Hz b := fun {σz Hz z} Iz n b hb =>
    ⟨n b hb, (Iz.ok.exf b hb).1, Iz.ok.exfs b hb, .inl hb, fun x c e => (Iz.ok.exf b hb).2 x c e, fun p hp => absurd (show p ∈ ([] : List (Addr × Obj)) ++ [] from hp) (by simp)⟩
  have outer : codeAny (model X.prog X.w) X.A (.compLoop (dE2 kx vx t0 i0 f0 t1 i1 f1 sc ps) 0 (.ref it) (.ref M) ce) (compPost (model X.prog X.w) X.A X.xe use Qf (.ref M) sd.heap.objs.size) se := by
    refine dloop0 (hs1 ce) (fun n z => ∃ i Hz, Inv (X.blk sd Hd sc ce fp) [] (wipe σ (own.map (·.2))) Hz z ∧ tn i z.heap ∧ (∀ b ∈ fp, Hz b = none) ∧ W i n Hz) ?_ m0 ⟨0, Hd, Ie, ste, fpN, w0⟩
    rintro n sf ⟨i, Hf, If, stf, nf, wf⟩
    rcases turn i n Hf wf with ⟨stop, qq⟩ | ⟨go, Nx, hNx, step⟩
    · refine thnF (T.done (X.blk sd Hd sc ce fp) rfl rfl rfl hc i [] sf _ Hf (fun _ _ => False) If (still If nf) stf stop) fun r sg ⟨hr, Ig⟩ => ?_
      subst hr
      have back : Inv X pins σ Hf sg := Id.call' (ch := fp) Ig.os Ig.base Ig.hok Ig.bare fun b hb => let f := (fd b hb).1.2; ⟨f.2.2.1, f.1, f.2.2.2.1, f.2.2.2.2⟩
      have noC : Hf sd.heap.objs.size = none := by rw [← ceL]; exact Ig.free
      obtain ⟨m, hn, _⟩ := Ig.loc
      have hn : sg.heap.Ns ce.locals m := hn
      rw [ceL] at hn
      exact out M sd.heap.objs.size sg m Hf back qq hn (Id.fpOk (Nat.le_refl _) noC)
    · refine thnF (T.item (X.blk sd Hd sc ce fp) rfl rfl rfl hc i [] sf _ Hf (fun _ _ => False) If (still If nf) stf go) fun r sg ⟨u, hr, hg⟩ => ?_
      subst hr
      refine thnF hg fun _ sh ⟨x, Hh, Ih, rh, yh, sth, nh⟩ => ?_
      have Ip := Ih.pinned (still Ih nh) (T.obj _ _ sth)
      refine thnF (pg.run _ sh _ Hh x u _ Ip rh (step x Hh yh)) fun _ si ⟨σi, Hi, Ii, wi8, qi8⟩ => ?_
      refine thnF (pt.run _ si σi Hi _ Ii qi8) fun b sj ⟨Hj, Ij, qj⟩ => ?_
      have close : ∀ {σz : L2.St} {z : Shared} {Hz : Hp}, Inv (X.blk sd Hd sc ce fp) ([] ++ pinsAt fp sh.heap) σz Hz z → (wipe σ (own.map (·.2))).length = σz.length → (∀ (j : Nat) v, (wipe σ (own.map (·.2)))[j]? = some (some v) → σz[j]? = some (some v)) → Nx Hz →
          ∃ m, m < n ∧ ∃ i Hz, Inv (X.blk sd Hd sc ce fp) [] (wipe σ (own.map (·.2))) Hz z ∧ tn i z.heap ∧ (∀ b ∈ fp, Hz b = none) ∧ W i m Hz := fun {σz z Hz} Iz hl hkk nx => by
        obtain ⟨m', hm, w'⟩ := hNx Hz nx
        have pinned : ∀ b ∈ fp, ∀ o, sh.heap.get? b = some o → z.heap.get? b = some o ∧ Hz b = none := fun b hb o e => by
          have p := Iz.pin (b, o) (List.mem_append_right _ (List.mem_append_right _ (mem_pinsAt hb e)))
          exact ⟨p.1, p.2.1⟩
        exact ⟨m', hm, i + 1, Hz, (Iz.unpinned (pins := [])).weak hl hkk, T.keep _ _ _ sth fun b hb o e => (pinned b hb o e).1, fun b hb => let ⟨o, e, _⟩ := T.obj _ _ sth b hb; (pinned b hb o e).2, w'⟩
      have len8 : (wipe σ (own.map (·.2))).length = σi.length := by rw [← wi8, wipe_length]
      have keep8 : ∀ (j : Nat) v, (wipe σ (own.map (·.2)))[j]? = some (some v) → σi[j]? = some (some v) := fun j v e => (wipe_some (wi8 ▸ e)).1
      have keep9 : ∀ (j : Nat) v, (wipe σ (own.map (·.2)))[j]? = some (some v) → (wipe σi vs1)[j]? = some (some v) := fun j v e => by
        have w := wipe_some (wi8.symm ▸ e)
        rw [wipe_out fun z => w.2 (hv j z)]
        exact w.1
      match b, qj with
      | false, qj =>
        simp only [Bool.false_eq_true, if_false] at qj ⊢
        exact close Ij len8 keep8 qj
      | true, qj =>
        simp only [if_true] at qj ⊢
        refine thnF (qi.run _ sj σi Hj _ Ij qj) fun xv sk hx => thnF hx fun itv sl hl => ?_
        obtain ⟨it1, fp1, tn1, J1, Hl, rfl, Il, T1, stl, fl, W1, ⟨m1, w1⟩, turn1⟩ := hl
        have still1 : ∀ {Hz : Hp}, (∀ b ∈ fp1, Hz b = none) → ∀ b ∈ fp1, FpOk (X.blk sd Hd sc ce fp) ([] ++ pinsAt fp sh.heap) Hz b := fun n b hb => ⟨n b hb, (fl b hb).2⟩
        have inner : codeAny (model X.prog X.w) X.A (.compLoop (dE2 kx vx t0 i0 f0 t1 i1 f1 sc ps) 1 (.ref it1) (.ref M) ce)
            (fun r z => match r with
              | .ok _ => ∃ m, m < n ∧ ∃ i Hz, Inv (X.blk sd Hd sc ce fp) [] (wipe σ (own.map (·.2))) Hz z ∧ tn i z.heap ∧ (∀ b ∈ fp, Hz b = none) ∧ W i m Hz
              | .error _ => False) sl := by
          refine dloop1 (fun k z => ∃ j Hz, Inv (X.blk sd Hd sc ce fp) ([] ++ pinsAt fp sh.heap) (wipe σi vs1) Hz z ∧ tn1 j z.heap ∧ (∀ b ∈ fp1, Hz b = none) ∧ W1 j k Hz) ?_ m1 ⟨0, Hl, Il.weak (wipe_length _ _) (fun j v e => (wipe_some e).1), stl, fun b hb => (fl b hb).1, w1⟩
          rintro k sm ⟨j, Hm, Im, stm, nm, wm⟩
          rcases turn1 j k Hm wm with ⟨stop1, nx1⟩ | ⟨go1, Nx1, hNx1, step1⟩
          · refine thnF (T1.done (X.blk sd Hd sc ce fp) rfl rfl rfl hc j _ sm (wipe σi vs1) Hm (fun _ _ => False) Im (still1 nm) stm stop1) fun r sn ⟨hr, In⟩ => ?_
            subst hr
            exact close In (len8.trans (wipe_length σi vs1).symm) keep9 nx1
          · refine thnF (T1.item (X.blk sd Hd sc ce fp) rfl rfl rfl hc j _ sm (wipe σi vs1) Hm (fun _ _ => False) Im (still1 nm) stm go1) fun r sn ⟨u1, hr, hn⟩ => ?_
            subst hr
            refine thnF hn fun _ so ⟨x1, Ho, Io, ro, yo, sto, no⟩ => ?_
            refine thnF (qg.run _ so (wipe σi vs1) Ho x1 u1 _ (Io.pinned (still1 no) (T1.obj _ _ sto)) ro (step1 x1 Ho yo)) fun _ sp ⟨σp, Hp_, Ip_, wp_, qp⟩ => ?_
            refine thnF (qt.run _ sp σp Hp_ _ Ip_ qp) fun b1 sq ⟨Hq, Iq, qq⟩ => ?_
            have close1 : ∀ {z : Shared} {Hz : Hp}, Inv (X.blk sd Hd sc ce fp) (([] ++ pinsAt fp sh.heap) ++ pinsAt fp1 so.heap) σp Hz z → Nx1 Hz → ∃ m, m < k ∧ ∃ j Hz, Inv (X.blk sd Hd sc ce fp) ([] ++ pinsAt fp sh.heap) (wipe σi vs1) Hz z ∧ tn1 j z.heap ∧ (∀ b ∈ fp1, Hz b = none) ∧ W1 j m Hz := fun {z Hz} Iz nx => by
              obtain ⟨m', hm, w'⟩ := hNx1 Hz nx
              have pinned : ∀ b ∈ fp1, ∀ o, so.heap.get? b = some o → z.heap.get? b = some o ∧ Hz b = none := fun b hb o e => by
                have p := Iz.pin (b, o) (List.mem_append_right _ (List.mem_append_right _ (mem_pinsAt hb e)))
                exact ⟨p.1, p.2.1⟩
              exact ⟨m', hm, j + 1, Hz, Iz.unpinned.weak (by rw [← wp_, wipe_length]) (fun j v e => (wipe_some (wp_.symm ▸ e)).1), T1.keep _ _ _ sto fun b hb o e => (pinned b hb o e).1, fun b hb => let ⟨o, e, _⟩ := T1.obj _ _ sto b hb; (pinned b hb o e).2, w'⟩
            match b1, qq with
            | false, qq =>
              simp only [Bool.false_eq_true, if_false] at qq ⊢
              exact close1 Iq qq
            | true, qq =>
              simp only [if_true] at qq ⊢
              refine thnF (pk.run _ sq σp Hq _ Iq qq) fun z1 sr ⟨yk, Hr, Ir, rr, qr⟩ => ?_
              refine thnF (pv.run _ sr σp Hr _ Ir qr) fun z2 ss ⟨yv, Hs, Is, rs, kvs, kk, ek, hDs, hzs, nx⟩ => ?_
              subst ek
              exact d_dictSet (X := X.blk sd Hd sc ce fp) Is hDs hzs rr rs fun st It => close1 It nx
        exact dstart1 inner (T1.self X.A 0 _ _ _ stl inner)
  exact codeAny_compStart_dict outer (T.self X.A 0 _ _ _ ste outer)
end
end Z
namespace Z
open PySem PySem.Spec PyProof.Rows L2
def dcL2 (mc : MC) (mt : MT) (mi1 : MI) (vs1 : List Nat) (mc1 : MC) (mt1 : MT) (mk mv : ME) (e : EnvD) : List D → List (Key × D) → S → Option (List (Key × D) × S)
  | [], acc, s => some (acc, s)
  | d :: ds, acc, s => match mc d e with
    | none => none
    | some e1 => match mt e1 s with
      | none => none
      | some (false, s1) => dcL2 mc mt mi1 vs1 mc1 mt1 mk mv e ds acc s1
      | some (true, s1) => match mi1 e1 s1 with
        | none => none
        | some (ds1, s2) => match dcL mc1 mt1 mk mv (wipeE e1 vs1) ds1 acc s2 with
          | none => none
          | some (acc1, s3) => dcL2 mc mt mi1 vs1 mc1 mt1 mk mv e ds acc1 s3
def mDc2 (vs : List Nat) (mi : MI) (mc : MC) (mt : MT) (mi1 : MI) (vs1 : List Nat) (mc1 : MC) (mt1 : MT) (mk mv : ME) : ME := fun e s => bnd (mi e s) fun ds s1 => bnd (dcL2 mc mt mi1 vs1 mc1 mt1 mk mv (wipeE e vs) ds [] s1) fun ys s2 => some (.dic ys, s2)
section
variable {K : PySem.W.Frag} {vs vs1 : List Nat} {mi mi1 : MI} {mc mc1 : MC} {mt mt1 : MT} {mk mv : ME} {t t1 : TG}
theorem tDc2_of {σ : L2.St} {H : Hp} {Q : VK} (ht : CtOk K vs t mc) (ht1 : CtOk K vs1 t1 mc1) (h : trF K (mDc2 vs mi mc mt mi1 vs1 mc1 mt1 mk mv) σ H Q) :
    tDc2 (trI K mi) t (trT K mt) (trI K mi1) t1 (trT K mt1) (trE K mk) (trE K mv) vs vs1 σ H Q := by
  obtain ⟨g, e, s, d, s', R0, E0, hm, k⟩ := h
  obtain ⟨ds, s1, h1, hm1⟩ := bnd_some hm
  obtain ⟨ys, s2, h2, hm2⟩ := bnd_some hm1
  cases hm2
  refine ⟨g, e, s, ds, s1, R0, E0, h1, fun J g1 H1 st1 hJ P hP => ?_⟩
  obtain ⟨hn0, hf1, hc1⟩ := st1.fresh hP
  have stp := st1.put (u := .dK []) hn0 hc1 hf1
  have own0 : ∀ {j : Nat} {d : D}, e[j]? = some (Sl.own d) → σ[j]? ≠ some (some (V.ref P)) := fun {j d} hj => E0.noOwn hn0 hj
  let At (n : Nat) (H2 : Hp) : Prop := ∃ g2 s3 vs2 acc2, Step K g H g2 H2 s3 ∧ GLe g1 g2 ∧ H2 P = some (.dK vs2) ∧ P ∉ g2.ad ∧ g2.F P = none ∧ RepK K g2 vs2 acc2 ∧ dcL2 mc mt mi1 vs1 mc1 mt1 mk mv (wipeE e vs) (ds.drop n) acc2 s3 = some (ys, s')
  refine ⟨fun i m H2 => m = ds.length - i ∧ i ≤ ds.length ∧ At i H2, ⟨_, rfl, Nat.zero_le _, g1, s1, [], [], stp, .refl, upd_same, hc1, hf1, .nil, by simpa using h2⟩, ?_⟩
  rintro i m H2 ⟨rfl, hi, g2, s3, vs2, acc2, st2, L2, hP2, hc2, hf2, ra, hl⟩
  by_cases hlt : i < ds.length
  · refine .inr ⟨hJ.go g2 H2 s3 i st2.rel L2 hlt, At (i + 1), fun H' q => ⟨ds.length - (i + 1), by omega, rfl, hlt, q⟩, fun x H3 y => ?_⟩
    rw [List.drop_eq_getElem_cons hlt] at hl
    obtain ⟨g3, st3, rx⟩ := hJ.yld g2 H2 s3 i x H3 ds[i] st2.rel L2 (List.getElem?_eq_getElem hlt) y
    obtain ⟨hP3, hc3, hf3⟩ := st3.apart hP2 hc2 hf2
    have st03 := st2.trans st3
    have E3 := E0.step st03
    unfold dcL2 at hl
    split at hl
    · cases hl
    · rename_i e1 hmc
      refine ht.run g3 H3 _ _ e1 s3 x _ _ st3.rel (E3.wipe vs) rx hmc fun σ1 SE1 hw => ⟨?_, ?_⟩
      · rw [hw]
        apply List.ext_getElem?
        intro j
        rw [wipe_get, wipe_get]
        by_cases hj : j ∈ vs
        · simp only [hj, if_true, Option.map_map]; rfl
        · simp only [hj, if_false]
      · have E1 := SE1.env
        split at hl
        · cases hl
        · rename_i s4 hmt
          refine ⟨g3, e1, s3, false, s4, st3.rel, E1, hmt, fun g4 H4 st4 => ?_⟩
          simp only [Bool.false_eq_true, if_false]
          obtain ⟨hP4, hc4, hf4⟩ := st4.apart hP3 hc3 hf3
          exact ⟨g4, s4, vs2, acc2, st03.trans st4, (L2.trans st3.le).trans st4.le, hP4, hc4, hf4, (ra.mono st3.le).mono st4.le, hl⟩
        · rename_i s4 hmt
          refine ⟨g3, e1, s3, true, s4, st3.rel, E1, hmt, fun g4 H4 st4 => ?_⟩
          simp only [if_true]
          obtain ⟨hP4, hc4, hf4⟩ := st4.apart hP3 hc3 hf3
          split at hl
          · cases hl
          · rename_i ds1 s5 hmi
            split at hl
            · cases hl
            · rename_i acc1 s6 hin
              refine ⟨g4, e1, s4, ds1, s5, st4.rel, E1.step st4, hmi, fun J1 g5 H5 st5 hJ1 => ?_⟩
              obtain ⟨hP5, hc5, hf5⟩ := st5.apart hP4 hc4 hf4
              have ra5 := ((ra.mono st3.le).mono st4.le).mono st5.le
              have all := (st03.trans st4).trans st5
              refine dc_loop ht1 all ((E1.step st4).step st5) hJ1 hn0 hP5 hc5 hf5 ra5 hin ?_ fun g6 H6 vs6 st6 L6 hP6 hc6 hf6 ra6 => ?_
              · intro j dd hj hσ
                have z := own_blk SE1 (P := P) (fun {j d} hj => own0 hj) hj
                exact z hσ
              · exact ⟨g6, s6, vs6, acc1, st6, (((L2.trans st3.le).trans st4.le).trans st5.le).trans L6, hP6, hc6, hf6, ra6, hl⟩
  · have hn : i = ds.length := by omega
    subst hn
    refine .inl ⟨hJ.stop g2 H2 s3 st2.rel L2, ?_⟩
    rw [List.drop_length] at hl
    cases hl
    exact k P g2 H2 st2 hn0 hf2 hc2 ⟨vs2, hP2, ra⟩
end
section
variable {X : Cx} {kx vx tg iter tg1 iter1 : Expr} {ifs ifs1 : List Expr} {scope : Scope} {own : List (Str × Nat)} {pos spos py : Pos} {mi mi1 : MI} {mc mc1 : MC} {mt mt1 : MT} {mk mv : ME} {t t1 : TG} {vs vs1 : List Nat} {y : Str} {i : Nat}
theorem f_dc2 (hvs : own.map (·.2) = vs) (hc : X.calm = true) (hN : X.N.Nodup) (hi : PI X tg iter (trI X.K mi)) (ok : BlkOk X.N X.env.scope scope own) (hv : ∀ i ∈ vs1, i ∈ vs) (hct : CtOk X.K vs t mc) (hct1 : CtOk X.K vs1 t1 mc1)
    (hg : InBlk X scope fun Y => PG Y tg t) (ht : InBlk X scope fun Y => PTs Y ifs (trT Y.K mt)) (hi1 : InBlk X scope fun Y => PI Y tg1 iter1 (trI Y.K mi1)) (hg1 : InBlk X scope fun Y => PG Y tg1 t1) (ht1 : InBlk X scope fun Y => PTs Y ifs1 (trT Y.K mt1))
    (hk : InBlk X scope fun Y => PE Y kx (trE Y.K mk)) (he : InBlk X scope fun Y => PE Y vx (trE Y.K mv)) (hs : ∀ x, foldedSetIterable iter X.env x = pure x := by intro _; rfl) (hs1 : ∀ env x, foldedSetIterable iter1 env x = pure x := by intro _ _; rfl) :
    PE X (.DictComp kx vx [⟨tg, iter, ifs, 0⟩, ⟨tg1, iter1, ifs1, 0⟩] scope pos) (trF X.K (mDc2 vs mi mc mt mi1 vs1 mc1 mt1 mk mv)) := ⟨fun pins s σ H Q I h => by
  have h0 := tDc2_of hct hct1 h
  subst hvs
  rw [arm_eval_DictComp]
  refine dc2_core hc hN I hi ok hv hg ht hk he hi1 hg1 ht1 hs hs1 h0 fun M C z m Hz Iz q hn f => ⟨m, hn, fun h3 sb => ?_⟩
  exact ⟨.ref M, Hz, Iz.turned (t' := z.toks) (fun b o hb e => (sb.2 b hb).trans e) f.1 f.2.1 f.2.2.2.1 f.2.2.2.2.1 f.2.2.2.2.2, rfl, q⟩⟩
end
end Z

set_option Elab.async false
set_option linter.all false
set_option maxRecDepth 100000
set_option maxHeartbeats 4000000
namespace Z
open PySem PySem.Spec PyProof.Rows L2
/-! ### sorted(d) -/
def strKs : List (Key × D) → Option (List Str)
  | [] => some []
  | (.inr x, _) :: r => (strKs r).map (x :: ·)
  | _ => none
def sortedDicD : List D → Option D
  | [.dic kvs] => (strKs kvs).bind fun ks => if ks.length < 64 then some (.lst (sortL (ks.map .str))) else none
  | _ => none
section
variable {X : Cx}
end
end Z

set_option Elab.async false
set_option linter.all false
set_option maxRecDepth 100000
set_option maxHeartbeats 4000000
namespace Z
open PySem PySem.Spec PyProof.Rows L2
/-! ### the forms that the printed derivations use -/
def visB (sc : Scope) (x : Str) : Bool := match sc.names.lookup x with
  | some .local => true
  | some .cell => true
  | some .free => true
  | _ => false
def locB (sc : Scope) (x : Str) : Bool := match sc.names.lookup x with
  | some .local => true
  | some .cell => true
  | _ => false
theorem vis_of {sc : Scope} {x : Str} (h : visB sc x = true) : Vis sc x := by
  unfold visB at h
  split at h
  · exact .inl (by assumption)
  · exact .inr (.inl (by assumption))
  · exact .inr (.inr (by assumption))
  · cases h
theorem loc_of {sc : Scope} {x : Str} (h : locB sc x = true) : Loc sc x := by
  unfold locB at h
  split at h
  · exact .inl (by assumption)
  · exact .inr (by assumption)
  · cases h
theorem hu_of {k : Nat} {A : Around} (r : RmZ k A) : A.units + 64 < cLine := by have := r.r.un; omega
section
variable {X : Cx} {k : Nat} {a b e o : Expr} {es : List Expr} {pos p pos' apos cpos : Pos} {x y z : Str} {me ma mb mo m1 m2 : ME} {mx : MX} {mA : MA} {mg : MG} {mt : MT}
theorem p_var (i : Nat) (hN : X.N[i]? = some x := by rfl) (hv : visB X.env.scope x = true := by rfl) (hd : (x == ("__debug__" : Str)) = false := by decide +kernel) (hcd : (x == ("__classdict__" : Str)) = false := by decide +kernel) : PE X (.Name x pos) (trE X.K (mVar i)) := d_var hN (vis_of hv) hd hcd
theorem p_gint {n : Int} (h : ∃ t, X.mg x = some (.int n t)) (hg : Gl X x := by rfl) (hd : (x == ("__debug__" : Str)) = false := by decide +kernel) : PE X (.Name x pos) (trE X.K (mC (.int n))) := by
  obtain ⟨t, e⟩ := h
  exact d_glob (v := .int n) hg ⟨_, e, ⟨t, rfl⟩⟩ (fun _ => .int n) hd
theorem p_gstr {n : Str} (h : ∃ t, X.mg x = some (.str n t)) (hg : Gl X x := by rfl) (hd : (x == ("__debug__" : Str)) = false := by decide +kernel) : PE X (.Name x pos) (trE X.K (mC (.str n))) := by
  obtain ⟨t, e⟩ := h
  exact d_glob (v := .str n) hg ⟨_, e, ⟨t, rfl⟩⟩ (fun _ => .str n) hd
theorem p_gtup {xs : List Str} (h : X.mg x = some (.ref (He.ga X.K x)) ∧ ∀ H, SqT X.K H (He.ga X.K x) (xs.map V.str)) (hg : Gl X x := by rfl) (hd : (x == ("__debug__" : Str)) = false := by decide +kernel) : PE X (.Name x pos) (trE X.K (mC (.tup (xs.map D.str)))) :=
  d_glob (v := .ref (He.ga X.K x)) hg ⟨_, h.1, rfl⟩ (fun g => .tup (h.2 g.F) (rep_strs xs)) hd
theorem p_set (i : Nat) (hN : X.N.Nodup) (h : PE X a (trE X.K me)) (hi : X.N[i]? = some x := by rfl) (hx : locB X.env.scope x = true := by rfl) (hs : swapsWith a (some (.Name x pos')) pos.line X.env = pure false := by rfl) (hf : X.fn x = true ∨ X.env.scope.names.lookup x = some .local := by first | exact .inl rfl | exact .inr rfl) :
    PS X (.Assign [.Name x pos'] a pos) (trS X.K (sSet i me)) := s_set hN hi (loc_of hx) h hs hf
theorem p_own (i : Nat) (hN : X.N.Nodup) (h : PE X a (trF X.K me)) (hi : X.N[i]? = some x := by rfl) (hx : locB X.env.scope x = true := by rfl) (hs : swapsWith a (some (.Name x pos')) pos.line X.env = pure false := by rfl) (hf : X.fn x = true ∨ X.env.scope.names.lookup x = some .local := by first | exact .inl rfl | exact .inr rfl) :
    PS X (.Assign [.Name x pos'] a pos) (trS X.K (sOwn i me)) := s_own hN hi (loc_of hx) h hs hf
theorem p_nm (i : Nat) (hN : X.N.Nodup) (hi : X.N[i]? = some x := by rfl) (hx : locB X.env.scope x = true := by rfl) (hf : X.fn x = true ∨ X.env.scope.names.lookup x = some .local := by first | exact .inl rfl | exact .inr rfl) : PG X (.Name x pos) (trG X.K (gNm i)) := g_nm hN hi (loc_of hx) hf
theorem p_cnm (i : Nat) (hN : X.N.Nodup) (hi : X.N[i]? = some x := by rfl) (hx : locB X.env.scope x = true := by rfl) (hf : X.fn x = true ∨ X.env.scope.names.lookup x = some .local := by first | exact .inl rfl | exact .inr rfl) : PG X (.Name x pos) (gName i) := pg_name hN hi (loc_of hx) hf
theorem nm_nil : Nms X [] [] := .nil
theorem nm_cons (i : Nat) {is : List Nat} (r : Nms X es is) (hi : X.N[i]? = some x := by rfl) (hx : locB X.env.scope x = true := by rfl) (hf : X.fn x = true ∨ X.env.scope.names.lookup x = some .local := by first | exact .inl rfl | exact .inr rfl) : Nms X (.Name x pos :: es) (i :: is) := .cons hi (loc_of hx) hf r
theorem p_ctup {is : List Nat} {kk : Nat} (n : Nat) (hN : X.N.Nodup) (r : Nms X es is) (hn : (assignEach es X.env).length = n := by rfl) (hst : (assignEach es X.env).findIdx? (·.1) = none := by rfl) (hc : X.calm = true := by rfl) : PG X (.Tuple es kk pos) (gTup X.K n (gNames is)) := pg_tup hc (gs_names hN r) hn hst
theorem p_app (i : Nat) (h : PE X a (trE X.K me)) (hN : X.N[i]? = some x := by rfl) (hv : visB X.env.scope x = true := by rfl) (hst : starEach [a] X.env = [(false, eval a X.env)] := by rfl)
    (hbase : attributeBase (.Name x p) "append" X.env (eval (.Name x p) X.env) = eval (.Name x p) X.env := by rfl)
    (hfew : ((backTo cpos (starEach [a] X.env)).all (fun x => !x.1) && (backToKw cpos (keywordEach [] X.env)).all (fun x => x.1.isSome) && decide ([a].length + ([] : List Keyword).length + (if ([] : List Keyword).isEmpty then 0 else 1) < 30)) = true := by rfl)
    (hline : (apos.endLine == cpos.line) = true := by rfl) (hs1 : starEach [a] X.env = (false, eval a X.env) :: starEach [] X.env := by rfl) (hpl : (backTo cpos (starEach [] X.env)).any (·.1) = false := by rfl) (hd : (x == ("__debug__" : Str)) = false := by decide +kernel) (hcd : (x == ("__classdict__" : Str)) = false := by decide +kernel)
    (hs : swapsWith (.Call (.Attribute (.Name x p) "append" apos) [a] [] cpos) none pos.line X.env = pure false := by rfl) : PS X (.Expr (.Call (.Attribute (.Name x p) "append" apos) [a] [] cpos) pos) (trS X.K (sApp i me)) :=
  s_app hN (vis_of hv) h hst (pe_bm PySem.F.plainAttrs_list PySem.F.slot_list_append PySem.F.type_list_append mt_append (pe_var hN (vis_of hv) hd hcd) (pa_cons h pa_nil hs1) hbase hfew hline hs1 hpl) hs
theorem p_par2 (i j : Nat) {px py pt : Pos} {kt k2 pt2} (hN : X.N.Nodup) (ha : PA X [a, b] (trX X.K mx)) (hi : X.N[i]? = some x := by rfl) (hj : X.N[j]? = some y := by rfl) (hij : i ≠ j := by decide)
    (hx : X.env.scope.names.lookup x = some .local := by rfl) (hy : X.env.scope.names.lookup y = some .local := by rfl)
    (hw : swappedStores [.Tuple [.Name x px, .Name y py] kt pt] (.Tuple [a, b] k2 pt2) X.env = pure (some [x, y]) := by rfl)
    (hs : swapsWithSole [.Tuple [.Name x px, .Name y py] kt pt] (.Tuple [a, b] k2 pt2) pos.line X.env = pure false := by rfl) (hc : X.calm = true := by rfl) :
    PS X (.Assign [.Tuple [.Name x px, .Name y py] kt pt] (.Tuple [a, b] k2 pt2) pos) (trS X.K (sPar [i, j] mx)) := s_par2 hc hN hi hj hij hx hy ha hw hs
theorem p_par3 (i j l : Nat) {c : Expr} {px py pz pt : Pos} {kt k2 pt2} (hN : X.N.Nodup) (ha : PA X [a, b, c] (trX X.K mx)) (hi : X.N[i]? = some x := by rfl) (hj : X.N[j]? = some y := by rfl) (hl : X.N[l]? = some z := by rfl) (hij : i ≠ j := by decide) (hil : i ≠ l := by decide) (hjl : j ≠ l := by decide)
    (hx : X.env.scope.names.lookup x = some .local := by rfl) (hy : X.env.scope.names.lookup y = some .local := by rfl) (hz : X.env.scope.names.lookup z = some .local := by rfl)
    (hw : swappedStores [.Tuple [.Name x px, .Name y py, .Name z pz] kt pt] (.Tuple [a, b, c] k2 pt2) X.env = pure (some [x, y, z]) := by rfl)
    (hs : swapsWithSole [.Tuple [.Name x px, .Name y py, .Name z pz] kt pt] (.Tuple [a, b, c] k2 pt2) pos.line X.env = pure false := by rfl) (hc : X.calm = true := by rfl) :
    PS X (.Assign [.Tuple [.Name x px, .Name y py, .Name z pz] kt pt] (.Tuple [a, b, c] k2 pt2) pos) (trS X.K (sPar [i, j, l] mx)) := s_par3 hc hN hi hj hl hij hil hjl hx hy hz ha hw hs
theorem p_nfld {c f x0 : Str} (c0 : Str) (hc : Cls X.K (He.ga X.K c)) (hn : NoAttr X.K (He.ga X.K c) f) (h : PE X a (trE X.K me)) (hN : X.N[0]? = some x0 := by rfl) (hv : visB X.env.scope x0 = true := by rfl) (hs : swapsWith a (some (.Attribute (.Name x0 p) f pos')) pos.line X.env = pure false := by rfl)
    (hd : (x0 == ("__debug__" : Str)) = false := by decide +kernel) (hcd : (x0 == ("__classdict__" : Str)) = false := by decide +kernel) : PS X (.Assign [.Attribute (.Name x0 p) f pos'] a pos) (trN X.K c (nFld f me)) := n_fld hN (vis_of hv) h hc hn hd hcd hs
/-! built-in functions -/
theorem bt_len : bootBuiltins "len" = some (.builtin "len") := by decide +kernel
theorem bt_all : bootBuiltins "all" = some (.builtin "all") := by decide +kernel
theorem bt_any : bootBuiltins "any" = some (.builtin "any") := by decide +kernel
theorem bt_max : bootBuiltins "max" = some (.builtin "max") := by decide +kernel
theorem bt_min : bootBuiltins "min" = some (.builtin "min") := by decide +kernel
theorem bt_abs : bootBuiltins "abs" = some (.builtin "abs") := by decide +kernel
theorem bt_divmod : bootBuiltins "divmod" = some (.builtin "divmod") := by decide +kernel
theorem bt_sorted : bootBuiltins "sorted" = some (.builtin "sorted") := by decide +kernel
theorem bt_repr : bootBuiltins "repr" = some (.builtin "repr") := by decide +kernel
theorem bt_isinstance : bootBuiltins "isinstance" = some (.builtin "isinstance") := by decide +kernel
theorem bt_int : bootBuiltins "int" = some (.type "int") := by decide +kernel
theorem bt_str : bootBuiltins "str" = some (.type "str") := by decide +kernel
theorem bt_bool : bootBuiltins "bool" = some (.type "bool") := by decide +kernel
theorem bt_tuple : bootBuiltins "tuple" = some (.type "tuple") := by decide +kernel
theorem bt_list : bootBuiltins "list" = some (.type "list") := by decide +kernel
end
end Z

set_option Elab.async false
set_option linter.all false
set_option maxRecDepth 100000
set_option maxHeartbeats 4000000
namespace Z
open PySem PySem.Spec PyProof.Rows L2
/-! ### what the head tells -/
structure TxOf (ex : List (PySem.W.Frag → Bool)) (fn : List DefZ) (K : PySem.W.Frag) (mg : Str → Option Value) : Prop where
  says : SaysZ (fun K => ex.all fun f => f K) fn K
  ns : ∃ h : Heap, K.In h ∧ h.Ns mainGlobals mg
section
variable {ex : List (PySem.W.Frag → Bool)} {fn : List DefZ} {K : PySem.W.Frag} {mg : Str → Option Value}
theorem TxOf.fact (T : TxOf ex fn K mg) (i : Nat) {f : PySem.W.Frag → Bool} (h : ex[i]? = some f) : f K = true := List.all_eq_true.mp T.says.ex_ok f (List.mem_of_getElem? h)
theorem TxOf.fun_ (T : TxOf ex fn K mg) (i : Nat) {d : DefZ} (h : fn[i]? = some d := by rfl) : ∃ fd, FunD K d.name d.qual d.params d.body d.scope (d.dvs K) [] (d.ad K) fd := T.says.at_ i h
theorem TxOf.glo (T : TxOf ex fn K mg) (i : Nat) {x : Str} (h : ex[i]? = some (fun K => (He.Fa.glo x).ok K) := by rfl) : mg x = some (.ref (He.ga K x)) := let ⟨_, X, G⟩ := T.ns; He.glo_ok X G (T.fact i h)
theorem TxOf.free (T : TxOf ex fn K mg) (i : Nat) {x : Str} (h : ex[i]? = some (fun K => (He.Fa.free x).ok K) := by rfl) : mg x = none := let ⟨_, X, G⟩ := T.ns; He.free_ok X G (T.fact i h)
theorem TxOf.gint (T : TxOf ex fn K mg) (i : Nat) {x : Str} {n : Int} (h : ex[i]? = some (fun K => (He.Fa.int x n).ok K) := by rfl) : ∃ t, mg x = some (.int n t) := let ⟨_, X, G⟩ := T.ns; He.int_ok X G (T.fact i h)
theorem TxOf.gstr (T : TxOf ex fn K mg) (i : Nat) {x z : Str} (h : ex[i]? = some (fun K => (He.Fa.str x z).ok K) := by rfl) : ∃ t, mg x = some (.str z t) := let ⟨_, X, G⟩ := T.ns; He.str_ok X G (T.fact i h)
theorem map_dvs (K : PySem.W.Frag) : ∀ xs : List Str, (xs.map He.Dv.str).map (He.Dv.v K) = xs.map V.str
  | [] => rfl
  | x :: r => by simp only [List.map_cons, map_dvs K r]; rfl
theorem TxOf.gtup (T : TxOf ex fn K mg) (i j : Nat) {x : Str} {xs : List Str} (h : ex[i]? = some (fun K => (He.Fa.glo x).ok K) := by rfl) (h2 : ex[j]? = some (fun K => He.tupB K x (xs.map He.Dv.str)) := by rfl) : mg x = some (.ref (He.ga K x)) ∧ ∀ H, SqT K H (He.ga K x) (xs.map V.str) :=
  ⟨T.glo i h, fun H => by
    have z := He.tupB_ok (T.fact j h2) H
    rw [map_dvs] at z
    exact z⟩
theorem TxOf.cls (T : TxOf ex fn K mg) (i : Nat) {x : Str} (h : ex[i]? = some (fun K => (He.Fa.cls x).ok K) := by rfl) : Cls K (He.ga K x) := He.cls_ok (T.fact i h)
theorem TxOf.noat (T : TxOf ex fn K mg) (i : Nat) {x f : Str} (h : ex[i]? = some (fun K => (He.Fa.noat x f).ok K) := by rfl) : NoAttr K (He.ga K x) f := He.noat_ok (T.fact i h)
theorem TxOf.meth (T : TxOf ex fn K mg) (i : Nat) {x m : Str} (h : ex[i]? = some (fun K => (He.Fa.meth x m).ok K) := by rfl) : Meth K (He.ga K x) m (He.ma K (He.ga K x) m) := He.meth_ok (T.fact i h)
theorem TxOf.mkr (T : TxOf ex fn K mg) (i : Nat) {x : Str} (h : ex[i]? = some (fun K => (He.Fa.mkr x).ok K) := by rfl) : Mk K (He.ga K x) (He.ma K (He.ga K x) "__init__") := He.mkr_ok (T.fact i h)
theorem TxOf.prop (T : TxOf ex fn K mg) (i : Nat) {c f : Str} (h : ex[i]? = some (fun K => propB K c f) := by rfl) : PropOf K (He.ga K c) f (He.ma K (He.ga K c) f) (At.ad K (.p c f)) := propB_ok (T.fact i h)
theorem TxOf.cmR (T : TxOf ex fn K mg) (i : Nat) {c m : Str} (h : ex[i]? = some (fun K => cmetB K c m) := by rfl) : ClX.CRead K (He.ga K c) (.type "type") := (cmetB_ok (T.fact i h)).1
theorem TxOf.cmM (T : TxOf ex fn K mg) (i : Nat) {c m : Str} (h : ex[i]? = some (fun K => cmetB K c m) := by rfl) : ClX.CMet K (He.ga K c) (.type "type") m (He.ma K (He.ga K c) m) (At.ad K (.cm c m)) := (cmetB_ok (T.fact i h)).2
theorem TxOf.isi (T : TxOf ex fn K mg) (i : Nat) {cs : List Str} {ts : List String} (h : ex[i]? = some (fun K => isiB K cs ts) := by rfl) : IsiF K cs ts := isiB_ok (T.fact i h)
end
section
variable {X : Cx} {st : List Stmt} {h : ExceptHandler} {hs : List ExceptHandler} {m : MS} {pos : Pos}
theorem p_try (b : PSs X.nox st (trS X.K m)) : PS X (.Try st (h :: hs) [] [] pos) (trS X.K m) := ps_try_thru0 b
end
end Z

set_option Elab.async false
set_option linter.all false
set_option maxRecDepth 100000
set_option maxHeartbeats 4000000
namespace Z
open PySem PySem.Spec PyProof.Rows L2
/-! ### the law's end -/
theorem rmz_caller {k : Nat} (h : Room k callerA) : RmZ k callerA := ⟨h, rfl⟩
/-- the script as a tracked thing that is only read -/
abbrev scrO (us : List Value) : Obj := { cls := .type "list", data := .seq us.toArray }
/-- none of the text's objects is a list -/
def noLstB (K : PySem.W.Frag) : Bool := K.all fun p => match p.2.cls with
  | .type t => !decide (t = "list")
  | _ => true
theorem noLst_ok {K : PySem.W.Frag} (h : noLstB K = true) {a : Addr} {us : List Value} (e : K.lookup a = some (scrO us)) : False := by
  have m : (a, scrO us) ∈ K := by
    clear h
    induction K with
    | nil => cases e
    | cons p r ih =>
      obtain ⟨b, o⟩ := p
      by_cases hb : a = b
      · subst hb
        simp only [List.lookup, beq_self_eq_true] at e
        cases e
        exact List.mem_cons_self
      · have hb' : (a == b) = false := by simpa using hb
        simp only [List.lookup, hb'] at e
        exact List.mem_cons_of_mem _ (ih e)
  have z := List.all_eq_true.mp h _ m
  have z : (!decide ("list" = "list")) = true := z
  simp at z
section
variable {P : Program} {w : World} {K : PySem.W.Frag} {mg mb : Str → Option Value} {k : Nat} {fa a : Addr} {fd : FuncData} {x : Str} {md : MD} {s1 : Shared} {us : List Value} {ns : List Int}
/-- from one abstract heap in which at most the script is tracked -/
theorem end_core (KX : K.In s1.heap) (hns : s1.heap.Ns mainGlobals mg) (hb : s1.heap.Ns builtinsNs mb) (hbb : ∀ x : Str, x ≠ "__name__" → mb x = bootBuiltins x) (nl : s1.heap.NoLimit) (hg : s1.gens = #[]) (ha : s1.heap.get? a = some (scrO us)) (hr : Room k callerA)
    (F : ∀ base : Heap, K.In base → base.Ns mainGlobals mg → FnZ P w K mg base NoX k fa fd [x] (spM K md)) (bind : ∀ (s : Shared) (u : Value), BindsTo s fd ⟨[u], []⟩ [(x, u)])
    {H : Hp} (hp : HOk P w H s1.heap) (one : ∀ b, H b ≠ none → b = a) (nK : H a ≠ none → K.lookup a = none) (fz : H a = none ∨ ∃ u, H a = some (.frz (scrO us) u))
    {g : G} (R : SRel K g H []) (rp : Rep K g (.ref a) (.lst (ns.map .int))) (e : ∃ s', md [.lst (ns.map .int)] [] = some (.bl true, s')) :
    codeAny (model P w) callerA (.call (.ref fa) ⟨[.ref a], []⟩) (fun r s' => r = .ok (.ret (.bool true)) ∧ OldK s1.heap s'.heap ∧ s'.os = s1.os ∧ AllBare s'.gens) s1 := by
  have noDict : ∀ {b : Addr} {o : Obj} {es : Array DictEntry} {ep : Nat}, s1.heap.get? b = some o → o.data = .dict es ep → H b = none := fun {b o es ep} e1 e2 => by
    refine Classical.byContradiction fun q => ?_
    have eb := one b q
    rw [eb, ha] at e1
    cases e1
    exact nomatch (show Data.seq us.toArray _ = Data.dict es ep from e2)
  have stay : ∀ {b : Addr} {m : Str → Option Value}, s1.heap.Ns b m → (hidT s1.heap H).Ns b m := fun {b m} ⟨o, es, ep, e1, e2, r⟩ => ⟨o, es, ep, hidT_get e1 (noDict e1 e2), e2, r⟩
  have KB : K.In (hidT s1.heap H) := fun b o e1 => hidT_get (KX b o e1) (Classical.byContradiction fun q => by
    have eb := one b q
    rw [eb] at e1 q
    rw [nK q] at e1
    cases e1)
  have M : Mod K mg (hidT s1.heap H) := ⟨KB, stay hns, ⟨mb, stay hb, hbb⟩, let ⟨mc, z1, z2⟩ := nl; ⟨mc, stay z1, z2⟩⟩
  have E0 : Env0 P w K mg (hidT s1.heap H) callerA [] s1 H := ⟨rfl, M, fun b o z => of_hidT z, Nat.le_of_eq (hidT_size _ _), trivial, (fun b z => nomatch (show b ∈ ([] : List Addr) from z)), hp, .of_eq hg⟩
  obtain ⟨s', e⟩ := e
  have sp : spM K md [.ref a] H (fun v _ => v = .bl true) fun _ _ _ => False := ⟨g, [], [.lst (ns.map .int)], .bl true, s', R, .cons rp .nil, e, fun v g' H' _ rv => by cases rv; rfl⟩
  refine codeAny_mono ((F _ KB (stay hns)).run callerA [] s1 H ⟨[.ref a], []⟩ [.ref a] [.ref a] _ _ (rmz_caller hr) E0 (bind s1 (.ref a)) (.cons (show RelV (V.ref a) (Value.ref a) from rfl) .nil) sp) fun r z h => ?_
  match r, h with
  | .ok (.ret u), h =>
    obtain ⟨v, H', os, bare, un, hp', rv, q⟩ := h
    have q : v = .bl true := q
    subst q
    obtain rfl : u = Value.bool true := rv
    refine ⟨rfl, OldK.of_keep fun b o e1 => ?_, os, bare⟩
    by_cases q : H b = none
    · exact un.keep b o e1 q (fun z => nomatch (show b ∈ ([] : List Addr) from z)) (by simp)
    · have eb := one b q
      subst eb
      rcases fz with z | ⟨u, z⟩
      · exact absurd z q
      · have z2 := un.frzs b _ _ z
        have e2 := (hp' b _ z2).1
        rw [ha] at e1
        cases e1
        exact e2
theorem end_call (KX : K.In s1.heap) (hns : s1.heap.Ns mainGlobals mg) (hb : s1.heap.Ns builtinsNs mb) (hbb : ∀ x : Str, x ≠ "__name__" → mb x = bootBuiltins x) (nl : s1.heap.NoLimit) (hg : s1.gens = #[]) (ha : s1.heap.get? a = some (scrO us)) (nl0 : noLstB K = true) (hi : IntsAre us ns) (hl : ns.length ≤ sizeLine) (hr : Room k callerA)
    (F : ∀ base : Heap, K.In base → base.Ns mainGlobals mg → FnZ P w K mg base NoX k fa fd [x] (spM K md)) (bind : ∀ (s : Shared) (u : Value), BindsTo s fd ⟨[u], []⟩ [(x, u)]) (e : ∃ s', md [.lst (ns.map .int)] [] = some (.bl true, s')) :
    codeAny (model P w) callerA (.call (.ref fa) ⟨[.ref a], []⟩) (fun r s' => r = .ok (.ret (.bool true)) ∧ OldK s1.heap s'.heap ∧ s'.os = s1.os ∧ AllBare s'.gens) s1 := by
  have rv := vals_ints hi
  have lenV := hi.length
  have ri : ∀ g : G, RepL K g (ns.map V.int) (ns.map D.int) := fun g => by
    clear rv lenV hi hl e
    induction ns with
    | nil => exact .nil
    | cons n r ih => exact .cons (.int n) ih
  cases hk : K.lookup a with
  | some o =>
    have e1 := (KX a o hk).symm.trans ha
    cases e1
    exact (noLst_ok nl0 hk).elim
  | none =>
    have hA : (fun b => if b = a then some (HO.frz (scrO us) (.lst (ns.map V.int))) else none : Hp) a = some (HO.frz (scrO us) (.lst (ns.map V.int))) := if_pos rfl
    refine end_core (g := ⟨fun b => if b = a then some (HO.frz (scrO us) (.lst (ns.map V.int))) else none, []⟩) (H := fun b => if b = a then some (.frz (scrO us) (.lst (ns.map V.int))) else none) KX hns hb hbb nl hg ha hr F bind ?_ ?_ (fun _ => hk) (.inr ⟨_, hA⟩) ?_ (.lst (.inr ⟨_, hA⟩) (ri _)) e
    · intro b u z
      by_cases hba : b = a
      · subst hba
        have z := hA.symm.trans z
        cases z
        exact ⟨ha, by rw [List.length_map]; exact hl, us, _, rv, ha⟩
      · exact nomatch ((if_neg hba).symm.trans z)
    · intro b z
      by_cases hba : b = a
      · exact hba
      · exact absurd (if_neg hba) z
    · exact ⟨fun b u z => .inl z, rfl, (fun n c z => nomatch z), (fun n m c z => nomatch z)⟩
/-- a law: what its def keeps, and that its mirror tells True at every script -/
theorem walk_Z {l : PySem.W.OpenLaw} {n k : Nat} {q : Program} {loose : List Str} {XP : (Str → Option Value) → Heap → Prop} {YP : World → Heap → Prop} {d : DefRec} {x : Str} {md : MD}
    (hn : l.most = some n) (hn2 : n ≤ sizeLine) (hdf : d.params.defaults = []) (hr : Room k callerA)
    (F : ∀ (w : World) (mg : Str → Option Value) (fa : Addr) (h : Heap), YP w h → h.Ns mainGlobals mg → mg d.name = some (.ref fa) → ∃ (K : PySem.W.Frag) (fd : FuncData), K.In h ∧ noLstB K = true ∧ (∀ (s : Shared) (u : Value), BindsTo s fd ⟨[u], []⟩ [(x, u)]) ∧
      ∀ base : Heap, K.In base → base.Ns mainGlobals mg → FnZ l.prog w K mg base NoX k fa fd [x] (spM K md))
    (plain : ∀ ns : List Int, ns.length ≤ n → (∀ z ∈ ns, Builtin.Int.intBits z ≤ 1048576) → ∃ s', md [.lst (ns.map .int)] [] = some (.bl true, s')) :
    PySem.W.WalkO q loose XP YP l.row.toRowW d [] (fun f vs => PySem.call f vs) :=
  Att.attach_callB hn hdf fun w s0 s1 mg mb fa o pm cd doc a vs ns G Y ho hd hcd hmg hobj hints hlen hbits hg => by
    obtain ⟨K, fd, KX, nl0, hb, hF⟩ := F w mg fa _ Y G.T.g hmg
    exact end_call KX G.T.g G.T.b G.T.builtins G.T.nolimit hg hobj nl0 hints (Nat.le_trans hlen hn2) hr hF hb (plain ns hlen hbits)
end
end Z
namespace Z
open PySem PySem.Spec PyProof.Rows L2
theorem fun_one {K : PySem.W.Frag} {x qual : Str} {params : Arguments} {body : List Stmt} {scope : Scope} {dvs : List V} {f : Addr} {fd fd' : FuncData} (F : FunD K x qual params body scope dvs [] f fd) (F' : FunD K x qual params body scope dvs [] f fd') : fd = fd' := by
  obtain ⟨oc, od, dV, kV, doc, pm, an, cdv, ct, osl, rfl, lk, _, _, _⟩ := F.ex
  obtain ⟨oc', od', dV', kV', doc', pm', an', cdv', ct', osl', rfl, lk', _, _, _⟩ := F'.ex
  have e := lk.symm.trans lk'
  cases e
  rfl
theorem law_fd {P : Program} {w : World} {K : PySem.W.Frag} {mg : Str → Option Value} {k : Nat} {d : DefZ} {x : Str} {sp : Sp} {fa : Addr} (h0 : ∃ fd, FunD K d.name d.qual d.params d.body d.scope (d.dvs K) [] (d.ad K) fd) (hd : d.dfl = []) (hf : fa = d.ad K)
    (hb : ∀ (kV doc pm : Value) (an : Option Addr) (cdv ct : Value) (us : List Value), us.length = [x].length → bindArgs (PySem.W.fnOf d.name d.qual d.params d.body d.scope .none kV doc pm an cdv ct) ⟨us, []⟩ = pure ([x].zip us))
    (h : ∀ base : Heap, DfZ P w K mg base k d [x] sp) : ∃ fd : FuncData, (∀ (s : Shared) (u : Value), BindsTo s fd ⟨[u], []⟩ [(x, u)]) ∧ ∀ base : Heap, K.In base → base.Ns mainGlobals mg → FnZ P w K mg base NoX k fa fd [x] sp := by
  subst hf
  obtain ⟨fd, F⟩ := h0
  have e0 : d.dvs K = [] := by unfold DefZ.dvs; rw [hd]; rfl
  have F1 := F
  rw [e0] at F1
  refine ⟨fd, fun s u => FunD.bindsA (ps := [x]) F1 hb s [u] rfl, fun base _ _ => ?_⟩
  obtain ⟨fd', F', FZ, _⟩ := (h base).ex
  have e := fun_one F F'
  subst e
  exact FZ
end Z

set_option Elab.async false
set_option linter.all false
set_option maxRecDepth 100000
set_option maxHeartbeats 4000000
namespace Z
open PySem PySem.Spec PyProof.Rows L2
section
variable {X : Cx} {a b : Expr} {ma mb : ME} {d : DefZ} {ps : List Str} {k j : Nat} {md : MD} {c : Str} {pos : Pos}
/-- x == y, two instances of c -/
def ownEq (c : Str) (md : MD) : D → D → S → Option (D × S) := fun a b s => match ofC c a && ofC c b with
  | true => match md [a, b] s with
    | some (.bl r, s') => some (.bl r, s')
    | _ => none
  | false => none
theorem op_ownEq (F : DfZ X.prog X.w X.K X.mg X.base k d ps (spM X.K md)) (hr : RmZ k X.A) (hm : Meth X.K (He.ga X.K c) "__eq__" (d.ad X.K)) : OpR X (compareOp .Eq) (rOpM X.K (ownEq c md)) := by
  intro pins s σ H x y v u Q I rx ry ⟨g, s0, a, b, r, s', R, ra, rb, hf, kk⟩
  unfold ownEq at hf
  split at hf
  · rename_i ho
    rw [Bool.and_eq_true] at ho
    obtain ⟨fs, rfl⟩ := ofC_some ho.1
    obtain ⟨gs, rfl⟩ := ofC_some ho.2
    split at hf
    · rename_i t s1 hmd
      cases hf
      cases id ra with
      | obj hF rF =>
        cases id rb with
        | obj hF2 rF2 =>
          obtain rfl : v = Value.ref _ := rx
          obtain rfl : u = Value.ref _ := ry
          obtain ⟨ox, od, inst⟩ := inst_of I (ins_H R hF)
          obtain ⟨ox2, od2, inst2⟩ := inst_of I (ins_H R hF2)
          obtain ⟨m, fr⟩ := I.fr
          have hu : X.A.units < cLine := by have := hr.r.un; omega
          show wpAny (model X.prog X.w) X.A (richCompare .Eq (.ref _) (.ref _)) (EP X pins σ Q) X.xe s
          refine PySem.W.cmp_K (op := .Eq) (tb := .ref (He.ga X.K c)) hu fr I.ok.mod.kin inst inst2.type (by simp [PySem.W.notFirst]) hm.at_ hm.fn (wpAny_mono (F.callAt hr I.ok.frames (pins := pins) (σ := σ) I (show Vals [V.ref _, V.ref _] [Value.ref _, Value.ref _] from .cons rfl (.cons rfl .nil)) (Q := fun v H' => v = .bl t ∧ Q (.bl t) H') ⟨g, s0, _, _, _, R, .cons ra (.cons rb .nil), hmd, fun v g' H' st rv => ?_⟩) (fun w s2 ⟨z, H1, I1, rz, ez, q⟩ => ?_) fun _ _ z => z)
          · cases rv
            exact ⟨rfl, kk _ g' H' st (.bl _)⟩
          · subst ez
            obtain rfl : w = Value.bool t := rz
            exact ⟨.bl t, H1, I1, rfl, q⟩
    · cases hf
  · cases hf
end
/-! ### d.get(k, x) -/
def mGet (mo ma mb : ME) : ME := fun e s => bnd (mo e s) fun d s => bnd (ma e s) fun kd s => bnd (mb e s) fun x s => match d with
  | .dic kvs => match keyD kd with
    | some k => some ((lookD kvs k).getD x, s)
    | none => none
  | _ => none
section
variable {X : Cx} {o a b : Expr} {mo ma mb : ME} {apos pos : Pos}
end
/-! ### {} -/
def mDic0 : ME := fun _ s => some (.dic [], s)
theorem f_dic0 {X : Cx} {pos : Pos} : PE X (.Dict [] [] pos) (trF X.K mDic0) := PE.imp pe_dnewK fun σ H Q ⟨g, e, s, d, s', R, E, hm, k⟩ => by
  cases hm
  intro p hp
  obtain ⟨z1, z2, z3, z4⟩ := (Step.refl R).new1 (u := .dK []) hp
  exact k p g _ z1 z2 z3 z4 ⟨_, upd_same, .nil⟩
section
variable {Q : D → S → Prop} {s : S}
theorem wp_ownEq {c : Str} {md : MD} {fs gs : List (Str × D)} (h : ∃ r s1, md [.obj c fs, .obj c gs] s = some (r, s1) ∧ ∃ k, r = .bl k ∧ Q (.bl k) s1) : ∃ d s', ownEq c md (.obj c fs) (.obj c gs) s = some (d, s') ∧ Q d s' := by
  obtain ⟨r, s1, h1, kk, rfl, h2⟩ := h
  unfold ownEq
  have : ofC c (.obj c fs) = true := by simp [ofC]
  have : ofC c (.obj c gs) = true := by simp [ofC]
  exact ⟨.bl kk, s1, by simp [*], h2⟩
end
end Z

set_option Elab.async false
set_option linter.all false
set_option maxRecDepth 100000
set_option maxHeartbeats 4000000
namespace SrtO
open PySem PyProof.Rows Srt
/-! ### sorted of a tuple -/
section
variable {prog : Program} {w : World} {A : Around} {E : Value → Shared → Prop} {s : Shared}
theorem tup_collect {tp : Addr} {zs : List Value} {Q : List Value → Shared → Prop} (ht : s.heap.IsTuple tp zs.toArray) (hlen : zs.length ≤ sizeLine)
    (q : Q zs { s with heap := (s.heap.push (seqObj "list" #[] 0)).update s.heap.objs.size (Obj.mapSeq (· ++ zs.toArray)) }) : wpAny (model prog w) A (collect (.ref tp)) Q E s := by
  obtain ⟨ob, e1, e2, ep, e3⟩ := id ht
  have e4 : (s.heap.push (seqObj "list" #[] 0)).get? tp = some ob := Heap.get?_push_of_some _ e1
  have e5 : (s.heap.push (seqObj "list" #[] 0)).get? s.heap.objs.size = some (seqObj "list" #[] 0) := Heap.get?_push_size _ rfl
  have two : (Value.type "tuple" == Value.type "list" || Value.type "tuple" == Value.type "tuple") = true := by rfl
  have room : (#[] ++ zs.toArray : Array Value).size ≤ sizeLine + 1 := by simp only [Array.size_append, List.size_toArray, List.length_nil]; omega
  unfold collect
  refine wpAny_bind (wpAny_runValue (codeAny_builtin entry_proto_collect' ?_))
  show wpAny _ _ (do again (.builtin "list.__iadd__" ⟨[← newList [], .ref tp], []⟩)) _ _ s
  refine wpAny_bind (wpAny_newList (wpAny_pure ⟨Code.quiet_builtin _ (by decide +kernel), codeAny_builtin entry_list_iadd' ?_⟩))
  show wpAny _ _ (Builtin.List.listExtendWith (.ref s.heap.objs.size) (.ref tp) (.ref s.heap.objs.size)) _ _ { s with heap := s.heap.push (seqObj "list" #[] 0) }
  unfold Builtin.List.listExtendWith
  refine wpAny_bind (wpAny_typeOf (T := "tuple") ⟨ob, e4, e2⟩ ?_)
  rw [if_pos (by rw [Bool.or_assoc, two]; simp)]
  refine wpAny_bind (listItems_at e4 e3 (wpAny_bind (listItems_at e5 rfl ?_)))
  rw [if_neg (by simp)]
  refine wpAny_bind (listUpdate_at e5 rfl (wpAny_pure ?_) (Nat.zero_le _) room)
  show wpAny (model prog w) A (do
      match (← load s.heap.objs.size).data with
      | .seq ws _ => pure ws.toList
      | _ => unsupported "internal:collect") Q E { s with heap := (s.heap.push (seqObj "list" #[] 0)).update s.heap.objs.size (Obj.mapSeq (· ++ zs.toArray)) }
  refine wpAny_bind (wpAny_load (get?_update_seq e5 _) ?_)
  show wpAny _ _ (pure ((#[] : Array Value) ++ zs.toArray).toList) Q E _
  have back : ((#[] : Array Value) ++ zs.toArray).toList = zs := by simp
  rw [back]
  exact wpAny_pure q
theorem tup_sorted {tp : Addr} {zs : List Value} {lt : Value → Value → Bool} {Q : Value → Shared → Prop} (O : Swo lt) (ht : s.heap.IsTuple tp zs.toArray) (hlen : zs.length ≤ sizeLine)
    (hS : 2 ≤ zs.length → ∀ (h₁ : Heap) (a : Addr), h₁.get? a = some (seqObj "list" zs.toArray 0) → (∀ b o, s.heap.get? b = some o → b ≠ a ∧ h₁.get? b = some o) → SortableO prog w A.in1.in1 { s with heap := h₁ } a zs lt)
    (q : ∀ out : List Value, Srtd lt out → Stb lt out zs → Q (.ref (s.heap.objs.size + 1)) { s with heap := sortedAll s.heap zs out.toArray }) :
    wpAny (model prog w) A (call (.builtin "sorted") [.ref tp]) Q E s := by
  obtain ⟨hc, hcd⟩ : ∃ hc, hc = (s.heap.push (seqObj "list" #[] 0)).update s.heap.objs.size (Obj.mapSeq (· ++ zs.toArray)) := ⟨_, rfl⟩
  have size_c : hc.objs.size = s.heap.objs.size + 1 := by rw [hcd, Heap.size_update, size_push']
  have at_new : (hc.push (seqObj "list" zs.toArray 0)).get? (s.heap.objs.size + 1) = some (seqObj "list" zs.toArray 0) := by rw [← size_c]; exact Heap.get?_push_size _ rfl
  have stays : ∀ b o, s.heap.get? b = some o → b ≠ s.heap.objs.size + 1 ∧ (hc.push (seqObj "list" zs.toArray 0)).get? b = some o := fun b o z => by
    have lt1 : b < s.heap.objs.size := Heap.lt_size z
    refine ⟨Nat.ne_of_lt (Nat.lt_succ_of_lt lt1), Heap.get?_push_of_some _ ?_⟩
    rw [hcd, Heap.get?_update_ne _ _ _ _ (Nat.ne_of_lt lt1)]
    exact Heap.get?_push_of_some _ z
  refine Calls.call_function_entry kind_sorted plain_sorted entry_sorted (args_sorted1 _) ?_
  unfold Builtin.«sorted»
  refine wpAny_bind (m := checkCount "sorted" 1 1 _) (wpAny_pure (wpAny_bind (tup_collect ht hlen (wpAny_bind (wpAny_newList ?_ hlen)))))
  rw [← hcd]
  show wpAny _ _ _ _ _ { s with heap := hc.push (seqObj "list" zs.toArray 0) }
  rw [show ({ s with heap := hc } : Shared).heap.objs.size = s.heap.objs.size + 1 from size_c]
  refine wpAny_bind (wpAny_holding (wpAny_call_entry slot_list_sort ⟨_, at_new, rfl⟩ entry_list_sort (list_sort_ord O at_new hlen (fun h2 => hS h2 _ _ at_new stays) fun out o1 o2 => ⟨_, rfl, ?_⟩) (args_list_sort _)))
  refine wpAny_pure ⟨_, rfl, ?_⟩
  have r := q out o1 o2
  unfold sortedAll at r
  rw [← hcd] at r
  exact r
end
end SrtO
namespace Z
open PySem PySem.Spec PyProof.Rows L2
section
variable {X : Cx}
/-- sorted(a tuple) -/
def sortedTD : List D → Option D
  | [.tup ds] => if sameK ds then some (.lst (sortL ds)) else none
  | _ => none
theorem cr_sortT : CallR X (.builtin "sorted") (rF X.K fun ds s => lft (sortedTD ds) s) := fun pins s σ H xs us Q I r h => by
  obtain ⟨g, s0, ds, d, s', R, rl, hm, k⟩ := h
  obtain ⟨h4, h5⟩ := lft_some hm
  dsimp only at h4 h5
  subst h5
  unfold sortedTD at h4
  split at h4
  · rename_i es
    split at h4
    · rename_i hk
      cases h4
      cases rl with
      | cons r1 rl =>
        cases rl
        cases r1 with
        | @tup a vs _ q rr =>
          obtain ⟨its, rv, hl, hz⟩ := I.tuple (sqT_H R q)
          rw [Vals.ref1 r]
          have O := sameK_one hk
          have T := itms_of I R rv rr O.sc
          have hlen := rv.length
          refine SrtO.tup_sorted (lt := fun v u => ltS (keyZ s.heap v) (keyZ s.heap u)) ⟨fun x y => ltS_swo.asym _ _, fun x y z => ltS_swo.tr _ _ _⟩ hl (by rw [← hlen]; exact hz) (fun h2 h1 a' ha kk => ?_) fun out o1 o2 => ?_
          · intro h' keep
            have hT' : Itms h' its es := (T.keep (h' := h1) fun b o e _ => (kk b o e).2).keep fun b o e c => keep b o (fun z => by
              subst z
              have e' : some o = some (PyProof.Rows.seqObj "list" its.toArray 0) := e.symm.trans ha
              cases e'
              exact absurd (Value.type.inj c) (by decide)) e
            obtain ⟨κ, hκ, hC⟩ := cmp_Z (prog := X.prog) (w := X.w) (A := X.A.in1.in1) (s := { s with heap := h' }) O hT' h2
            refine ⟨κ, hκ, fun p q hp hq => ?_⟩
            have e : ∀ v ∈ its, keyZ h' v = keyZ s.heap v := fun v hv => by
              obtain ⟨i, hi⟩ := List.mem_iff_getElem?.mp hv
              have a1 := congrArg (fun l => l[i]?) T.keys
              have a2 := congrArg (fun l => l[i]?) hT'.keys
              simp only [List.getElem?_map, hi, Option.map_some] at a1 a2
              rw [← a1] at a2
              exact Option.some.inj a2
            have := hC p q hp hq
            show wpAny _ _ _ (fun r s' => s' = _ ∧ r = ltS (keyZ s.heap p.1) (keyZ s.heap q.1)) _ _
            rw [← e p.1 hp, ← e q.1 hq]
            exact this
          · obtain ⟨ys, y1, y2⟩ := back_of I R rv rr O.sc out fun v hv => o2.perm.mem_iff.mp hv
            have hperm : (out.map (keyZ s.heap)).Perm es := by
              have := o2.perm.map (keyZ s.heap)
              rw [T.keys] at this
              exact this
            have hs : SrtO.Srtd ltS (out.map (keyZ s.heap)) := List.pairwise_map.mpr o1
            have he := sortL_eq hperm hs O.inj
            rw [← he] at y2
            obtain ⟨ep, he'⟩ := PyProof.Rows.sortedAll_at s.heap its out.toArray
            have hyl : ys.length ≤ sizeLine := by
              rw [y1.length, o2.perm.length_eq, ← hlen]; exact hz
            have hn := I.hok.fresh (Nat.le_succ s.heap.objs.size)
            obtain ⟨z1, z2, z3, z4⟩ := (Step.refl R).new1 (u := .lst ys) hn
            exact ⟨.ref _, upd H (s.heap.objs.size + 1) (.lst ys), I.laid (t' := s.toks) (fun _ _ => PyProof.Rows.sortedAll_old) (Nat.le_succ _) ⟨hyl, out, ep, y1, he'⟩, rfl, k _ g _ z1 z2 z3 z4 ⟨ys, upd_same, y2⟩⟩
    · cases h4
  · cases h4
end
end Z

set_option Elab.async false
set_option linter.all false
set_option maxRecDepth 100000
set_option maxHeartbeats 4000000
namespace Z
open PySem PySem.Spec PyProof.Rows L2
/-! ### dict(list of pairs) -/
def pairD : D → Option (Key × D)
  | .tup [k, v] => (keyD k).map fun kk => (kk, v)
  | _ => none
def pairsD : List D → Option (List (Key × D))
  | [] => some []
  | d :: ds => match pairD d with
    | some p => (pairsD ds).map (p :: ·)
    | none => none
def mergeD (kvs : List (Key × D)) : List (Key × D) := kvs.foldl (fun a p => putD a p.1 p.2) []
def dictPD : List D → Option D
  | [.lst ds] => (pairsD ds).map fun kvs => .dic (mergeD kvs)
  | _ => none
section
variable {X : Cx} {K : PySem.W.Frag} {g : G} {H : Hp} {s : S}
end
end Z

set_option Elab.async false
set_option linter.all false
set_option maxRecDepth 100000
set_option maxHeartbeats 4000000
namespace Z
open PySem PySem.Spec PyProof.Rows L2
/-! ### t[::-1], xs[::-1] -/
section
variable {prog : Program} {w : World} {A : Around} {E : Value → Shared → Prop} {s : Shared}
theorem sliceApplied_rev {sl : Addr} {vl vu vs : Value} {n : Nat} {Q : Int × Int × Nat → Shared → Prop} (hs : s.heap.IsSliceOf sl vl vu vs) (pl : IsPart vl none) (pu : IsPart vu none) (ps : IsPart vs (some (-1)))
    (h : Q ((n : Int) - 1, -1, n) s) : wpAny (model prog w) A (Builtin.Slice.sliceApplied (.ref sl) (pure (n : Int))) Q E s := by
  obtain ⟨os, hos, hcs, hds⟩ := id hs
  unfold Builtin.Slice.sliceApplied Builtin.Slice.sliceFields
  refine wpAny_bind (wpAny_bind (wpAny_field hos hds (x := vl) rfl (wpAny_bind (wpAny_field hos hds (x := vu) rfl (wpAny_bind (wpAny_field hos hds (x := vs) rfl (wpAny_pure ?_)))))))
  refine wpAny_bind (HT.slicePart_ ps ?_)
  show wpAny _ _ (if ((-1 : Int) == 0) = true then _ else _) _ _ s
  rw [if_neg (by decide)]
  refine wpAny_bind (HT.slicePart_ pl (wpAny_bind (HT.slicePart_ pu (wpAny_bind (wpAny_pure ?_)))))
  have e : Builtin.Slice.slicePlaces ((n : Int) - 1) (-1) (-1) = n := by
    unfold Builtin.Slice.slicePlaces
    rw [if_neg (by omega), show -(-1 : Int) = 1 by rfl, Int.ediv_one]
    split <;> omega
  show wpAny _ _ (pure ((n : Int) - 1, (-1 : Int), Builtin.Slice.slicePlaces ((n : Int) - 1) (-1) (-1))) _ _ s
  rw [e]
  exact wpAny_pure h
theorem pick_rev (xs : Array Value) : ((List.range xs.size).filterMap fun (k : Nat) => xs[(((xs.size : Int) - 1) + (k : Int) * (-1)).toNat]?).toArray = xs.toList.reverse.toArray := by
  congr 1
  have e : (List.range xs.size).filterMap (fun (k : Nat) => xs[(((xs.size : Int) - 1) + (k : Int) * (-1)).toNat]?) = ((List.range xs.size).map fun k => xs.size - 1 - k).filterMap (xs[·]?) := by
    rw [List.filterMap_map]
    have : ∀ l : List Nat, (∀ k ∈ l, k < xs.size) → l.filterMap (fun (k : Nat) => xs[(((xs.size : Int) - 1) + (k : Int) * (-1)).toNat]?) = l.filterMap ((xs[·]?) ∘ fun k => xs.size - 1 - k) := by
      intro l hl
      induction l with
      | nil => rfl
      | cons a l ih =>
        have ha := hl a (by simp)
        have e : (((xs.size : Int) - 1) + (a : Int) * (-1)).toNat = xs.size - 1 - a := by omega
        rw [List.filterMap_cons, List.filterMap_cons, ih fun k hk => hl k (by simp [hk]), e]
        rfl
    exact this _ fun k hk => List.mem_range.mp hk
  rw [e, PySem.W.krv_range, List.filterMap_reverse, PySem.W.krv_all]
theorem getItem_tuple_rev {t sl : Addr} {items : Array Value} {vl vu vs : Value} {Q : Value → Shared → Prop} (ht : IsTup s.heap t items) (hs : s.heap.IsSliceOf sl vl vu vs) (pl : IsPart vl none) (pu : IsPart vu none) (ps : IsPart vs (some (-1)))
    (h : Q (.ref s.heap.objs.size) { s with heap := s.heap.push { cls := .type "tuple", data := .seq items.toList.reverse.toArray } })
    (hsz : items.size ≤ sizeLine) : wpAny (model prog w) A (getItem (.ref t) (.ref sl)) Q E s := by
  have htake : sizeOk (.seq items.toList.reverse.toArray) := by
    show items.toList.reverse.toArray.size ≤ sizeLine
    rw [List.size_toArray, List.length_reverse, Array.length_toList]
    omega
  obtain ⟨os, hos, hcs, hds⟩ := id hs
  have hTs : s.TypeIs (.ref sl) "slice" := ⟨os, hos, hcs⟩
  unfold getItem
  try with_reducible refine wpAny_holding ?_
  first | refine wpAny_bind (wpAny_pure ?_) | skip
  refine wpAny_bind (wpAny_sequenceKey ht.typeIs (by decide) ?_)
  refine wpAny_bind (wpAny_callSpecial?_slot (name := Str.ofString "__getitem__") ht.typeIs PyProof.Rows.slot_tuple_getitem
    (wpAny_call_entry PyProof.Rows.slot_tuple_getitem ht.typeIs entry_tuple_getitem ?_ (args_tuple_getitem _ _)))
  show wpAny _ _ (Builtin.Tuple.tupleItemsOf (.ref t) >>= _) _ _ s
  refine wpAny_bind (tupleItemsOf_ ht ?_)
  refine wpAny_bind (wpAny_typeOf hTs ?_)
  rw [if_pos (by decide)]
  refine wpAny_bind (sliceApplied_rev hs pl pu ps ?_)
  have hno : ¬ ((((items.size : Int) - 1) == 0 && (-1 : Int) == 1 && items.size == items.size) = true) := by
    intro q
    rw [Bool.and_eq_true, Bool.and_eq_true] at q
    have := q.1.2
    revert this
    decide
  show wpAny _ _ (if (((items.size : Int) - 1) == 0 && (-1 : Int) == 1 && items.size == items.size) = true then _ else _) _ _ s
  rw [if_neg hno, pick_rev]
  first
    | exact wpAny_bind (m := Builtin.Tuple.tupleExact _) (wpAny_newObj_type (wpAny_pure ⟨_, rfl, wpAny_pure h⟩) htake)
    | exact wpAny_bind (m := Builtin.Tuple.tupleExact _) (wpAny_newObj_type (wpAny_bind (wpAny_pure (wpAny_pure ⟨_, rfl, wpAny_pure h⟩))) htake)
    | exact wpAny_bind (wpAny_bind (m := Builtin.Tuple.tupleExact _) (wpAny_newObj_type (wpAny_pure (wpAny_pure ⟨_, rfl, wpAny_pure h⟩)) htake))
    | exact wpAny_bind (wpAny_bind (m := Builtin.Tuple.tupleExact _) (wpAny_newObj_type (wpAny_pure ⟨_, rfl, wpAny_pure h⟩) htake))
end
section
variable {X : Cx}
def tRevT (K : PySem.W.Frag) (te : TE) : TE := fun σ H Q => te σ H fun x H1 => ∃ a xs, x = .ref a ∧ SqT K H1 a xs ∧ ∀ p, H1 p = none → Q (.ref p) (upd H1 p (.tup xs.reverse))
theorem pe_revT {e : Expr} {te : TE} {k : Nat} {p1 p2 p3 pos : Pos} (he : PE X e te) : PE X (.Subscript e (.Slice none none (some (.UnaryOp .USub (.Constant (.int 1) k p1) p2)) p3) pos) (tRevT X.K te) := by
  refine ⟨fun pins s σ H Q I h => ?_⟩
  refine Subscript_ (thn (he.run pins s σ H _ I h) fun v s1 ⟨x, H1, I1, r1, q1⟩ => ?_)
  obtain ⟨a, xs, ex, hx, q⟩ := q1
  subst ex
  cases r1
  have hst : PO X (some (.UnaryOp .USub (.Constant (.int 1) k p1) p2)) (tPart (tUn (rU fun i => .int (-i)) (tC (.int 1)))) := po_some (pe_un un_neg pe_int)
  refine wpAny_Slice (thn (po_none.run pins s1 σ H1 (fun o H2 => o = none ∧ H2 = H1) I1 ⟨rfl, rfl⟩) fun vl s2 ⟨l, H2, I2, pl, el, e2⟩ => ?_)
  subst el e2
  refine thn (po_none.run pins s2 σ H2 (fun o H3 => o = none ∧ H3 = H2) I2 ⟨rfl, rfl⟩) fun vu s3 ⟨u, H3, I3, pu, eu, e3⟩ => ?_
  subst eu e3
  refine thn (hst.run pins s3 σ H3 (fun o H4 => o = some (-1) ∧ H4 = H3) I3 ⟨1, rfl, -1, rfl, rfl, rfl⟩) fun vs s4 ⟨o, H4, I4, ps, eo, e4⟩ => ?_
  subst eo e4
  have I5 : Inv X pins σ H4 { s4 with heap := s4.heap.push { cls := .type "slice", data := .fields #[vl, vu, vs] } } := I4.kept (t' := s4.toks) fun b ob q => Heap.get?_push_of_some _ q
  obtain ⟨its, r, ht, hz⟩ := I5.tuple hx
  have hlen := r.length
  show wpAny (model X.prog X.w) X.A (subscriptTail e (.Slice none none (some (.UnaryOp .USub (.Constant (.int 1) k p1) p2)) p3) (.ref a) (.ref s4.heap.objs.size)) (EP X pins σ Q) X.xe { s4 with heap := s4.heap.push { cls := .type "slice", data := .fields #[vl, vu, vs] } }
  refine tail_any (ops := [.ref a, .ref s4.heap.objs.size]) ht.typeIs (PyProof.Rows.slot_tuple_getitem.lookup) ?_ (by with_unfolding_all rfl)
  refine getItem_tuple_rev ht (Heap.IsSliceOf.new _ vl vu vs) pl pu ps ?_ (by rw [List.size_toArray]; omega)
  refine ⟨.ref _, _, I5.laid (t' := s4.toks) (o := .tup xs.reverse) (fun b ob q => Heap.get?_push_of_some _ q) (Nat.le_refl _) ?_, rfl, q _ (I5.hok.fresh (Nat.le_refl _))⟩
  exact ⟨by rw [List.length_reverse]; exact hz, _, r.reverse, IsTup.new _ _⟩
def mRev (f : D → Option D) (m : ME) : ME := fun e s => bnd (m e s) fun d s => lft (f d) s
def revT : D → Option D
  | .tup ds => some (.tup ds.reverse)
  | _ => none
def revLD : D → Option D
  | .lst ds => some (.lst ds.reverse)
  | _ => none
theorem repL_reverse {K : PySem.W.Frag} {g : G} : ∀ {vs : List V} {ds : List D}, RepL K g vs ds → RepL K g vs.reverse ds.reverse
  | _, _, .nil => .nil
  | _, _, .cons r rs => by
    rw [List.reverse_cons, List.reverse_cons]
    exact (repL_reverse rs).append (.cons r .nil)
theorem d_revT {a : Expr} {me : ME} {k : Nat} {p1 p2 p3 pos : Pos} (h : PE X a (trE X.K me)) : PE X (.Subscript a (.Slice none none (some (.UnaryOp .USub (.Constant (.int 1) k p1) p2)) p3) pos) (trE X.K (mRev revT me)) := PE.imp (pe_revT h) fun σ H Q ⟨g, e, s, d, s', R, E, hm, kk⟩ => by
  obtain ⟨x, s1, h1, hm1⟩ := bnd_some hm
  obtain ⟨h4, h5⟩ := lft_some hm1
  dsimp only at h4 h5
  subst h5
  refine ⟨g, e, s, x, s', R, E, h1, fun v g1 H1 st1 rv => ?_⟩
  unfold revT at h4
  split at h4
  · cases h4
    cases rv with
    | tup hl r =>
      refine ⟨_, _, rfl, sqT_H st1.rel hl, fun p hp => ?_⟩
      obtain ⟨g4, st4, r4⟩ := fresh_tup st1.rel hp (repL_reverse r)
      exact kk _ _ _ (st1.trans st4) r4
  · cases h4
end
/-! ### x != y of two instances whose class has no __ne__ -/
section
open PySem.W PySem.Sem PySem.Builtin
variable {prog : Program} {w : World} {A : Around} {E : Value → Shared → Prop} {s : Shared} {K : Frag} {x C L f : Addr} {h₀ : Heap} {m : Str → Option Value} {ox : Obj} {od : Option Obj} {b tb : Value}
theorem objNe_K {Q : Fin → Shared → Prop} (hu : A.units < cLine) (X : K.In s.heap) (I : InstAt s.heap x ox C od) (hs : findIn K (.ref C) "__eq__" = some (some (.ref f))) (hf : isFn K (.ref f) = true)
    (hcall : wpAny (model prog w) A (call (.ref f) [.ref x, b]) (fun v s' => ∃ t, v = .bool t ∧ Q (.done (.ret (.bool (!t)))) s') E s) :
    wpAny (model prog w) A (Builtin.«object.__ne__» ⟨[.ref x, b], []⟩) Q E s := by
  unfold Builtin.«object.__ne__»
  refine wpAny_bind (m := slotArgs "__ne__" 1 ⟨[.ref x, b], []⟩) (wpAny_pure ?_)
  dsimp only
  refine wpAny_bind (wpAny_cRoomFor hu ?_)
  refine wpAny_bind (m := callSpecialIfBound? (.ref x) (Str.ofString "__eq__") [b]) (ifBound_K X I hs hf (wpAny_mono hcall (fun v s' hv => ?_) fun _ _ e => e))
  obtain ⟨t, rfl, hq⟩ := hv
  dsimp only
  refine wpAny_bind (m := truthy (.bool t)) (wpAny_truthy_bool ?_)
  exact wpAny_pure hq
theorem cmpNe_K {Q : Value → Shared → Prop} (hu : A.units + 1 < cLine) (F₀ : Fr h₀ L s.heap m) (X₀ : K.In h₀) (I : InstAt s.heap x ox C od) (hb : Looks (model prog w) s.heap (typeOf b) (.ref C))
    (hne : findIn K (.ref C) "__ne__" = some (some (.builtin "object.__ne__"))) (hm : mroIn K C (.type "object") = some true)
    (hs : findIn K (.ref C) "__eq__" = some (some (.ref f))) (hf : isFn K (.ref f) = true)
    (h : wpAny (model prog w) A.in1 (call (.ref f) [.ref x, b]) (fun v s' => ∃ t, v = .bool t ∧ Q (.bool (!t)) s') E s) : wpAny (model prog w) A (richCompare .NotEq (.ref x) b) Q E s := by
  have X := X₀.keeps F₀.keep
  have chk : ∀ {Q' : Unit → Shared → Prop}, Q' () s → wpAny (model prog w) A.in1 (checkBuiltinCall "object.__ne__" ⟨[.ref x, b], []⟩) Q' E s := fun {Q'} hq => by
    simp only [checkBuiltinCall, F.cmpKind_ne, F.cmpSplit_ne]
    refine wpAny_bind ?_
    unfold isInstance
    refine wpAny_bind (I.type.here ((looks_mroIn X hm).here ?_))
    have ha := F.cmpArgs_ne (.ref x) b
    cases hsig : Manifest.signature? "object.__ne__" with
    | none => exact wpAny_pure hq
    | some sig =>
      simp only [argsOk, hsig] at ha
      have h2 : Bind.checkArgs "object.__ne__" sig ⟨[.ref x, b], []⟩ = pure () := ha
      show wpAny _ _ (Bind.checkArgs "object.__ne__" sig ⟨[.ref x, b], []⟩) Q' E _
      rw [h2]; exact wpAny_pure hq
  have one : wpAny (model prog w) A (tryCompare (.ref x) "__ne__" b) (fun r s' => ∃ v, r = some v ∧ Q v s') E s := by
    unfold tryCompare
    have S := F.cmp_object.ne
    have hcall : wpAny (model prog w) A (call (.builtin "object.__ne__") [.ref x, b]) (fun v s' => ∃ t, v = .bool t ∧ Q v s') E s :=
      wpAny_call (codeAny_call_builtin S.plain F.cmpEntry_ne (chk (objNe_K (A := A.in1) hu X I hs hf (wpAny_mono h (fun v s' hv => by
        obtain ⟨t, rfl, hq⟩ := hv
        exact ⟨t, rfl, _, rfl, hq⟩) fun _ _ e => e))))
    have two : wpAny (model prog w) A (callSpecialIfBound? (.ref x) "__ne__" [b]) (fun r s' => ∃ t, r = some (.bool t) ∧ Q (.bool t) s') E s := by
      simp only [callSpecialIfBound?, bindSpecialIfBound?]
      refine wpAny_holding (wpAny_bind (wpAny_bind (wpAny_bind (I.type.here ((looks_findIn X hne).here ?_)))))
      simp only [S.bind]
      refine wpAny_bind (wpAny_askSetting (wpAny_ite ?_))
      have fin : wpAny (model prog w) A (call (.builtin "object.__ne__") ([.ref x] ++ [b]) >>= fun v => Pure.pure (some v)) (fun r s' => ∃ t, r = some (.bool t) ∧ Q (.bool t) s') E s :=
        wpAny_bind (wpAny_mono hcall (fun v s' h' => by
          obtain ⟨t, rfl, hq⟩ := h'
          exact wpAny_pure ⟨_, rfl, hq⟩) fun _ _ h' => h')
      split
      · exact wpAny_bind (wpAny_pure (wpAny_pure fin))
      · exact wpAny_tryCatch (wpAny_bind (wpAny_pure (wpAny_pure fin)))
    refine wpAny_bind (wpAny_mono two (fun r s' h' => ?_) fun _ _ e => e)
    obtain ⟨t, rfl, hq⟩ := h'
    exact wpAny_pure ⟨_, rfl, hq⟩
  unfold richCompare
  simp only [oneThing_ref]
  refine wpAny_holding (wpAny_bind (wpAny_cRoomFor (Nat.lt_of_succ_lt hu) ?_))
  refine wpAny_bind (I.type.here (wpAny_bind (hb.here ?_)))
  rw [show (Value.ref C != Value.ref C) = false from by simp]
  simp only [Bool.false_eq_true, if_false]
  refine wpAny_bind (wpAny_pure ?_)
  simp only [Bool.false_eq_true, if_false]
  refine wpAny_bind (wpAny_mono one (fun r s' z => ?_) fun _ _ e => e)
  obtain ⟨v, rfl, hq⟩ := z
  exact wpAny_pure hq
end
def neB (K : PySem.W.Frag) (c : Str) : Bool := He.eqO (PySem.W.findIn K (.ref (He.ga K c)) "__ne__") (some (some (.builtin "object.__ne__"))) && decide (PySem.W.mroIn K (He.ga K c) (.type "object") = some true)
section
variable {X : Cx} {a b : Expr} {ma mb : ME} {d : DefZ} {ps : List Str} {k j : Nat} {md : MD} {c : Str} {pos : Pos}
/-- x != y, two instances of c -/
def ownNe (c : Str) (md : MD) : D → D → S → Option (D × S) := fun a b s => match ofC c a && ofC c b with
  | true => match md [a, b] s with
    | some (.bl r, s') => some (.bl (!r), s')
    | _ => none
  | false => none
theorem op_ownNe (F : DfZ X.prog X.w X.K X.mg X.base k d ps (spM X.K md)) (hr : RmZ (k + 1) X.A) (hm : Meth X.K (He.ga X.K c) "__eq__" (d.ad X.K)) (hn : neB X.K c = true) : OpR X (compareOp .NotEq) (rOpM X.K (ownNe c md)) := by
  obtain ⟨hn1, hn2⟩ := He.ba hn
  have hn1 := He.eqO_ok hn1
  have hn2 := of_decide_eq_true hn2
  intro pins s σ H x y v u Q I rx ry ⟨g, s0, a, b, r, s', R, ra, rb, hf, kk⟩
  unfold ownNe at hf
  split at hf
  · rename_i ho
    rw [Bool.and_eq_true] at ho
    obtain ⟨fs, rfl⟩ := ofC_some ho.1
    obtain ⟨gs, rfl⟩ := ofC_some ho.2
    split at hf
    · rename_i t s1 hmd
      cases hf
      cases id ra with
      | obj hF rF =>
        cases id rb with
        | obj hF2 rF2 =>
          obtain rfl : v = Value.ref _ := rx
          obtain rfl : u = Value.ref _ := ry
          obtain ⟨ox, od, inst⟩ := inst_of I (ins_H R hF)
          obtain ⟨ox2, od2, inst2⟩ := inst_of I (ins_H R hF2)
          obtain ⟨m, fr⟩ := I.fr
          have hu : X.A.units + 1 < cLine := by have := hr.r.un; omega
          show wpAny (model X.prog X.w) X.A (richCompare .NotEq (.ref _) (.ref _)) (EP X pins σ Q) X.xe s
          refine cmpNe_K hu fr I.ok.mod.kin inst inst2.type hn1 hn2 hm.at_ hm.fn (wpAny_mono (F.callAt hr.in1 (by exact I.ok.frames) (pins := pins) (σ := σ) I (show Vals [V.ref _, V.ref _] [Value.ref _, Value.ref _] from .cons rfl (.cons rfl .nil)) (Q := fun v H' => v = .bl t ∧ Q (.bl (!t)) H') ⟨g, s0, _, _, _, R, .cons ra (.cons rb .nil), hmd, fun v g' H' st rv => ?_⟩) (fun w s2 ⟨z, H1, I1, rz, ez, q⟩ => ?_) fun _ _ z => z)
          · cases rv
            exact ⟨rfl, kk _ g' H' st (.bl _)⟩
          · subst ez
            obtain rfl : w = Value.bool t := rz
            exact ⟨t, rfl, .bl (!t), H1, I1, rfl, q⟩
    · cases hf
  · cases hf
end
section
variable {Q : D → S → Prop} {s : S}
theorem wp_ownNe {c : Str} {md : MD} {fs gs : List (Str × D)} (h : ∃ r s1, md [.obj c fs, .obj c gs] s = some (r, s1) ∧ ∃ k, r = .bl k ∧ Q (.bl (!k)) s1) : ∃ d s', ownNe c md (.obj c fs) (.obj c gs) s = some (d, s') ∧ Q d s' := by
  obtain ⟨r, s1, h1, kk, rfl, h2⟩ := h
  unfold ownNe
  have : ofC c (.obj c fs) = true := by simp [ofC]
  have : ofC c (.obj c gs) = true := by simp [ofC]
  exact ⟨.bl (!kk), s1, by simp [*], h2⟩
end
end Z

set_option Elab.async false
set_option linter.all false
set_option maxRecDepth 100000
set_option maxHeartbeats 4000000
namespace Z
open PySem PySem.Spec PyProof.Rows L2
/-! ### min, max of a list of ints -/
def leastI : Int → List Int → Int
  | a, [] => a
  | a, x :: xs => leastI (if x < a then x else a) xs
def mostI : Int → List Int → Int
  | a, [] => a
  | a, x :: xs => mostI (if a < x then x else a) xs
def minLD : List D → Option D
  | [.lst ds] => match intsD ds with
    | some (n :: ns) => some (.int (leastI n ns))
    | _ => none
  | _ => none
def maxLD : List D → Option D
  | [.lst ds] => match intsD ds with
    | some (n :: ns) => some (.int (mostI n ns))
    | _ => none
  | _ => none
section
variable {K : PySem.W.Frag}
end
end Z

set_option Elab.async false
set_option linter.all false
set_option maxRecDepth 100000
set_option maxHeartbeats 4000000
namespace SrtO
open PySem PyProof.Rows Srt PySem.W
/-! ### sorted of a dict -/
section
variable {prog : Program} {w : World} {A : Around} {E : Value → Shared → Prop} {s : Shared} {r d : Addr} {n : Nat} {P : Nat → Value → Prop} {OK : Heap → Prop}
end
end SrtO
namespace Z
open PySem PySem.Spec PyProof.Rows L2 PySem.W
section
variable {X : Cx}
def keysVD (kvs : List (Key × D)) : List D := kvs.map fun p => kVD p.1
def sortedDicA : List D → Option D
  | [.dic kvs] => if sameK (keysVD kvs) ∧ kvs.length ≤ sizeLine then some (.lst (sortL (keysVD kvs))) else none
  | _ => none
end
end Z

set_option Elab.async false
set_option linter.all false
set_option maxRecDepth 100000
set_option maxHeartbeats 4000000
namespace Z
open PySem PySem.Spec PyProof.Rows L2
/-! ### xs.index(x), texts -/
def indexD : D → D → Option D
  | .lst ds, .str x => (toSs ds).bind fun ys => if x ∈ ys then some (.int (ys.findIdx fun y => decide (y = x) : Nat)) else none
  | _, _ => none
section
variable {X : Cx} {o a : Expr} {mo ma : ME} {apos pos : Pos}
end
end Z

set_option Elab.async false
set_option linter.all false
set_option maxRecDepth 100000
set_option maxHeartbeats 4000000
namespace Z
open PySem PySem.Spec PyProof.Rows L2
/-! ### d[k] += v, d owned, whole numbers -/
def sAugK (i : Nat) (m1 m2 : ME) : MS := fun e s => bndS (m1 e s) fun kd s => match keyD kd, e[i]? with
  | some k, some (.own (.dic kvs)) => match lookD kvs k with
    | some (.int a) => bndS (m2 e s) fun d s => match d with
      | .int b => if kvs.length < sizeLine then some (.nx, e.set i (.own (.dic (putD kvs k (.int (a + b))))), s) else none
      | _ => none
    | _ => none
  | _, _ => none
section
variable {X : Cx} {i k : Nat} {x : Str} {a b : Expr} {m1 m2 : ME} {p apos pos : Pos}
end
end Z

set_option Elab.async false
set_option linter.all false
set_option maxRecDepth 100000
set_option maxHeartbeats 4000000
namespace Z
open PySem PySem.Spec PyProof.Rows L2
/-! ### list(range(n)), list(range(a, b)) -/
def lrgD : List D → Option D
  | [.int n] => if 0 ≤ n ∧ n ≤ 16000000 then some (.lst (rngD 0 n.toNat)) else none
  | [.int a, .int b] => if 0 ≤ a ∧ a ≤ 16000000 ∧ 0 ≤ b ∧ b ≤ 16000000 then some (.lst (rngD a (b - a).toNat)) else none
  | _ => none
section
variable {X : Cx} {a b : Expr} {ma mb : ME} {p p2 pos pos2 : Pos}
def mLrg1 (ma : ME) : ME := fun e s => bnd (ma e s) fun d s => lft (lrgD [d]) s
def mLrg2 (ma mb : ME) : ME := fun e s => bnd (ma e s) fun d s => bnd (mb e s) fun d2 s => lft (lrgD [d, d2]) s
end
end Z

set_option Elab.async false
set_option linter.all false
set_option maxRecDepth 100000
set_option maxHeartbeats 4000000
namespace Z
open PySem PySem.Spec PyProof.Rows L2
/-! ### sorted(set(a list of ints)) -/
section
variable {P : Program} {w : World} {A : Around} {E : Value → Shared → Prop} {s : Shared}
end
def tSortSet (K : PySem.W.Frag) (ta : TE) : TE := fun σ H Q => ta σ H fun x H1 => ∃ (l : Addr) (ns : List Int), x = .ref l ∧ SqL K H1 l (ns.map V.int) ∧ ns.length < 64 ∧
  ∀ (out : List Int) (p : Addr), out.Pairwise (· < ·) → (∀ k, k ∈ out ↔ k ∈ ns) → H1 p = none → Q (.ref p) (upd H1 p (.lst (out.map V.int)))
/-! the law's own form -/
def insI (x : Int) : List Int → List Int
  | [] => [x]
  | y :: l => if x < y then x :: y :: l else if x = y then y :: l else y :: insI x l
def sdI (l : List Int) : List Int := l.foldr insI []
def sosD : List D → Option D
  | [.lst ds] => match intsD ds with
    | some ns => if ns.length < 64 then some (.lst ((sdI ns).map .int)) else none
    | none => none
  | _ => none
section
variable {X : Cx} {a : Expr} {ma : ME} {p p2 pos pos2 : Pos}
def mSos (ma : ME) : ME := fun e s => bnd (ma e s) fun d s => lft (sosD [d]) s
end
end Z

set_option Elab.async false
set_option linter.all false
set_option maxRecDepth 100000
set_option maxHeartbeats 4000000
namespace Z
open PySem PySem.Spec PyProof.Rows L2
/-! ### x[k] = v, x an owned list -/
section
variable {X : Cx} {a b : Expr} {m1 m2 : ME} {x : Str} {p apos pos : Pos} {i : Nat}
def sPutL (i : Nat) (m1 m2 : ME) : MS := fun e s => bndS (m2 e s) fun d s => bndS (m1 e s) fun kd s => match kd, e[i]? with
  | .int k, some (.own (.lst ds)) => match ixN ds.length k with
    | some j => some (.nx, e.set i (.own (.lst (ds.set j d))), s)
    | none => none
  | _, _ => none
end
/-! ### *range(n), *range(a, b) in a display or a call -/
section
variable {X : Cx} {a b e : Expr} {es : List Expr} {me m1 m2 : ME} {ma : MA} {ta : TA} {p p2 pos : Pos}
def tStarRg (te : L2.St → Hp → (Int → Int → Hp → Prop) → Prop) (t : TA) : TA := fun σ H Q => te σ H fun a b H1 => RgOk a b ∧ t σ H1 fun ys H2 => Q (rgV a b ++ ys) H2
def aStarR1 (m : ME) (ma : MA) : MA := fun e s => bnd (m e s) fun d s => match d with
  | .int n => if 0 ≤ n ∧ n ≤ 16000000 then bnd (ma e s) fun ds s => some (rngD 0 n.toNat ++ ds, s) else none
  | _ => none
def aStarR2 (m1 m2 : ME) (ma : MA) : MA := fun e s => bnd (m1 e s) fun c s => bnd (m2 e s) fun d s => match c, d with
  | .int i, .int j => if 0 ≤ i ∧ i ≤ 16000000 ∧ 0 ≤ j ∧ j ≤ 16000000 then bnd (ma e s) fun ds s => some (rngD i (j - i).toNat ++ ds, s) else none
  | _, _ => none
end
end Z

set_option Elab.async false
set_option linter.all false
set_option maxRecDepth 100000
set_option maxHeartbeats 4000000
namespace Z
open PySem PySem.Spec PyProof.Rows L2
/-! ### xs.index(b), truth values -/
def toBs : List D → Option (List Bool)
  | [] => some []
  | .bl b :: ds => (toBs ds).map (b :: ·)
  | _ => none
def indexB : D → D → Option D
  | .lst ds, .bl x => (toBs ds).bind fun ys => if x ∈ ys then some (.int (ys.findIdx fun y => decide (y = x) : Nat)) else none
  | _, _ => none
section
variable {X : Cx} {o a : Expr} {mo ma : ME} {apos pos : Pos}
end
end Z

set_option Elab.async false
set_option linter.all false
set_option maxRecDepth 100000
set_option maxHeartbeats 4000000
namespace Z
open PySem PySem.Spec PyProof.Rows L2
/-! ### sorted of a list or of a tuple -/
def sortedED (ds : List D) : Option D := match ds with
  | [.tup _] => sortedTD ds
  | _ => sortedD ds
end Z

set_option Elab.async false
set_option linter.all false
set_option maxRecDepth 100000
set_option maxHeartbeats 4000000
namespace Z
open PySem PySem.Spec PyProof.Rows L2
/-! ### a loop over a dict's keys, the dict a value in a slot -/
section
variable {K : PySem.W.Frag} {g g' : G} {H H' : Hp} {σ σ' : L2.St} {e e' : EnvD} {s s' : S} {a : Addr} {vs : List (Key × V)} {od : Obj}
structure ItK (K : PySem.W.Frag) (J : It) (g : G) (a : Addr) (w : HO) (ds : List D) : Prop where
  go : ∀ (g' : G) (H : Hp) (s : S) (i : Nat), SRel K g' H s → GLe g g' → H a = some w → i < ds.length → J.go i H
  stop : ∀ (g' : G) (H : Hp) (s : S), SRel K g' H s → GLe g g' → H a = some w → J.stop ds.length H
  yld : ∀ (g' : G) (H : Hp) (s : S) (i : Nat) (x : V) (H' : Hp) (d : D), SRel K g' H s → GLe g g' → H a = some w → ds[i]? = some d → J.yld i H x H' → ∃ g'', Step K g' H g'' H' s ∧ Rep K g'' x d
end
section
variable {X : Cx} {tg : Expr} {mg : MG} {mb : MS} {body : List Stmt} {pos p : Pos}
/-- for k in d: d a name -/
def sForK (i : Nat) (mg : MG) (mb : MS) : MS := fun e s => match e[i]? with
  | some (.val (.dic kvs)) => forL mg mb (kvs.map fun p => kVD p.1) e s
  | _ => none
end
end Z

set_option Elab.async false
set_option linter.all false
set_option maxRecDepth 100000
set_option maxHeartbeats 4000000
namespace Z
open PySem PySem.Spec PyProof.Rows L2
/-! ### a comprehension over a dict's keys, the dict a value in a slot -/
section
variable {K : PySem.W.Frag}
/-- [.. for k in d if ..]: d a name -/
def mLcK (i : Nat) (vs : List Nat) (mc : MC) (mt : MT) (me : ME) : ME := fun e s => match e[i]? with
  | some (.val (.dic kvs)) => bnd (lcL mc mt me (wipeE e vs) (kvs.map fun p => kVD p.1) s) fun ys s2 => if ys.length ≤ sizeLine then some (.lst ys, s2) else none
  | _ => none
end
section
variable {X : Cx} {elt tg : Expr} {ifs : List Expr} {scope : Scope} {own : List (Str × Nat)} {pos p : Pos} {mc : MC} {mt : MT} {me : ME} {t : TG} {vs : List Nat}
end
end Z
namespace Z
open PySem PySem.Spec PyProof.Rows L2
section
variable {X : Cx} {tg elt : Expr} {mg : MG} {mb : MS} {body : List Stmt} {pos p : Pos} {ifs : List Expr} {scope : Scope} {own : List (Str × Nat)} {mc : MC} {mt : MT} {me : ME} {t : TG} {vs : List Nat} {x : Str}
end
end Z

set_option Elab.async false
set_option linter.all false
set_option maxRecDepth 100000
set_option maxHeartbeats 4000000
namespace Z
open PySem PySem.Spec PyProof.Rows L2
/-! ### tuple(d.items()) -/
section
variable {prog : Program} {w : World} {A : Around} {E : Value → Shared → Prop} {s : Shared} {K : Type} [DecidableEq K] {knd : KeyKind prog w K} {kvs : List (K × Value)} {r d ep : Addr}
end
section
variable {X : Cx} {pins : List (Addr × Obj)} {σ : L2.St}
def tupleItemsD : D → Option D
  | .dic kvs => if kvs.length ≤ sizeLine then some (.tup (kvs.map fun p => .tup [kVD p.1, p.2])) else none
  | _ => none
variable {e : Expr} {me : ME} {p pos apos cpos : Pos}
end
end Z

set_option Elab.async false
set_option linter.all false
set_option maxRecDepth 100000
set_option maxHeartbeats 4000000
namespace Z
open PySem PySem.Spec PyProof.Rows L2
/-! ### max(d.values()) -/
section
variable {prog : Program} {w : World} {A : Around} {E : Value → Shared → Prop} {s : Shared} {K : Type} [DecidableEq K] {knd : KeyKind prog w K} {kvs : List (K × Value)} {r d ep : Addr} {ns : List Int}
end
section
def maxValsD : D → Option D
  | .dic kvs => match intsD (kvs.map fun p => p.2) with
    | some (n :: ns) => some (.int (mostI n ns))
    | _ => none
  | _ => none
variable {X : Cx} {e : Expr} {me : ME} {p pos apos cpos : Pos}
end
end Z

set_option Elab.async false
set_option linter.all false
set_option maxRecDepth 100000
set_option maxHeartbeats 4000000
namespace Z
open PySem PySem.Spec PyProof.Rows L2
/-! ### {**a, **b} -/
section
variable {prog : Program} {w : World} {A : Around} {E : Value → Shared → Prop} {s : Shared}
/-- a dict's parts -/
structure Parts (P : Program) (w : World) (h : Heap) (a : Addr) (o : Obj) (es : Array DictEntry) (ep : Nat) (xs : List (Key × Value)) : Prop where
  at_ : h.get? a = some o
  ex : o.ExactDict
  dat : o.data = .dict es ep
  ks : PySem.KeysOf (mixKind P w) es
  ps : Pairs (mixKind P w) es.toList xs
  nd : (xs.map (·.1)).Nodup
theorem Parts.dict {h : Heap} {a : Addr} {o : Obj} {es : Array DictEntry} {ep : Nat} {xs : List (Key × Value)} (p : Parts prog w h a o es ep xs) : h.DictOf (mixKind prog w) a xs := ⟨o, es, ep, p.at_, p.ex, p.dat, p.ks, p.ps, p.nd⟩
theorem Parts.sz {h : Heap} {a : Addr} {o : Obj} {es : Array DictEntry} {ep : Nat} {xs : List (Key × Value)} (p : Parts prog w h a o es ep xs) : es.size = xs.length := by
  rw [← Array.length_toList, ← p.ps.length]
/-- one turn: the entry i of a put into d -/
def putTurn (d a : Addr) (ep i : Nat) (_ : PUnit) : Sem (ForInStep PUnit) := do
  match (← dictEntries a)[i]? with
  | some e =>
    holding [e.key, e.val] (dictPut d e.hash e.key e.val)
    if (← dictEpoch a) != ep then do
      (unsupported "dict.changed-during-merge" : Sem PUnit)
      pure (ForInStep.yield PUnit.unit)
    else pure (ForInStep.yield PUnit.unit)
  | _ => do
    (unsupported "dict.changed-during-merge" : Sem PUnit)
    pure (ForInStep.yield PUnit.unit)
end
section
variable {X : Cx} {K : PySem.W.Frag} {g g1 : G} {H H1 : Hp} {s1 : S} {p : Addr}
def mrgD : D → D → Option D
  | .dic xs, .dic ys => if xs.length + ys.length ≤ sizeLine then some (.dic (mergeD (xs ++ ys))) else none
  | _, _ => none
def mMrg (ma mb : ME) : ME := fun e s => bnd (ma e s) fun a s => bnd (mb e s) fun b s => lft (mrgD a b) s
end
end Z

set_option Elab.async false
set_option linter.all false
set_option maxRecDepth 100000
set_option maxHeartbeats 4000000
namespace Z
open PySem PySem.Spec PyProof.Rows L2
/-! ### a set of texts that can be walked -/
def txE (e : Int × Value) : Str := match e.2 with
  | .str x _ => x
  | _ => Str.ofString ""
def TxE (w : World) (e : Int × Value) : Prop := ∃ x t, e = (hashStr w x, Value.str x t)
/-- its entries, its table -/
structure TxTab (w : World) (es : Array (Int × Value)) (t : SetTable) (xs : List Str) : Prop where
  tx : ∀ e ∈ es.toList, TxE w e
  nd : (es.toList.map txE).Nodup
  mem : ∀ x, x ∈ es.toList.map txE ↔ x ∈ xs
  few : es.size < scanBound
  fit : t.fits es.size = true
  ris : Ris t.place.toList
  led : w.params.followText "set-order" = true ∨ t.led = true
def TxSet (w : World) (h : Heap) (a : Addr) (xs : List Str) : Prop := ∃ o es ep t, h.get? a = some o ∧ o.ExactSet ∧ o.data = .set es ep t ∧ TxTab w es t xs
section
variable {P : Program} {w : World} {A : Around} {E : Value → Shared → Prop} {s : Shared} {a : Addr} {xs : List Str}
theorem TxSet.move {h h' : Heap} (R : TxSet w h a xs) (k : ∀ o, h.get? a = some o → h'.get? a = some o) : TxSet w h' a xs :=
  let ⟨o, es, ep, t, ho, r⟩ := R
  ⟨o, es, ep, t, k o ho, r⟩
/-! ### set(xs) -/
/-- a new set, empty -/
def newSet (w : World) : Obj := { cls := .type "set", dict := none, data := .set #[] 0 (.fresh 0 0 (!w.params.followText "set-order")) }
end
end Z

set_option Elab.async false
set_option linter.all false
set_option maxRecDepth 100000
set_option maxHeartbeats 4000000
namespace Z
open PySem PySem.Spec PyProof.Rows L2
/-! ### sorted(set(texts)) -/
section
variable {P : Program} {w : World} {A : Around} {E : Value → Shared → Prop} {s : Shared}
end
def tSortTx (K : PySem.W.Frag) (ta : TE) : TE := fun σ H Q => ta σ H fun x H1 => ∃ (l : Addr) (xs : List Str), x = .ref l ∧ SqL K H1 l (xs.map V.str) ∧ xs.length < 64 ∧
  ∀ (ys : List Str) (p : Addr), ys.Nodup → (∀ x, x ∈ ys ↔ x ∈ xs) → sortedS ys = true → H1 p = none → Q (.ref p) (upd H1 p (.lst (ys.map V.str)))
/-! the law's own form -/
def addT (x : Str) (l : List Str) : List Str := if x ∈ l then l else x :: l
def dedT (l : List Str) : List Str := l.foldr addT []
def sosTD : List D → Option D
  | [.lst ds] => match strsD ds with
    | some xs => if xs.length < 64 then some (.lst (sortL ((dedT xs).map .str))) else none
    | none => none
  | _ => none
section
variable {X : Cx} {a : Expr} {ma : ME} {p p2 pos pos2 : Pos}
def mSosT (ma : ME) : ME := fun e s => bnd (ma e s) fun d s => lft (sosTD [d]) s
end
/-! ### sorted(set([one tuple of ints, many times])) -/
def sameT (k : List Int) : List D → Bool
  | [] => true
  | .tup es :: r => decide (intsD es = some k) && sameT k r
  | _ => false
def sosCD : List D → Option D
  | [.lst (.tup es :: r)] => match intsD es with
    | some (x :: k) => if (sameT (x :: k) r && ((x :: k).all fun i => decide (0 ≤ i ∧ i < 64)) && decide (r.length < 63)) = true then some (.lst [.tup ((x :: k).map .int)]) else none
    | _ => none
  | _ => none
section
variable {X : Cx} {a : Expr} {ma : ME} {p p2 pos pos2 : Pos}
def mSosC (ma : ME) : ME := fun e s => bnd (ma e s) fun d s => lft (sosCD [d]) s
end
/-! ### any of the three -/
def sosAD (ds : List D) : Option D := match sosD ds with
  | some d => some d
  | none => match sosTD ds with
    | some d => some d
    | none => sosCD ds
section
variable {X : Cx} {a : Expr} {ma : ME} {p p2 pos pos2 : Pos}
def mSosA (ma : ME) : ME := fun e s => bnd (ma e s) fun d s => lft (sosAD [d]) s
end
end Z

set_option Elab.async false
set_option linter.all false
set_option maxRecDepth 100000
set_option maxHeartbeats 4000000
namespace Z
open PySem PySem.Spec PyProof.Rows L2
/-! ### min of a list of tuples of ints: the objects compared stay -/
section
variable {P : Program} {w : World} {A : Around} {R : Result → Shared → Prop} {I S : Addr} {fp wr : List Addr} {n : Nat} {It Be : Nat → Value → Prop} {St : Nat → Heap → Prop} {OK : Heap → Prop}
/-- a turn's compare says who is ahead from now on -/
def Turn (P : Program) (w : World) (A : Around) (OK : Heap → Prop) (It Be : Nat → Value → Prop) : Prop :=
  ∀ (j : Nat) (v u : Value) (s : Shared), OK s.heap → It (j + 1) v → Be j u → ∃ b, (∀ (Q E : Value → Shared → Prop), Q (.bool b) s → wpAny (model P w) A (richCompare .Lt v u) Q E s) ∧ Be (j + 1) (if b = true then v else u)
end
section
variable {P : Program} {w : World} {A : Around} {E : Value → Shared → Prop} {s : Shared}
end
/-! the law's own form -/
def leastT : List Int → List (List Int) → List Int
  | a, [] => a
  | a, x :: xs => leastT (if HT.lexLt x a = true then x else a) xs
def tupIs : List D → Option (List (List Int))
  | [] => some []
  | .tup es :: r => match intsD es, tupIs r with
    | some k, some ks => some (k :: ks)
    | _, _ => none
  | _ => none
def minTD : List D → Option D
  | [.lst ds] => match tupIs ds with
    | some (k :: ks) => some (.tup ((leastT k ks).map .int))
    | _ => none
  | _ => none
end Z

set_option Elab.async false
set_option linter.all false
set_option maxRecDepth 100000
set_option maxHeartbeats 4000000
namespace Z
open PySem PySem.Spec PyProof.Rows L2
/-! ### y = [.. for k in d if ..]: d a name, y a list of one's own -/
section
variable {X : Cx} {tg elt : Expr} {pos p py spos : Pos} {ifs : List Expr} {scope : Scope} {own : List (Str × Nat)} {mc : MC} {mt : MT} {me : ME} {t : TG} {vs : List Nat} {x y : Str} {i : Nat}
end
end Z

set_option Elab.async false
set_option linter.all false
set_option maxRecDepth 100000
namespace Z
open PySem PySem.Spec PyProof.Rows L2
/-! ### plain lemmas about the mirrors, of no law -/
abbrev tpI (is : List Int) : List PyData := is.map PyData.int
abbrev tpS (xs : List Str) : List PyData := xs.map PyData.str
theorem toPL_ints : ∀ is : List Int, toPL (is.map D.int) = some (tpI is)
  | [] => by simp [toPL]
  | i :: r => by simp [toPL, toP, toPL_ints r]
theorem toPL_strs : ∀ xs : List Str, toPL (xs.map D.str) = some (tpS xs)
  | [] => by simp [toPL]
  | i :: r => by simp [toPL, toP, toPL_strs r]
theorem lay_ints : ∀ is : List Int, PyData.canLayAll0 (tpI is) = true
  | [] => rfl
  | i :: r => by simp [PyData.canLayAll0, PyData.canLay0, lay_ints r]
theorem lay_strs : ∀ xs : List Str, (∀ x ∈ xs, PyData.strOk x = true) → PyData.canLayAll0 (tpS xs) = true
  | [], _ => rfl
  | i :: r, h => by
    simp only [List.map_cons, PyData.canLayAll0, PyData.canLay0, Bool.and_eq_true]
    exact ⟨h i (by simp), lay_strs r fun x hx => h x (by simp [hx])⟩
theorem dep_ints : ∀ is : List Int, PyData.depthAll (tpI is) ≤ 1
  | [] => by simp [PyData.depthAll]
  | i :: r => by simp [PyData.depthAll, PyData.depth, dep_ints r]
theorem dep_strs : ∀ is : List Str, PyData.depthAll (tpS is) ≤ 1
  | [] => by simp [PyData.depthAll]
  | i :: r => by simp [PyData.depthAll, PyData.depth, dep_strs r]
theorem sh_nil : SeqAt.shaped (.list []) = true := by decide
theorem sh_ints (is : List Int) : SeqAt.shaped (.list (tpI is)) = true := by
  unfold SeqAt.shaped
  have := dep_ints is
  simp [PyData.canLay0, lay_ints is, PyData.depth]
  omega
theorem sh_strs (xs : List Str) (h : ∀ x ∈ xs, PyData.strOk x = true) : SeqAt.shaped (.list (tpS xs)) = true := by
  unfold SeqAt.shaped
  have := dep_strs xs
  simp [PyData.canLay0, lay_strs xs h, PyData.depth]
  omega
theorem ne_nil {ds : List D} {ps : List PyData} (h : toPL ds = some ps) (hs : SeqAt.shaped (.list ps) = true) : neD (.lst ds) (.lst []) = some (.bl (!ds.isEmpty)) := by
  have e1 : toP (.lst ds) = some (.list ps) := by simp [toP, h]
  have e2 : toP (.lst []) = some (.list []) := by simp [toP, toPL]
  have e3 : PyData.eqv (.list ps) (.list []) = ds.isEmpty := by
    cases ds with
    | nil => simp [toPL] at h; subst h; rfl
    | cons d r =>
      cases ps with
      | nil =>
        simp only [toPL] at h
        split at h
        · simp at h
        · cases h
      | cons p q => rfl
  simp [neD, eqB, toV0, e1, e2, hs, sh_nil, e3]
theorem ne_nil_ints (is : List Int) : neD (.lst (is.map .int)) (.lst []) = some (.bl (!is.isEmpty)) := by
  rw [ne_nil (toPL_ints is) (sh_ints is)]
  simp
theorem ne_nil_strs (xs : List Str) (h : ∀ x ∈ xs, PyData.strOk x = true) : neD (.lst (xs.map .str)) (.lst []) = some (.bl (!xs.isEmpty)) := by
  rw [ne_nil (toPL_strs xs) (sh_strs xs h)]
  simp
theorem flats_ints : ∀ is : List Int, flats (is.map D.int) = some (is.map V.int)
  | [] => rfl
  | i :: r => by simp [flats, toV0, flats_ints r]
theorem flats_strs : ∀ xs : List Str, flats (xs.map D.str) = some (xs.map V.str)
  | [] => rfl
  | i :: r => by simp [flats, toV0, flats_strs r]
theorem inV_int (i : Int) : ∀ is : List Int, inV (.int i) (is.map V.int) = decide (i ∈ is)
  | [] => rfl
  | j :: r => by
    have ih := inV_int i r
    have e : inV (.int i) ((j :: r).map V.int) = (j == i || inV (.int i) (r.map V.int)) := rfl
    rw [e, ih]
    by_cases h : j = i
    · subst h; simp
    · have h' : ¬ i = j := fun e => h e.symm
      simp [h, h']
theorem inV_str (x : Str) : ∀ xs : List Str, inV (.str x) (xs.map V.str) = decide (x ∈ xs)
  | [] => rfl
  | j :: r => by
    have ih := inV_str x r
    have e : inV (.str x) ((j :: r).map V.str) = (j == x || inV (.str x) (r.map V.str)) := rfl
    rw [e, ih]
    by_cases h : j = x
    · subst h; simp
    · have h' : ¬ x = j := fun e => h e.symm
      simp [h, h']
theorem inA_int (i : Int) (is : List Int) : inA (.int i) (.lst (is.map .int)) = some (decide (i ∈ is)) := by
  simp [inA, inB, toV0, flats_ints, inV_int]
theorem inA_str (x : Str) (xs : List Str) : inA (.str x) (.lst (xs.map .str)) = some (decide (x ∈ xs)) := by
  simp [inA, inB, toV0, flats_strs, inV_str]
/-- a comprehension whose parts change nothing of the state -/
theorem lc_pure {mc : MC} {mt : MT} {me : ME} {e : EnvD} {s : S} (env : D → EnvD) (p : D → Bool) (f : D → D) : ∀ (ds : List D), (∀ d ∈ ds, mc d e = some (env d) ∧ mt (env d) s = some (p d, s) ∧ (p d = true → me (env d) s = some (f d, s))) →
    lcL mc mt me e ds s = some ((ds.filter p).map f, s)
  | [], _ => rfl
  | d :: ds, h => by
    obtain ⟨h1, h2, h3⟩ := h d (by simp)
    have ih := lc_pure env p f ds fun d' hd => h d' (by simp [hd])
    unfold lcL
    rw [h1]
    dsimp only
    rw [h2]
    cases hp : p d with
    | false => simp [ih, hp]
    | true =>
      dsimp only
      rw [h3 hp]
      dsimp only
      rw [ih]
      simp [hp]
/-- a comprehension without a test whose element moves the state -/
theorem lc_inv {mc : MC} {me : ME} {e : EnvD} (I : Nat → S → Prop) (P : Nat → D → Prop) : ∀ (ds : List D) (i : Nat) (s : S), I i s →
    (∀ j s d, ds[j]? = some d → I (i + j) s → ∃ e1 r s', mc d e = some e1 ∧ me e1 s = some (r, s') ∧ P (i + j) r ∧ I (i + j + 1) s') →
    ∃ ys s', lcL mc yesT me e ds s = some (ys, s') ∧ I (i + ds.length) s' ∧ ys.length = ds.length ∧ ∀ j y, ys[j]? = some y → P (i + j) y
  | [], i, s, h, _ => ⟨[], s, rfl, h, rfl, fun j y h => by simp at h⟩
  | d :: ds, i, s, h, st => by
    obtain ⟨e1, r, s1, h1, h2, h3, h4⟩ := st 0 s d rfl h
    obtain ⟨ys, s', h5, h6, h7, h8⟩ := lc_inv I P ds (i + 1) s1 h4 fun j s d hd hI => by
      have := st (j + 1) s d (by simpa using hd) (by rw [show i + (j + 1) = i + 1 + j by omega]; exact hI)
      rw [show i + (j + 1) + 1 = i + 1 + j + 1 by omega, show i + (j + 1) = i + 1 + j by omega] at this
      exact this
    refine ⟨r :: ys, s', ?_, by rw [show i + (d :: ds).length = i + 1 + ds.length by simp; omega]; exact h6, by simp [h7], fun j y hy => ?_⟩
    · simp only [lcL, h1, yesT, h2, h5]
    · cases j with
      | zero => simp at hy; subst hy; exact h3
      | succ j => rw [show i + (j + 1) = i + 1 + j by omega]; exact h8 j y (by simpa using hy)
/-- a loop whose turns keep what I says of slots and state -/
theorem for_inv {mg : MG} {mb : MS} (I : Nat → EnvD → S → Prop) : ∀ (ds : List D) (i : Nat) (e : EnvD) (s : S), I i e s →
    (∀ j e s d, ds[j]? = some d → I (i + j) e s → ∃ e1 s1 e2 s2, mg d e s = some (e1, s1) ∧ mb e1 s1 = some (.nx, e2, s2) ∧ I (i + j + 1) e2 s2) →
    ∃ e' s', forL mg mb ds e s = some (.nx, e', s') ∧ I (i + ds.length) e' s'
  | [], i, e, s, h, _ => ⟨e, s, rfl, h⟩
  | d :: ds, i, e, s, h, st => by
    obtain ⟨e1, s1, e2, s2, h1, h2, h3⟩ := st 0 e s d rfl h
    obtain ⟨e', s', h4, h5⟩ := for_inv I ds (i + 1) e2 s2 h3 fun j e s d hd hI => by
      have := st (j + 1) e s d (by simpa using hd) (by rw [show i + (j + 1) = i + 1 + j by omega]; exact hI)
      rw [show i + (j + 1) + 1 = i + 1 + j + 1 by omega] at this
      exact this
    refine ⟨e', s', ?_, by rw [show i + (d :: ds).length = i + 1 + ds.length by simp; omega]; exact h5⟩
    simp only [forL, h1, h2]
    exact h4
/-- a loop that ends at the first item with p -/
theorem for_find {mg : MG} {mb : MS} {s : S} (I : EnvD → Prop) (p : D → Bool) (f : D → D) : ∀ (ds : List D) (e : EnvD), I e →
    (∀ d ∈ ds, ∀ e, I e → ∃ e1, mg d e s = some (e1, s) ∧ ((p d = false ∧ ∃ e2, mb e1 s = some (.nx, e2, s) ∧ I e2) ∨ (p d = true ∧ ∃ e2, mb e1 s = some (.ret (f d), e2, s)))) →
    (∃ d ∈ ds, p d = true) → ∃ d e', d ∈ ds ∧ p d = true ∧ forL mg mb ds e s = some (.ret (f d), e', s)
  | [], e, _, _, ⟨d, hd, _⟩ => by cases hd
  | d :: ds, e, hI, st, ex => by
    obtain ⟨e1, h1, h2⟩ := st d (by simp) e hI
    rcases h2 with ⟨hp, e2, h3, h4⟩ | ⟨hp, e2, h3⟩
    · have ex' : ∃ d ∈ ds, p d = true := by
        obtain ⟨x, hx, hxp⟩ := ex
        rcases List.mem_cons.mp hx with rfl | hx
        · rw [hp] at hxp; cases hxp
        · exact ⟨x, hx, hxp⟩
      obtain ⟨x, e', hx, hxp, hf⟩ := for_find I p f ds e2 h4 (fun d' hd' => st d' (by simp [hd'])) ex'
      exact ⟨x, e', by simp [hx], hxp, by simp only [forL, h1, h3]; exact hf⟩
    · exact ⟨d, e2, by simp, hp, by simp only [forL, h1, h3]⟩
theorem rng_ok {m : ME} {e : EnvD} {s s' : S} {q : Int} (h : m e s = some (.int q, s')) (h0 : 0 ≤ q) (h1 : q < 4611686018427387904) : rngI (aCons m aNil) e s = some (rngD 0 q.toNat, s') := by
  have c : -(2 ^ 62) ≤ q ∧ q < 2 ^ 62 := by omega
  simp only [rngI, aCons, aNil, bnd, h, c, and_self, if_true]
theorem rng_at {n j : Nat} {d : D} (h : (rngD 0 n)[j]? = some d) : j < n ∧ d = .int j := by
  have hj := (List.getElem?_eq_some_iff.mp h).1
  have hj : j < n := by simpa [rngD] using hj
  refine ⟨hj, ?_⟩
  simp [rngD, hj] at h
  exact h.symm
theorem cutS_take (z : Str) (k : Nat) : (cutS z none (some (k : Int))).cps.toList = z.cps.toList.take k := by
  unfold cutS
  rw [HT.sIx_nat, HT.sIx_none]
  simp [Str.length]
  try (rw [List.take_eq_take_iff]; simp)
section
variable {m1 m2 : MS} {mi : MI} {mg : MG} {mb : MS} {e e1 : EnvD} {s s1 s' : S} {r : Option (Fl × EnvD × S)} {ds : List D} {d : D} {n m : Nat} {b : MS}
theorem seq_ok (h1 : m1 e s = some (.nx, e1, s1)) (h2 : m2 e1 s1 = r) : sSeq m1 m2 e s = r := by unfold sSeq; rw [h1]; exact h2
theorem seq_ret {f : Fl} (h1 : m1 e s = some (f, e1, s1)) (hf : f ≠ .nx) : sSeq m1 m2 e s = some (f, e1, s1) := by
  unfold sSeq
  rw [h1]
  cases f with
  | nx => exact absurd rfl hf
  | _ => rfl
theorem for_ok (h1 : mi e s = some (ds, s1)) (h2 : forL mg mb ds e s1 = r) : sFor mi mg mb e s = r := by unfold sFor bndS; rw [h1]; exact h2
theorem set_ok {me : ME} {i : Nat} (h : me e s = some (d, s1)) : sSet i me e s = some (.nx, e.set i (.val d), s1) := by unfold sSet bndS; rw [h]
theorem ret_ok {me : ME} (h : me e s = some (d, s1)) : sRet me e s = some (.ret d, e, s1) := by unfold sRet bndS; rw [h]
theorem if_t {t : MT} (h : t e s = some (true, s1)) (h2 : m1 e s1 = r) : sIf t m1 m2 e s = r := by unfold sIf bndS; rw [h]; exact h2
theorem if_f {t : MT} (h : t e s = some (false, s1)) (h2 : m2 e s1 = r) : sIf t m1 m2 e s = r := by unfold sIf bndS; rw [h]; exact h2
theorem mkD_ok (hl : ds.length = n) (h : b (startE n m ds) s = some (.ret d, e1, s')) : mkD n m b ds s = some (d, s') := by unfold mkD; rw [if_pos hl, h]; rfl
theorem call_ok {md : MD} {ma : MA} (h : ma e s = some (ds, s1)) (h2 : md ds s1 = some (d, s')) : mCallD md ma e s = some (d, s') := by unfold mCallD bnd; rw [h]; exact h2
theorem args1 {m1 : ME} {d1 : D} (h1 : m1 e s = some (d1, s')) : aCons m1 aNil e s = some ([d1], s') := by simp only [aCons, aNil, bnd, h1]
theorem args2 {m1 m2 : ME} {d1 d2 : D} (h1 : m1 e s = some (d1, s1)) (h2 : m2 e s1 = some (d2, s')) : aCons m1 (aCons m2 aNil) e s = some ([d1, d2], s') := by simp only [aCons, aNil, bnd, h1, h2]
theorem args3 {m1 m2 m3 : ME} {d1 d2 d3 : D} {s2 : S} (h1 : m1 e s = some (d1, s1)) (h2 : m2 e s1 = some (d2, s2)) (h3 : m3 e s2 = some (d3, s')) : aCons m1 (aCons m2 (aCons m3 aNil)) e s = some ([d1, d2, d3], s') := by simp only [aCons, aNil, bnd, h1, h2, h3]
theorem op_ok {f : D → D → Option D} {m1 m2 : ME} {d1 d2 : D} (h1 : m1 e s = some (d1, s1)) (h2 : m2 e s1 = some (d2, s')) (h3 : f d1 d2 = some d) : mOp f m1 m2 e s = some (d, s') := by simp only [mOp, bnd, h1, h2, lft, h3]
theorem blt_ok {f : List D → Option D} {ma : MA} (h : ma e s = some (ds, s')) (h2 : f ds = some d) : mCall f ma e s = some (d, s') := by simp only [mCall, bnd, h, lft, h2]
theorem mLc_ok {vs : List Nat} {mc : MC} {mt : MT} {me : ME} {ys : List D} (h1 : mi e s = some (ds, s1)) (h2 : lcL mc mt me (wipeE e vs) ds s1 = some (ys, s')) (h3 : ys.length ≤ sizeLine) : mLc vs mi mc mt me e s = some (.lst ys, s') := by
  unfold mLc bnd
  rw [h1]
  dsimp only
  rw [h2]
  dsimp only
  rw [if_pos h3]
theorem t_ok {m : ME} {k : Bool} (h : m e s = some (d, s')) (h2 : truD d = some k) : mT m e s = some (k, s') := by simp only [mT, bnd, h, lft, h2]
theorem lst_ok {ma : MA} (h : ma e s = some (ds, s')) (h2 : ds.length ≤ 1000) : mLst ma e s = some (.lst ds, s') := by
  have q : ds.length ≤ sizeLine := by rw [sizeLine_eq]; omega
  unfold mLst bnd
  rw [h]
  dsimp only
  rw [if_pos q]
theorem tup_ok {ma : MA} (h : ma e s = some (ds, s')) (h2 : ds.length ≤ 1000) : mTup ma e s = some (.tup ds, s') := by
  have q : ds.length ≤ sizeLine := by rw [sizeLine_eq]; omega
  unfold mTup bnd
  rw [h]
  dsimp only
  rw [if_pos q]
theorem a_nil0 : aNil e s = some ([], s) := rfl
theorem a_cons0 {m1 : ME} {ma : MA} (h1 : m1 e s = some (d, s1)) (h2 : ma e s1 = some (ds, s')) : aCons m1 ma e s = some (d :: ds, s') := by unfold aCons bnd; rw [h1]; dsimp only; rw [h2]
theorem cat_lst {a b : List D} (h : a.length + b.length ≤ 1000) : addAll (.lst a) (.lst b) = some (.lst (a ++ b)) := by
  have q : a.length + b.length ≤ sizeLine := by rw [sizeLine_eq]; omega
  simp [addAll, addD, catD, q]
theorem bor_ok {m : ME} {i : Nat} (hf : frzE i e = e1) (h : m e1 s = some (d, s')) (h2 : noL d = true) (h3 : s'.all noC = true) : mBor i m e s = some (d, s') := by
  unfold mBor bnd
  rw [hf, h]
  dsimp only
  rw [h2, h3]
  rfl
theorem app_ok0 {m : ME} {i : Nat} {ds : List D} (h : m e s = some (d, s')) (hi : e[i]? = some (.own (.lst ds))) (hl : ds.length < sizeLine) : sApp i m e s = some (.nx, e.set i (.own (.lst (ds ++ [d]))), s') := by
  unfold sApp bndS
  rw [h]
  dsimp only
  rw [hi]
  dsimp only
  rw [if_pos hl]
end
end Z

set_option Elab.async false
set_option linter.all false
set_option maxRecDepth 100000
namespace Z
open PySem PySem.Spec PyProof.Rows L2
/-! ### runs of mirrors, backwards -/
def On1 {α : Type} (o : Option α) (Q : α → Prop) : Prop := ∃ a, o = some a ∧ Q a
def On {α : Type} (o : Option (α × S)) (Q : α → S → Prop) : Prop := ∃ a s, o = some (a, s) ∧ Q a s
def OnS (o : Option (Fl × EnvD × S)) (N : EnvD → S → Prop) (Rt : D → S → Prop) (B C : EnvD → S → Prop) (T : D → S → Prop) : Prop :=
  ∃ f e s, o = some (f, e, s) ∧ match f with
    | .nx => N e s
    | .ret d => Rt d s
    | .bk => B e s
    | .ct => C e s
    | .rto d => T d s
section
variable {α β : Type} {Q : α → S → Prop} {e e1 e2 : EnvD} {s s1 s2 : S} {d d1 d2 : D} {i n m : Nat} {ds es : List D}
theorem on1_some {a : α} {Q : α → Prop} {o : Option α} (h : o = some a) (q : Q a) : On1 o Q := ⟨a, h, q⟩
theorem on_some {a : α} {o : Option (α × S)} (h : o = some (a, s)) (q : Q a s) : On o Q := ⟨a, s, h, q⟩
theorem On1.mono {Q Q' : α → Prop} {o : Option α} (h : On1 o Q) (k : ∀ a, Q a → Q' a) : On1 o Q' := let ⟨a, h1, h2⟩ := h; ⟨a, h1, k a h2⟩
theorem On.mono {Q' : α → S → Prop} {o : Option (α × S)} (h : On o Q) (k : ∀ a s, Q a s → Q' a s) : On o Q' := let ⟨a, s, h1, h2⟩ := h; ⟨a, s, h1, k a s h2⟩
theorem OnS.mono {o : Option (Fl × EnvD × S)} {N N' B B' C C' : EnvD → S → Prop} {Rt Rt' T T' : D → S → Prop} (h : OnS o N Rt B C T) (kn : ∀ e s, N e s → N' e s) (kr : ∀ d s, Rt d s → Rt' d s) (kb : ∀ e s, B e s → B' e s) (kc : ∀ e s, C e s → C' e s) (kt : ∀ d s, T d s → T' d s) : OnS o N' Rt' B' C' T' := by
  obtain ⟨f, e, s, h1, h2⟩ := h
  refine ⟨f, e, s, h1, ?_⟩
  cases f with
  | nx => exact kn _ _ h2
  | ret d => exact kr _ _ h2
  | bk => exact kb _ _ h2
  | ct => exact kc _ _ h2
  | rto d => exact kt _ _ h2
theorem on_cut {α : Type} {o : Option (α × S)} {Q : α → S → Prop} (h : ∀ P : α → S → Prop, P = Q → On o P) : On o Q := h Q rfl
theorem cut_end {α : Type} {P Q : α → S → Prop} {a : α} {s : S} (h : P = Q) (q : Q a s) : P a s := h ▸ q
theorem eq_of_on {a : α} {o : Option (α × S)} (h : On o fun x s1 => x = a ∧ s1 = s) : o = some (a, s) := by
  obtain ⟨x, s1, h1, rfl, rfl⟩ := h; exact h1
theorem on_bnd {o : Option (β × S)} {f : β → S → Option (α × S)} (h : On o fun b s => On (f b s) Q) : On (bnd o f) Q := by
  obtain ⟨b, s1, h1, h2⟩ := h
  unfold bnd
  rw [h1]
  exact h2
theorem on_lft {o : Option α} (h : On1 o fun a => Q a s) : On (lft o s) Q := by
  obtain ⟨a, h1, h2⟩ := h
  exact ⟨a, s, by unfold lft; rw [h1], h2⟩
/-! expressions -/
section
variable {Q : D → S → Prop} {f : D → D → Option D} {ma mb mm : ME} {mA : MA} {mt ta tb : MT}
theorem wp_var (h : e[i]? = some (.val d)) (q : Q d s) : On (mVar i e s) Q := ⟨d, s, by unfold mVar; rw [h], q⟩
theorem wp_c (q : Q d s) : On (mC d e s) Q := ⟨d, s, rfl, q⟩
theorem wp_op (h : On (ma e s) fun a s1 => On (mb e s1) fun b s2 => On1 (f a b) fun d => Q d s2) : On (mOp f ma mb e s) Q := on_bnd (h.mono fun _ _ h => on_bnd (h.mono fun _ _ h => on_lft h))
theorem wp_opM {f : D → D → S → Option (D × S)} (h : On (ma e s) fun a s1 => On (mb e s1) fun b s2 => On (f a b s2) Q) : On (mOpM f ma mb e s) Q := on_bnd (h.mono fun _ _ h => on_bnd (h.mono fun _ _ h => h))
theorem wp_un {f : D → Option D} (h : On (ma e s) fun a s1 => On1 (f a) fun d => Q d s1) : On (mUn f ma e s) Q := on_bnd (h.mono fun _ _ h => on_lft h)
theorem wp_call {f : List D → Option D} (h : On (mA e s) fun a s1 => On1 (f a) fun d => Q d s1) : On (mCall f mA e s) Q := on_bnd (h.mono fun _ _ h => on_lft h)
theorem wp_callD {md : MD} (h : On (mA e s) fun a s1 => On (md a s1) Q) : On (mCallD md mA e s) Q := on_bnd h
theorem wp_lft {o : Option D} (h : On1 o fun a => Q a s) : On (lft o s) Q := on_lft h
theorem wp_chain {f' : D → D → Option D} {mc : ME} (h : On (ma e s) fun a s1 => On (mb e s1) fun b s2 => On1 (f a b) fun k => (k = .bl true ∧ On (mc e s2) fun c s3 => On1 (f' b c) fun d => Q d s3) ∨ (k = .bl false ∧ Q (.bl false) s2)) : On (mChain f f' ma mb mc e s) Q := by
  obtain ⟨a, s1, h1, b, s2, h2, k, h3, h4⟩ := h
  unfold mChain bnd lft
  rw [h1]; dsimp only
  rw [h2]; dsimp only
  rw [h3]; dsimp only
  rcases h4 with ⟨rfl, h4⟩ | ⟨rfl, h4⟩
  · obtain ⟨c, s3, h5, d, h6, h7⟩ := h4
    refine ⟨d, s3, ?_, h7⟩
    dsimp only
    rw [h5]; dsimp only
    rw [h6]
  · exact ⟨_, _, rfl, h4⟩
theorem wp_if {mt : MT} (h : On (mt e s) fun k s1 => (k = true → On (ma e s1) Q) ∧ (k = false → On (mb e s1) Q)) : On (mIf mt ma mb e s) Q := by
  refine on_bnd (h.mono fun k s1 h => ?_)
  cases k with
  | true => exact h.1 rfl
  | false => exact h.2 rfl
theorem wp_and (h : On (ma e s) fun a s1 => On1 (truD a) fun k => (k = true → On (mb e s1) Q) ∧ (k = false → Q a s1)) : On (mAnd ma mb e s) Q := by
  refine on_bnd (h.mono fun a s1 h => ?_)
  obtain ⟨k, h1, h2⟩ := h
  rw [h1]
  cases k with
  | true => exact h2.1 rfl
  | false => exact ⟨_, _, rfl, h2.2 rfl⟩
theorem wp_or (h : On (ma e s) fun a s1 => On1 (truD a) fun k => (k = true → Q a s1) ∧ (k = false → On (mb e s1) Q)) : On (mOr ma mb e s) Q := by
  refine on_bnd (h.mono fun a s1 h => ?_)
  obtain ⟨k, h1, h2⟩ := h
  rw [h1]
  cases k with
  | true => exact ⟨_, _, rfl, h2.1 rfl⟩
  | false => exact h2.2 rfl
theorem wp_tup (h : On (mA e s) fun ds s1 => ds.length ≤ sizeLine ∧ Q (.tup ds) s1) : On (mTup mA e s) Q := on_bnd (h.mono fun ds s1 h => ⟨_, _, if_pos h.1, h.2⟩)
theorem wp_lst (h : On (mA e s) fun ds s1 => ds.length ≤ sizeLine ∧ Q (.lst ds) s1) : On (mLst mA e s) Q := on_bnd (h.mono fun ds s1 h => ⟨_, _, if_pos h.1, h.2⟩)
theorem wp_bor (h : On (ma (frzE i e) s) fun d s1 => noL d = true ∧ s1.all noC = true ∧ Q d s1) : On (mBor i ma e s) Q := by
  refine on_bnd (h.mono fun d s1 h => ⟨d, s1, ?_, h.2.2⟩)
  rw [h.1, h.2.1]; rfl
theorem wp_fbor (h : On (ma (frzE i e) s) fun d s1 => noC d = true ∧ s1.all noC = true ∧ Q d s1) : On (fBor i ma e s) Q := by
  refine on_bnd (h.mono fun d s1 h => ⟨d, s1, ?_, h.2.2⟩)
  rw [h.1, h.2.1]; rfl
theorem wp_fld {c f : Str} (h : On (ma e s) fun x s1 => ∃ fs, x = .obj c fs ∧ On1 (lookF fs f) fun d => Q d s1) : On (mFld c f ma e s) Q := by
  refine on_bnd (h.mono fun x s1 h => ?_)
  obtain ⟨fs, rfl, d, h1, h2⟩ := h
  exact ⟨d, s1, by simp [h1, lft], h2⟩
theorem wp_cel (h : On (ma e s) fun d s1 => Q (.cel s1.length) (s1 ++ [d])) : On (mCel ma e s) Q := on_bnd (h.mono fun d s1 h => ⟨_, _, rfl, h⟩)
end
/-! arguments -/
section
variable {Q : List D → S → Prop} {mm : ME} {mA : MA}
theorem wp_anil (q : Q [] s) : On (aNil e s) Q := ⟨_, _, rfl, q⟩
theorem wp_none (q : Q [] s) : On (mNone e s) Q := ⟨_, _, rfl, q⟩
theorem wp_acons (h : On (mm e s) fun d s1 => On (mA e s1) fun ds s2 => Q (d :: ds) s2) : On (aCons mm mA e s) Q := on_bnd (h.mono fun _ _ h => on_bnd (h.mono fun _ _ h => ⟨_, _, rfl, h⟩))
theorem wp_astar (h : On (mm e s) fun d s1 => On1 (itemsD d) fun xs => On (mA e s1) fun ds s2 => Q (xs ++ ds) s2) : On (aStar mm mA e s) Q := on_bnd (h.mono fun _ _ h => on_bnd (on_lft (h.mono fun _ h => on_bnd (h.mono fun _ _ h => ⟨_, _, rfl, h⟩))))
/-! iterables -/
theorem wp_seq' (h : On (mm e s) fun d s1 => (∃ xs, d = .lst xs ∧ Q xs s1) ∨ (∃ xs, d = .tup xs ∧ Q xs s1) ∨ (∃ x, d = .str x ∧ Q (chD x) s1)) : On (seqI mm e s) Q := by
  refine on_bnd (h.mono fun d s1 h => ?_)
  rcases h with ⟨xs, rfl, h⟩ | ⟨xs, rfl, h⟩ | ⟨xs, rfl, h⟩ <;> exact ⟨_, _, rfl, h⟩
theorem wp_rng (h : On (mA e s) fun ds s1 => ∃ q : Int, ds = [.int q] ∧ 0 ≤ q ∧ q < 4611686018427387904 ∧ Q (rngD 0 q.toNat) s1) : On (rngI mA e s) Q := by
  refine on_bnd (h.mono fun d s1 h => ?_)
  obtain ⟨q, rfl, h0, h1, h⟩ := h
  have c : -(2 ^ 62) ≤ q ∧ q < 2 ^ 62 := by omega
  refine ⟨_, _, ?_, h⟩
  simp only [c, and_self, if_true]
theorem wp_enum (h : On (mA e s) fun ds s1 => ∃ xs, (ds = [.lst xs] ∨ ds = [.tup xs]) ∧ Q (enumD xs) s1) : On (enum2I mA e s) Q := by
  refine on_bnd (h.mono fun d s1 h => ?_)
  obtain ⟨xs, rfl | rfl, h⟩ := h <;> exact ⟨_, _, rfl, h⟩
theorem wp_zip (h : On (mA e s) fun ds s1 => ∃ xs ys, (ds = [.lst xs, .lst ys] ∨ ds = [.tup xs, .tup ys]) ∧ Q (zipD xs ys) s1) : On (zipI mA e s) Q := by
  refine on_bnd (h.mono fun d s1 h => ?_)
  obtain ⟨xs, ys, rfl | rfl, h⟩ := h <;> exact ⟨_, _, rfl, h⟩
end
/-! tests -/
section
variable {Q : Bool → S → Prop} {mm : ME} {ta tb : MT}
theorem wp_t (h : On (mm e s) fun d s1 => On1 (truD d) fun k => Q k s1) : On (mT mm e s) Q := on_bnd (h.mono fun _ _ h => on_lft h)
theorem wp_tand (h : On (ta e s) fun k s1 => (k = true → On (tb e s1) Q) ∧ (k = false → Q false s1)) : On (tAndZ ta tb e s) Q := by
  refine on_bnd (h.mono fun k s1 h => ?_)
  cases k with
  | true => exact h.1 rfl
  | false => exact ⟨_, _, rfl, h.2 rfl⟩
theorem wp_tor (h : On (ta e s) fun k s1 => (k = true → Q true s1) ∧ (k = false → On (tb e s1) Q)) : On (tOrZ ta tb e s) Q := by
  refine on_bnd (h.mono fun k s1 h => ?_)
  cases k with
  | true => exact ⟨_, _, rfl, h.1 rfl⟩
  | false => exact h.2 rfl
theorem wp_tnot (h : On (ta e s) fun k s1 => Q (!k) s1) : On (tNotZ ta e s) Q := on_bnd (h.mono fun _ _ h => ⟨_, _, rfl, h⟩)
theorem wp_tbor (h : On (ta (frzE i e) s) fun k s1 => s1.all noC = true ∧ Q k s1) : On (tBor i ta e s) Q := by
  refine on_bnd (h.mono fun d s1 h => ⟨d, s1, ?_, h.2⟩)
  rw [h.1]
theorem wp_yes (q : Q true s) : On (yesT e s) Q := ⟨_, _, rfl, q⟩
end
/-! optional bounds -/
section
variable {Q : Option Int → S → Prop} {Q' : D → S → Prop} {mm : ME} {ml mh : MO} {f : D → Option Int → Option Int → Option D}
theorem wp_onone (q : Q none s) : On (oNone e s) Q := ⟨_, _, rfl, q⟩
theorem wp_osome (h : On (mm e s) fun d s1 => ∃ i, d = .int i ∧ -4611686018427387904 ≤ i ∧ i < 4611686018427387904 ∧ Q (some i) s1) : On (oSome mm e s) Q := by
  refine on_bnd (h.mono fun d s1 h => ?_)
  obtain ⟨i, rfl, h1, h2, h⟩ := h
  refine ⟨_, _, ?_, h⟩
  simp only [show -(2 ^ 62) ≤ i ∧ i < 2 ^ 62 by omega, and_self, if_true]
theorem wp_sl (h : On (mm e s) fun d s1 => On (ml e s1) fun lo s2 => On (mh e s2) fun hi s3 => On1 (f d lo hi) fun r => Q' r s3) : On (mSl f mm ml mh e s) Q' := on_bnd (h.mono fun _ _ h => on_bnd (h.mono fun _ _ h => on_bnd (h.mono fun _ _ h => on_lft h)))
end
/-! targets -/
section
variable {Q : EnvD → S → Prop} {mg : MG} {ms : MGs}
theorem wp_gnm (q : Q (e.set i (.val d)) s) : On (gNm i d e s) Q := ⟨_, _, rfl, q⟩
theorem wp_gseqT (h : On (ms ds e s) Q) : On (gSeq ms (.tup ds) e s) Q := h
theorem wp_gseqL (h : On (ms ds e s) Q) : On (gSeq ms (.lst ds) e s) Q := h
theorem wp_gsnil (q : Q e s) : On (gsNil [] e s) Q := ⟨_, _, rfl, q⟩
theorem wp_gscons (h : On (mg d e s) fun e1 s1 => On (ms ds e1 s1) Q) : On (gsCons mg ms (d :: ds) e s) Q := by
  obtain ⟨e1, s1, h1, h2⟩ := h
  unfold gsCons
  show On (match mg d e s with
    | some (e', s') => ms ds e' s'
    | none => none) Q
  rw [h1]
  exact h2
theorem wp_gstar (h1 : i < n ∧ n ≤ ds.length + 1 ∧ ds.length ≤ 16384) (h : On (ms (ds.take i ++ [.lst ((ds.drop i).take (ds.length + 1 - n))] ++ (ds.drop i).drop (ds.length + 1 - n)) e s) Q) : On (gStar i n ms (.lst ds) e s) Q := by
  unfold gStar
  dsimp only
  rw [if_pos h1]
  exact h
end
section
variable {Q : List Sl → S → Prop} {mm : ME} {mx : MX}
theorem wp_xnil (q : Q [] s) : On (xNil e s) Q := ⟨_, _, rfl, q⟩
theorem wp_xval (h : On (mm e s) fun d s1 => On (mx e s1) fun ds s2 => Q (.val d :: ds) s2) : On (xVal mm mx e s) Q := on_bnd (h.mono fun _ _ h => on_bnd (h.mono fun _ _ h => ⟨_, _, rfl, h⟩))
theorem wp_xown (h : On (mm e s) fun d s1 => On (mx e s1) fun ds s2 => Q (.own d :: ds) s2) : On (xOwn mm mx e s) Q := on_bnd (h.mono fun _ _ h => on_bnd (h.mono fun _ _ h => ⟨_, _, rfl, h⟩))
end
/-! statements -/
section
variable {N B C : EnvD → S → Prop} {Rt T : D → S → Prop} {a b : MS} {mm : ME} {mt : MT} {mi : MI} {mg : MG}
theorem ons_bndS {β : Type} {o : Option (β × S)} {f : β → S → Option (Fl × EnvD × S)} (h : On o fun b s => OnS (f b s) N Rt B C T) : OnS (bndS o f) N Rt B C T := by
  obtain ⟨b, s1, h1, h2⟩ := h
  unfold bndS
  rw [h1]
  exact h2
theorem wp_nil (q : N e s) : OnS (sNil e s) N Rt B C T := ⟨_, _, _, rfl, q⟩
theorem wp_seq (h : OnS (a e s) (fun e1 s1 => OnS (b e1 s1) N Rt B C T) Rt B C T) : OnS (sSeq a b e s) N Rt B C T := by
  obtain ⟨f, e1, s1, h1, h2⟩ := h
  unfold sSeq
  rw [h1]
  cases f with
  | nx => exact h2
  | _ => exact ⟨_, _, _, rfl, h2⟩
theorem wp_expr (h : On (mm e s) fun _ s1 => N e s1) : OnS (sExpr mm e s) N Rt B C T := ons_bndS (h.mono fun _ _ h => ⟨_, _, _, rfl, h⟩)
theorem wp_ret (h : On (mm e s) Rt) : OnS (sRet mm e s) N Rt B C T := ons_bndS (h.mono fun _ _ h => ⟨_, _, _, rfl, h⟩)
theorem wp_rto (h : On (mm e s) T) : OnS (sRto mm e s) N Rt B C T := ons_bndS (h.mono fun _ _ h => ⟨_, _, _, rfl, h⟩)
theorem wp_retn (h : Rt .non s) : OnS (sRetN e s) N Rt B C T := ⟨_, _, _, rfl, h⟩
theorem wp_sif (h : On (mt e s) fun k s1 => (k = true → OnS (a e s1) N Rt B C T) ∧ (k = false → OnS (b e s1) N Rt B C T)) : OnS (sIf mt a b e s) N Rt B C T := by
  refine ons_bndS (h.mono fun k s1 h => ?_)
  cases k with
  | true => exact h.1 rfl
  | false => exact h.2 rfl
theorem wp_set (h : On (mm e s) fun d s1 => N (e.set i (.val d)) s1) : OnS (sSet i mm e s) N Rt B C T := ons_bndS (h.mono fun _ _ h => ⟨_, _, _, rfl, h⟩)
theorem wp_own (h : On (mm e s) fun d s1 => N (e.set i (.own d)) s1) : OnS (sOwn i mm e s) N Rt B C T := ons_bndS (h.mono fun _ _ h => ⟨_, _, _, rfl, h⟩)
theorem wp_frz (h : OnS (a (frzE i e) s) N Rt B C T) : OnS (sFrz i a e s) N Rt B C T := h
theorem wp_app (hi : e[i]? = some (.own (.lst ds))) (h : On (mm e s) fun d s1 => ds.length < sizeLine ∧ N (e.set i (.own (.lst (ds ++ [d])))) s1) : OnS (sApp i mm e s) N Rt B C T := by
  refine ons_bndS (h.mono fun d s1 h => ⟨.nx, _, s1, ?_, h.2⟩)
  rw [hi]
  show (if ds.length < sizeLine then some (Fl.nx, List.set e i (Sl.own (D.lst (ds ++ [d]))), s1) else none) = _
  rw [if_pos h.1]
theorem wp_for (h : On (mi e s) fun ds s1 => OnS (forL mg a ds e s1) N Rt B C T) : OnS (sFor mi mg a e s) N Rt B C T := ons_bndS h
theorem wp_brk (q : B e s) : OnS (sBrk e s) N Rt B C T := ⟨_, _, _, rfl, q⟩
theorem wp_cont (q : C e s) : OnS (sCont e s) N Rt B C T := ⟨_, _, _, rfl, q⟩
theorem wp_asg (h : On (mm e s) fun d s1 => On (mg d e s1) N) : OnS (sAsg mg mm e s) N Rt B C T := by
  refine ons_bndS (h.mono fun d s1 h => ?_)
  obtain ⟨e1, s2, h1, h2⟩ := h
  rw [h1]
  exact ⟨_, _, _, rfl, h2⟩
theorem wp_par {is : List Nat} {mx : MX} (h : On (mx e s) fun sl s1 => sl.length = is.length ∧ N (setX is sl e) s1) : OnS (sPar is mx e s) N Rt B C T := by
  refine ons_bndS (h.mono fun d s1 h => ?_)
  rw [if_pos h.1]
  exact ⟨_, _, _, rfl, h.2⟩
end
section
variable {Q : D → S → Prop} {b : MS} {bN : MN}
theorem wp_mkD (hl : ds.length = n) (h : OnS (b (startE n m ds) s) (fun _ s1 => Q .non s1) Q (fun _ _ => False) (fun _ _ => False) (fun _ _ => False)) : On (mkD n m b ds s) Q := by
  obtain ⟨f, e1, s1, h1, h2⟩ := h
  unfold mkD
  rw [if_pos hl, h1]
  cases f with
  | nx => exact ⟨_, _, rfl, h2⟩
  | ret d => exact ⟨_, _, rfl, h2⟩
  | _ => exact h2.elim
theorem wp_mkF (hl : ds.length = n) (h : OnS (b (startE n m ds) s) (fun _ _ => False) (fun _ _ => False) (fun _ _ => False) (fun _ _ => False) Q) : On (mkF n m b ds s) Q := by
  obtain ⟨f, e1, s1, h1, h2⟩ := h
  unfold mkF
  rw [if_pos hl, h1]
  cases f with
  | rto d => exact ⟨_, _, rfl, h2⟩
  | _ => exact h2.elim
theorem wp_make {c : Str} {mi : MI0} (h : On (mi ds s) fun fs s1 => Q (.obj c fs) s1) : On (mdMake c mi ds s) Q := by
  obtain ⟨fs, s1, h1, h2⟩ := h
  unfold mdMake
  rw [h1]
  exact ⟨_, _, rfl, h2⟩
theorem wp_pick {ix : List Nat} {md : MD} (h : On (md (pick ix ds) s) Q) : On (mdPick ix md ds s) Q := h
theorem wp_cls {c : Str} {md : MD} {mA : MA} (he : e[i]? = some (.val (.ty c))) (h : On (mA e s) fun ds s1 => On (md ds s1) Q) : On (mCls c i md mA e s) Q := by
  unfold mCls
  rw [he]
  dsimp only
  rw [if_pos rfl]
  exact on_bnd h
theorem wp_cm {c : Str} {md : MD} {mo : ME} {mA : MA} (h : On (mo e s) fun x s1 => x = .ty c ∧ On (mA e s1) fun ds s2 => On (md (.ty c :: ds) s2) Q) : On (mCm c md mo mA e s) Q := by
  refine on_bnd (h.mono fun x s1 h => ?_)
  obtain ⟨rfl, h⟩ := h
  dsimp only
  rw [if_pos rfl]
  exact on_bnd h
theorem wp_prop {c : Str} {md : MD} {mo : ME} (h : On (mo e s) fun x s1 => ∃ fs, x = .obj c fs ∧ On (md [x] s1) Q) : On (mProp c md mo e s) Q := by
  refine on_bnd (h.mono fun x s1 h => ?_)
  obtain ⟨fs, rfl, h⟩ := h
  simpa using h
theorem wp_ownD {c : Str} {md : MD} {ok : D → Bool} {fs : List (Str × D)} (h : On (md [.obj c fs] s) fun r s1 => ok r = true ∧ Q r s1) : On (ownD c md ok [.obj c fs] s) Q := by
  obtain ⟨r, s1, h1, h2, h3⟩ := h
  unfold ownD
  have : ofC c (.obj c fs) = true := by simp [ofC]
  simp only [this, h1, h2, if_true]
  exact ⟨_, _, rfl, h3⟩
theorem wp_ownSub {c : Str} {md : MD} {fs : List (Str × D)} (h : On (md [.obj c fs, d] s) Q) : On (ownSub c md (.obj c fs) d s) Q := by
  unfold ownSub
  have : ofC c (.obj c fs) = true := by simp [ofC]
  simpa only [this] using h
theorem wp_ownIn {c : Str} {md : MD} {fs : List (Str × D)} (h : On (md [.obj c fs, d] s) fun r s1 => ∃ k, r = .bl k ∧ Q (.bl k) s1) : On (ownIn c md d (.obj c fs) s) Q := by
  obtain ⟨r, s1, h1, k, rfl, h2⟩ := h
  unfold ownIn
  have : ofC c (.obj c fs) = true := by simp [ofC]
  simp only [this, h1]
  exact ⟨_, _, rfl, h2⟩
theorem wp_ownNotIn {c : Str} {md : MD} {fs : List (Str × D)} (h : On (md [.obj c fs, d] s) fun r s1 => ∃ k, r = .bl k ∧ Q (.bl (!k)) s1) : On (ownNotIn c md d (.obj c fs) s) Q := by
  obtain ⟨r, s1, h1, k, rfl, h2⟩ := h
  unfold ownNotIn
  have : ofC c (.obj c fs) = true := by simp [ofC]
  simp only [this, h1]
  exact ⟨_, _, rfl, h2⟩
end
end
end Z
namespace Z
open PySem PySem.Spec PyProof.Rows L2
section
variable {Q : D → Prop} {Q1 : D → S → Prop} {A B : Prop} {s : S} {i j k : Int} {e : EnvD} {ds es : List D} {n : Nat} {d : D}
theorem wp_lc {vs : List Nat} {mi : MI} {mc : MC} {mt : MT} {me : ME} (h : On (mi e s) fun ds s1 => On (lcL mc mt me (wipeE e vs) ds s1) fun ys s2 => ys.length ≤ sizeLine ∧ Q1 (.lst ys) s2) : On (mLc vs mi mc mt me e s) Q1 :=
  on_bnd (h.mono fun _ _ h => on_bnd (h.mono fun _ _ h => ⟨_, _, if_pos h.1, h.2⟩))
theorem wp_lc2 {vs vs1 : List Nat} {mi mi1 : MI} {mc mc1 : MC} {mt mt1 : MT} {me : ME} (h : On (mi e s) fun ds s1 => On (lcL2 mc mt mi1 vs1 mc1 mt1 me (wipeE e vs) ds s1) fun ys s2 => ys.length ≤ sizeLine ∧ Q1 (.lst ys) s2) : On (mLc2 vs mi mc mt mi1 vs1 mc1 mt1 me e s) Q1 :=
  on_bnd (h.mono fun _ _ h => on_bnd (h.mono fun _ _ h => ⟨_, _, if_pos h.1, h.2⟩))
theorem wp_dc {vs : List Nat} {mi : MI} {mc : MC} {mt : MT} {mk mv : ME} (h : On (mi e s) fun ds s1 => On (dcL mc mt mk mv (wipeE e vs) ds [] s1) fun ys s2 => Q1 (.dic ys) s2) : On (mDc vs mi mc mt mk mv e s) Q1 :=
  on_bnd (h.mono fun _ _ h => on_bnd (h.mono fun _ _ h => ⟨_, _, rfl, h⟩))
theorem wp_dc2 {vs vs1 : List Nat} {mi mi1 : MI} {mc mc1 : MC} {mt mt1 : MT} {mk mv : ME} (h : On (mi e s) fun ds s1 => On (dcL2 mc mt mi1 vs1 mc1 mt1 mk mv (wipeE e vs) ds [] s1) fun ys s2 => Q1 (.dic ys) s2) : On (mDc2 vs mi mc mt mi1 vs1 mc1 mt1 mk mv e s) Q1 :=
  on_bnd (h.mono fun _ _ h => on_bnd (h.mono fun _ _ h => ⟨_, _, rfl, h⟩))
theorem wp_mul (h : CMulZ i j) (q : Q (.int (i * j))) : On1 (mulD (.int i) (.int j)) Q := ⟨_, by unfold mulD; exact if_pos h, q⟩
theorem wp_mod (h : 0 < j) (q : Q (.int (i % j))) : On1 (modD (.int i) (.int j)) Q := ⟨_, by unfold modD; exact if_pos h, q⟩
theorem wp_fdiv (h : 0 < j) (h2 : j.natAbs.log2 < 9000) (q : Q (.int (i / j))) : On1 (fdivD (.int i) (.int j)) Q := ⟨_, by unfold fdivD; exact if_pos ⟨h, h2⟩, q⟩
theorem wp_eqI (q : Q (.bl (decide (i = j)))) : On1 (eqD (.int i) (.int j)) Q := ⟨_, by simp [eqD, eqB, toV0, scal], q⟩
theorem wp_neI (q : Q (.bl (!decide (i = j)))) : On1 (neD (.int i) (.int j)) Q := ⟨_, by simp [neD, eqB, toV0, scal], q⟩
theorem wp_eqS {x y : Str} (q : Q (.bl (decide (x = y)))) : On1 (eqD (.str x) (.str y)) Q := ⟨_, by simp [eqD, eqB, toV0, scal], q⟩
theorem wp_neS {x y : Str} (q : Q (.bl (!decide (x = y)))) : On1 (neD (.str x) (.str y)) Q := ⟨_, by simp [neD, eqB, toV0, scal], q⟩
theorem wp_addL (h : ds.length + es.length ≤ 1000) (q : Q (.lst (ds ++ es))) : On1 (addAll (.lst ds) (.lst es)) Q := by
  have q1 : ds.length + es.length ≤ sizeLine := by rw [sizeLine_eq]; omega
  exact ⟨_, by simp [addAll, addD, catD, q1], q⟩
theorem wp_catL (h : ds.length + es.length ≤ 1000) (q : Q (.lst (ds ++ es))) : On1 (catD (.lst ds) (.lst es)) Q := by
  have q1 : ds.length + es.length ≤ sizeLine := by rw [sizeLine_eq]; omega
  exact ⟨_, by simp [catD, q1], q⟩
theorem wp_addS {x y : Str} (h : x.length + y.length ≤ 16777216) (q : Q (.str (x ++ y))) : On1 (addD (.str x) (.str y)) Q := by
  have q1 : x.length + y.length ≤ sizeLine := by rw [sizeLine_eq]; omega
  exact ⟨_, by simp [addD, q1], q⟩
theorem wp_brT (a : A) : (true = true → A) ∧ (true = false → B) := ⟨fun _ => a, fun h => nomatch h⟩
theorem wp_brF (b : B) : (false = true → A) ∧ (false = false → B) := ⟨(fun h => nomatch h), fun _ => b⟩
theorem wp_brNF (b : B) : ((!true) = true → A) ∧ ((!true) = false → B) := ⟨(fun h => nomatch h), fun _ => b⟩
theorem wp_brNT (a : A) : ((!false) = true → A) ∧ ((!false) = false → B) := ⟨fun _ => a, fun h => nomatch h⟩
theorem br {P : Prop} [Decidable P] (a : P → A) (b : ¬P → B) : (decide P = true → A) ∧ (decide P = false → B) := ⟨fun h => a (of_decide_eq_true h), fun h => b (of_decide_eq_false h)⟩
theorem brN {P : Prop} [Decidable P] (a : ¬P → A) (b : P → B) : ((!decide P) = true → A) ∧ ((!decide P) = false → B) := ⟨fun h => a (by simpa using h), fun h => b (by simpa using h)⟩
theorem wp_sz (h : n ≤ 1000) (a : A) : n ≤ sizeLine ∧ A := ⟨by rw [sizeLine_eq]; omega, a⟩
theorem wp_szl (h : n < 1000) (a : A) : n < sizeLine ∧ A := ⟨by rw [sizeLine_eq]; omega, a⟩
theorem wp_len {m : Nat} (h : n = m) (a : A) : n = m ∧ A := ⟨h, a⟩
theorem wp_rngq {A : Int → Prop} (h0 : 0 ≤ i) (h1 : i < 4611686018427387904) (a : A i) : ∃ q : Int, [D.int i] = [.int q] ∧ 0 ≤ q ∧ q < 4611686018427387904 ∧ A q := ⟨i, rfl, h0, h1, a⟩
theorem wp_exL {A : List D → Prop} {B : List D → Prop} {C : Str → Prop} (a : A ds) : (∃ xs, D.lst ds = .lst xs ∧ A xs) ∨ (∃ xs, D.lst ds = .tup xs ∧ B xs) ∨ (∃ x, D.lst ds = .str x ∧ C x) := .inl ⟨_, rfl, a⟩
theorem wp_exT {A : List D → Prop} {B : List D → Prop} {C : Str → Prop} (b : B ds) : (∃ xs, D.tup ds = .lst xs ∧ A xs) ∨ (∃ xs, D.tup ds = .tup xs ∧ B xs) ∨ (∃ x, D.tup ds = .str x ∧ C x) := .inr (.inl ⟨_, rfl, b⟩)
theorem wp_exStr {A : List D → Prop} {B : List D → Prop} {C : Str → Prop} {x : Str} (c : C x) : (∃ xs, D.str x = .lst xs ∧ A xs) ∨ (∃ xs, D.str x = .tup xs ∧ B xs) ∨ (∃ x', D.str x = .str x' ∧ C x') := .inr (.inr ⟨_, rfl, c⟩)
theorem wp_exO {c : Str} {fs : List (Str × D)} {A : List (Str × D) → Prop} (a : A fs) : ∃ fs', D.obj c fs = .obj c fs' ∧ A fs' := ⟨_, rfl, a⟩
theorem wp_exI {A : Int → Prop} (h0 : -4611686018427387904 ≤ i) (h1 : i < 4611686018427387904) (a : A i) : ∃ j, D.int i = .int j ∧ -4611686018427387904 ≤ j ∧ j < 4611686018427387904 ∧ A j := ⟨_, rfl, h0, h1, a⟩
theorem wp_exe {xs : List D} {A : List D → Prop} (a : A xs) : ∃ ys, ([D.lst xs] = [.lst ys] ∨ [D.lst xs] = [.tup ys]) ∧ A ys := ⟨_, .inl rfl, a⟩
theorem wp_exi {xs : List D} {A : List D → Prop} (a : A xs) : ∃ ys, ([D.tup xs] = [.lst ys] ∨ [D.tup xs] = [.tup ys]) ∧ A ys := ⟨_, .inr rfl, a⟩
theorem wp_exi1 {xs ys : List D} {A : List D → List D → Prop} (a : A xs ys) : ∃ xs' ys', ([D.tup xs, D.tup ys] = [.lst xs', .lst ys'] ∨ [D.tup xs, D.tup ys] = [.tup xs', .tup ys']) ∧ A xs' ys' := ⟨_, _, .inr rfl, a⟩
/-- a pure comprehension over typed items -/
theorem wp_lcF {α β : Type} {mc : MC} {mt : MT} {me : ME} (ea : α → D) (eb : β → D) (p : α → Bool) (f : α → β) (xs : List α) {Q : List D → S → Prop}
    (h : ∀ x ∈ xs, On1 (mc (ea x) e) fun e1 => On (mt e1 s) fun k s1 => k = p x ∧ s1 = s ∧ (p x = true → On (me e1 s) fun d s2 => d = eb (f x) ∧ s2 = s))
    (q : Q (((xs.filter p).map f).map eb) s) : On (lcL mc mt me e (xs.map ea) s) Q := by
  refine on_some ?_ q
  clear q
  induction xs with
  | nil => rfl
  | cons x xs ih =>
    obtain ⟨e1, h1, k, s1, h2, rfl, rfl, h3⟩ := h x (by simp)
    have ih := ih fun y hy => h y (by simp [hy])
    rw [List.map_cons]
    unfold lcL
    rw [h1]; dsimp only
    rw [h2]
    cases hp : p x with
    | false => simp only [ih]; rw [List.filter_cons_of_neg (by simp [hp])]
    | true =>
      obtain ⟨d, s2, h4, rfl, rfl⟩ := h3 hp
      dsimp only
      rw [h4]; dsimp only
      rw [ih]; dsimp only
      rw [List.filter_cons_of_pos hp]; rfl
theorem wp_lcM {α β : Type} {mc : MC} {me : ME} (ea : α → D) (eb : β → D) (f : α → β) (xs : List α) {Q : List D → S → Prop}
    (h : ∀ x ∈ xs, On1 (mc (ea x) e) fun e1 => On (me e1 s) fun d s2 => d = eb (f x) ∧ s2 = s)
    (q : Q ((xs.map f).map eb) s) : On (lcL mc yesT me e (xs.map ea) s) Q := by
  refine wp_lcF ea eb (fun _ => true) f xs (fun x hx => ?_) (by rw [show xs.filter (fun _ => true) = xs from List.filter_eq_self.mpr fun _ _ => rfl]; exact q)
  obtain ⟨e1, h1, h2⟩ := h x hx
  exact ⟨e1, h1, true, s, rfl, rfl, rfl, fun _ => h2⟩
/-- a comprehension whose elements move the state -/
theorem wp_lcI {mc : MC} {me : ME} (I : Nat → S → Prop) (P : Nat → D → Prop) {Q : List D → S → Prop} (h0 : I 0 s)
    (h : ∀ j s d, ds[j]? = some d → I j s → On1 (mc d e) fun e1 => On (me e1 s) fun r s' => P j r ∧ I (j + 1) s')
    (q : ∀ ys s', I ds.length s' → ys.length = ds.length → (∀ j y, ys[j]? = some y → P j y) → Q ys s') : On (lcL mc yesT me e ds s) Q := by
  obtain ⟨ys, s', h1, h2, h3, h4⟩ := lc_inv (mc := mc) (me := me) (e := e) I P ds 0 s h0 fun j s d hd hI => by
    rw [Nat.zero_add] at hI ⊢
    obtain ⟨e1, h1, r, s', h2, h3, h4⟩ := h j s d hd hI
    exact ⟨e1, r, s', h1, h2, h3, h4⟩
  rw [Nat.zero_add] at h2
  exact ⟨ys, s', h1, q ys s' h2 h3 fun j y hy => by simpa using h4 j y hy⟩
/-- a loop by its invariant; a turn may end the def -/
theorem wp_forI {mg : MG} {mb : MS} {N : EnvD → S → Prop} {Rt B C T} (I : Nat → EnvD → S → Prop) (h0 : I 0 e s)
    (h : ∀ j e s d, ds[j]? = some d → I j e s → On (mg d e s) fun e1 s1 => OnS (mb e1 s1) (I (j + 1)) Rt N (I (j + 1)) T)
    (q : ∀ e s, I ds.length e s → N e s) : OnS (forL mg mb ds e s) N Rt B C T := by
  have key : ∀ (ds' : List D) (i : Nat) (e : EnvD) (s : S), I i e s → (∀ j, ds'[j]? = ds[i + j]?) → i + ds'.length = ds.length → OnS (forL mg mb ds' e s) N Rt B C T := by
    intro ds'
    induction ds' with
    | nil => intro i e s hI _ hl; exact ⟨_, _, _, rfl, q e s (by simpa [← hl] using hI)⟩
    | cons d ds' ih =>
      intro i e s hI hd hl
      obtain ⟨e1, s1, h1, f, e2, s2, h2, h3⟩ := h i e s d (by have := hd 0; simpa using this.symm) hI
      unfold forL
      rw [h1]; dsimp only
      rw [h2]
      have nxt := ih (i + 1) e2 s2
      have hd' : ∀ j, ds'[j]? = ds[i + 1 + j]? := fun j => by
        have := hd (j + 1)
        rw [show i + 1 + j = i + (j + 1) by omega]
        simpa using this
      have hl' : i + 1 + ds'.length = ds.length := by rw [← hl]; simp; omega
      cases f with
      | nx => exact nxt h3 hd' hl'
      | ct => exact nxt h3 hd' hl'
      | bk => exact ⟨_, _, _, rfl, h3⟩
      | ret d => exact ⟨_, _, _, rfl, h3⟩
      | rto d => exact ⟨_, _, _, rfl, h3⟩
  exact key ds 0 e s h0 (fun j => by simp) (by simp)
end
end Z
namespace Z
open PySem PySem.Spec PyProof.Rows L2
section
variable {Q : List (Str × D) → S → Prop} {e : EnvD} {s : S} {fs : List (Str × D)} {ds : List D} {n m : Nat}
theorem on_bndN {β : Type} {o : Option (β × S)} {f : β → S → Option (List (Str × D) × S)} (h : On o fun b s => On (f b s) Q) : On (bndN o f) Q := by
  obtain ⟨b, s1, h1, h2⟩ := h
  unfold bndN
  rw [h1]
  exact h2
theorem wp_nnil (q : Q fs s) : On (nNil e fs s) Q := ⟨_, _, rfl, q⟩
theorem wp_nseq {m1 m2 : MN} (h : On (m1 e fs s) fun fs s => On (m2 e fs s) Q) : On (nSeq m1 m2 e fs s) Q := on_bndN h
theorem wp_nexpr {mm : ME} (h : On (mm e s) fun _ s => Q fs s) : On (nExpr mm e fs s) Q := on_bndN (h.mono fun _ _ h => ⟨_, _, rfl, h⟩)
theorem wp_nnot {mt : MT} (h : On (mt e s) fun k s => k = false ∧ Q fs s) : On (nNot mt e fs s) Q := on_bndN (h.mono fun k s h => by
  obtain ⟨rfl, h⟩ := h
  exact ⟨_, _, rfl, h⟩)
theorem wp_nfld {f : Str} {mm : ME} (hl : fs.length < 1000) (h : On (mm e s) fun d s => Q (putFD f d fs) s) : On (nFld f mm e fs s) Q := on_bndN (h.mono fun d s h => ⟨_, _, if_pos hl, h⟩)
theorem wp_mkI {b : MN} (hl : ds.length = n) (h : On (b (startI n m ds) [] s) Q) : On (mkI n m b ds s) Q := by
  unfold mkI
  rw [if_pos hl]
  exact h
end
section
variable {Q : D → S → Prop} {Q1 : D → Prop} {e : EnvD} {s : S}
def ChLe (s3 s2 : S) (a b c : D) (Q : D → S → Prop) : Prop := s3 = s2 ∧ ∃ i j k, a = .int i ∧ b = .int j ∧ c = .int k ∧ Q (.bl (decide (i ≤ j) && decide (j ≤ k))) s2
theorem wp_chainLe {ma mb mc : ME} (h : On (ma e s) fun a s1 => On (mb e s1) fun b s2 => On (mc e s2) fun c s3 => ChLe s3 s2 a b c Q) : On (mChain leD leD ma mb mc e s) Q := by
  refine wp_chain (h.mono fun a s1 h => h.mono fun b s2 h => ?_)
  obtain ⟨c, s3, h1, rfl, i, j, k, rfl, rfl, rfl, q⟩ := h
  refine ⟨.bl (decide (i ≤ j)), rfl, ?_⟩
  cases h2 : decide (i ≤ j) with
  | true => rw [h2] at q; exact .inl ⟨rfl, .int k, s3, h1, _, rfl, q⟩
  | false => rw [h2] at q; exact .inr ⟨rfl, q⟩
theorem wp_chC {i j k : Int} (q : Q (.bl (decide (i ≤ j) && decide (j ≤ k))) s) : ChLe s s (.int i) (.int j) (.int k) Q := ⟨rfl, _, _, _, rfl, rfl, rfl, q⟩
end
end Z
namespace Z
open PySem PySem.Spec PyProof.Rows L2
theorem ons_nx {o : Option (Fl × EnvD × S)} {e : EnvD} {s : S} {N B C : EnvD → S → Prop} {Rt T : D → S → Prop} (h : o = some (.nx, e, s)) (q : N e s) : OnS o N Rt B C T := ⟨_, _, _, h, q⟩
end Z
namespace Z
theorem is_On {α : Type} {o : Option (α × S)} {Q : α → S → Prop} (h : On o Q) : On o Q := h
theorem is_On1 {α : Type} {o : Option α} {Q : α → Prop} (h : On1 o Q) : On1 o Q := h
theorem is_OnS {o : Option (Fl × EnvD × S)} {N B C : EnvD → S → Prop} {Rt T : D → S → Prop} (h : OnS o N Rt B C T) : OnS o N Rt B C T := h
theorem is_OnB {o : Option (Bool × S)} {Q : Bool → S → Prop} (h : On o Q) : On o Q := h
theorem is_OnD {o : Option (D × S)} {Q : D → S → Prop} (h : On o Q) : On o Q := h
theorem is_OnL {o : Option (List D × S)} {Q : List D → S → Prop} (h : On o Q) : On o Q := h
end Z
namespace Z
section
variable {α : Type} {Q : α → S → Prop} {N B C : EnvD → S → Prop} {Rt T : D → S → Prop} {e e1 : EnvD} {s : S} {i k : Nat} {x : Sl} {ds : List D} {is : List Nat} {xs : List Sl}
theorem nrmS1 {m : MS} (h : List.set e i x = e1) (q : OnS (m e1 s) N Rt B C T) : OnS (m (List.set e i x) s) N Rt B C T := by rw [h]; exact q
theorem nrmS2 {m : MS} (h : startE i k ds = e1) (q : OnS (m e1 s) N Rt B C T) : OnS (m (startE i k ds) s) N Rt B C T := by rw [h]; exact q
theorem nrmS3 {m : MS} (h : setX is xs e = e1) (q : OnS (m e1 s) N Rt B C T) : OnS (m (setX is xs e) s) N Rt B C T := by rw [h]; exact q
theorem nrmS4 {m : MS} (h : frzE i e = e1) (q : OnS (m e1 s) N Rt B C T) : OnS (m (frzE i e) s) N Rt B C T := by rw [h]; exact q
theorem nrm1 {m : EnvD → S → Option (α × S)} (h : List.set e i x = e1) (q : On (m e1 s) Q) : On (m (List.set e i x) s) Q := by rw [h]; exact q
theorem nrm4 {m : EnvD → S → Option (α × S)} (h : frzE i e = e1) (q : On (m e1 s) Q) : On (m (frzE i e) s) Q := by rw [h]; exact q
theorem nrm5 {m : EnvD → S → Option (α × S)} (h : wipeE e is = e1) (q : On (m e1 s) Q) : On (m (wipeE e is) s) Q := by rw [h]; exact q
theorem nrm6 {m : EnvD → S → Option (α × S)} (h : setD is ds e = e1) (q : On (m e1 s) Q) : On (m (setD is ds e) s) Q := by rw [h]; exact q
theorem nrm7 {m : List (Str × D) → S → Option (α × S)} {n : EnvD → List (Str × D) → S → Option (α × S)} {fs : List (Str × D)} (h : startI i k ds = e1) (q : On (n e1 fs s) Q) : On (n (startI i k ds) fs s) Q := by rw [h]; exact q
end
end Z
namespace Z
theorem zmap_cons (a : D) (as : List D) : List.map Sl.val (a :: as) = Sl.val a :: List.map Sl.val as := List.map_cons
theorem zmap_nil : List.map Sl.val [] = [] := List.map_nil
theorem zapp_cons (a : Sl) (as bs : List Sl) : a :: as ++ bs = a :: (as ++ bs) := List.cons_append
theorem zapp_nil (bs : List Sl) : [] ++ bs = bs := List.nil_append bs
theorem zapp_nil' (bs : List Sl) : bs ++ [] = bs := List.append_nil bs
theorem zget0 (a : Sl) (as : List Sl) : (a :: as)[0]? = some a := List.getElem?_cons_zero
theorem zgets (a : Sl) (as : List Sl) (i : Nat) : (a :: as)[i + 1]? = as[i]? := List.getElem?_cons_succ
theorem zset0 (a x : Sl) (as : List Sl) : (a :: as).set 0 x = x :: as := List.set_cons_zero
theorem zsets (a x : Sl) (as : List Sl) (i : Nat) : (a :: as).set (i + 1) x = a :: as.set i x := List.set_cons_succ
theorem zrep0 (a : Sl) : List.replicate 0 a = [] := List.replicate_zero
theorem zreps (a : Sl) (n : Nat) : List.replicate (n + 1) a = a :: List.replicate n a := List.replicate_succ
end Z

set_option Elab.async false
set_option linter.all false
set_option maxRecDepth 100000
namespace Z
open PySem PySem.Spec PyProof.Rows L2
section
variable {Q : D → Prop} {s : S} {e : EnvD} {ds : List D} {n : Nat} {d : D} {i : Int}
theorem isi_bb (cs : List Str) (tys : List String) {t T : String} {b : Bool} (ht : tyD d = some t) (hk : kitB t T = some b) (hd : ∀ c fs, d ≠ .obj c fs) : isiD cs tys [d, .opq (.ty T)] = some (.bl b) := by
  cases d <;> simp only [tyD] at ht <;> (try cases ht) <;> first | (simp [isiD, tyD, hk]; done) | exact absurd rfl (hd _ _)
theorem wp_isiI {cs : List Str} {tys : List String} (q : Q (.bl true)) : On1 (isiD cs tys [.int i, .opq (.ty "int")]) Q := ⟨_, isi_bb cs tys (t := "int") rfl (by decide +kernel) (fun _ _ h => nomatch h), q⟩
theorem wp_isiIb {cs : List Str} {tys : List String} (q : Q (.bl false)) : On1 (isiD cs tys [.int i, .opq (.ty "bool")]) Q := ⟨_, isi_bb cs tys (t := "int") rfl (by decide +kernel) (fun _ _ h => nomatch h), q⟩
theorem wp_isiIs {cs : List Str} {tys : List String} (q : Q (.bl false)) : On1 (isiD cs tys [.int i, .opq (.ty "str")]) Q := ⟨_, isi_bb cs tys (t := "int") rfl (by decide +kernel) (fun _ _ h => nomatch h), q⟩
theorem wp_isiS {cs : List Str} {tys : List String} {x : Str} (q : Q (.bl true)) : On1 (isiD cs tys [.str x, .opq (.ty "str")]) Q := ⟨_, isi_bb cs tys (t := "str") rfl (by decide +kernel) (fun _ _ h => nomatch h), q⟩
theorem wp_isiSi {cs : List Str} {tys : List String} {x : Str} (q : Q (.bl false)) : On1 (isiD cs tys [.str x, .opq (.ty "int")]) Q := ⟨_, isi_bb cs tys (t := "str") rfl (by decide +kernel) (fun _ _ h => nomatch h), q⟩
theorem wp_isiT {cs : List Str} {tys : List String} (q : Q (.bl true)) : On1 (isiD cs tys [.tup ds, .opq (.ty "tuple")]) Q := ⟨_, isi_bb cs tys (t := "tuple") rfl (by decide +kernel) (fun _ _ h => nomatch h), q⟩
theorem wp_isiTs {cs : List Str} {tys : List String} (q : Q (.bl false)) : On1 (isiD cs tys [.tup ds, .opq (.ty "str")]) Q := ⟨_, isi_bb cs tys (t := "tuple") rfl (by decide +kernel) (fun _ _ h => nomatch h), q⟩
/-! membership -/
theorem inA_chr (c : Nat) (z : Str) : inAD (.str ⟨#[c]⟩) (.str z) = some (.bl (decide (c ∈ z.cps.toList))) := by simp [inAD, inA, inB, memS]
theorem inA_strT (x : Str) (xs : List Str) : inA (.str x) (.tup (xs.map .str)) = some (decide (x ∈ xs)) := by simp [inA, inB, toV0, flats_strs, inV_str]
theorem wp_inC {c : Nat} {z : Str} (q : Q (.bl (decide (c ∈ z.cps.toList)))) : On1 (inAD (.str ⟨#[c]⟩) (.str z)) Q := ⟨_, inA_chr c z, q⟩
theorem wp_inSL {x : Str} {xs : List Str} (q : Q (.bl (decide (x ∈ xs)))) : On1 (inAD (.str x) (.lst (xs.map .str))) Q := ⟨_, by unfold inAD; rw [inA_str]; rfl, q⟩
theorem wp_inST {x : Str} {xs : List Str} (q : Q (.bl (decide (x ∈ xs)))) : On1 (inAD (.str x) (.tup (xs.map .str))) Q := ⟨_, by unfold inAD; rw [inA_strT]; rfl, q⟩
theorem wp_ninST {x : Str} {xs : List Str} (q : Q (.bl (!decide (x ∈ xs)))) : On1 (notInAD (.str x) (.tup (xs.map .str))) Q := ⟨_, by unfold notInAD; rw [inA_strT]; rfl, q⟩
theorem wp_ninSL {x : Str} {xs : List Str} (q : Q (.bl (!decide (x ∈ xs)))) : On1 (notInAD (.str x) (.lst (xs.map .str))) Q := ⟨_, by unfold notInAD; rw [inA_str]; rfl, q⟩
theorem wp_inIL {x : Int} {xs : List Int} (q : Q (.bl (decide (x ∈ xs)))) : On1 (inAD (.int x) (.lst (xs.map .int))) Q := ⟨_, by unfold inAD; rw [inA_int]; rfl, q⟩
theorem wp_ninIL {x : Int} {xs : List Int} (q : Q (.bl (!decide (x ∈ xs)))) : On1 (notInAD (.int x) (.lst (xs.map .int))) Q := ⟨_, by unfold notInAD; rw [inA_int]; rfl, q⟩
/-! all, any -/
theorem bools_map : ∀ bs : List Bool, boolsD (bs.map .bl) = some bs
  | [] => rfl
  | b :: bs => by simp [boolsD, bools_map bs]
theorem wp_all {bs : List Bool} (q : Q (.bl (bs.all id))) : On1 (allD [.lst (bs.map .bl)]) Q := ⟨_, by simp [allD, bools_map], q⟩
theorem wp_any {bs : List Bool} (q : Q (.bl (bs.any id))) : On1 (anyD [.lst (bs.map .bl)]) Q := ⟨_, by simp [anyD, bools_map], q⟩
/-! items -/
theorem atI_nat {α : Type} {xs : List α} {k : Nat} {d : α} (h : xs[k]? = some d) : atI xs (k : Int) = some d := by
  have hk := (List.getElem?_eq_some_iff.mp h).1
  rw [List.getElem?_eq_getElem hk] at h
  unfold atI ixN
  simp [hk, Option.some.inj h]
theorem wp_idxL {xs : List D} {d : D} {k : Nat} (h : xs[k]? = some d) (q : Q d) : On1 (idxD (.lst xs) (.int (k : Int))) Q := by
  exact ⟨d, atI_nat h, q⟩
theorem wp_idxT {xs : List D} {d : D} {k : Nat} (h : xs[k]? = some d) (q : Q d) : On1 (idxD (.tup xs) (.int (k : Int))) Q := by
  exact ⟨d, atI_nat h, q⟩
theorem wp_idxS {x : Str} {c k : Nat} (h : x.cps.toList[k]? = some c) (hl : x.length ≤ 16777216) (q : Q (.str ⟨#[c]⟩)) : On1 (idxD (.str x) (.int (k : Int))) Q := by
  have q1 : x.length ≤ sizeLine := by rw [sizeLine_eq]; omega
  exact ⟨.str ⟨#[c]⟩, by simp only [idxD, q1, if_true, atI_nat h, Option.map_some], q⟩
theorem wp_slT {xs : List D} {lo hi : Option Int} (q : Q (.tup (cutL xs lo hi))) : On1 (slD (.tup xs) lo hi) Q := ⟨_, rfl, q⟩
theorem cutL_take {α : Type} (xs : List α) (k : Nat) : cutL xs none (some (k : Int)) = xs.take k := by
  unfold cutL
  rw [HT.sIx_nat, HT.sIx_none]
  simp [List.take_eq_take_iff]
theorem cutL_drop {α : Type} (xs : List α) (k : Nat) : cutL xs (some (k : Int)) none = xs.drop k := by
  unfold cutL
  rw [HT.sIx_nat, HT.sIx_none]
  rw [List.take_of_length_le (by simp)]
  by_cases h : k ≤ xs.length
  · rw [show min k xs.length = k by omega]
  · rw [show min k xs.length = xs.length by omega, List.drop_length, List.drop_of_length_le (by omega)]
end
/-! two clauses -/
section
variable {e : EnvD} {s : S}
theorem lcM_eq {α β : Type} {mc : MC} {me : ME} (ea : α → D) (eb : β → D) (f : α → β) (xs : List α)
    (h : ∀ x ∈ xs, On1 (mc (ea x) e) fun e1 => On (me e1 s) fun d s2 => d = eb (f x) ∧ s2 = s) : lcL mc yesT me e (xs.map ea) s = some ((xs.map f).map eb, s) :=
  eq_of_on (wp_lcM ea eb f xs h ⟨rfl, rfl⟩)
theorem wp_lc2M {α β γ : Type} {mc mc1 : MC} {mi1 : MI} {vs1 : List Nat} {me : ME} (ea : α → D) (eb : β → D) (ec : γ → D) (g : α → List β) (f : α → β → γ) (xs : List α) {Q : List D → S → Prop}
    (h : ∀ x ∈ xs, On1 (mc (ea x) e) fun e1 => On (mi1 e1 s) fun ds s1 => ds = (g x).map eb ∧ s1 = s ∧ ∀ y ∈ g x, On1 (mc1 (eb y) (wipeE e1 vs1)) fun e2 => On (me e2 s) fun d s2 => d = ec (f x y) ∧ s2 = s)
    (q : Q ((xs.flatMap fun x => (g x).map (f x)).map ec) s) : On (lcL2 mc yesT mi1 vs1 mc1 yesT me e (xs.map ea) s) Q := by
  refine on_some ?_ q
  clear q
  induction xs with
  | nil => rfl
  | cons x xs ih =>
    obtain ⟨e1, h1, ds, s1, h2, rfl, rfl, h3⟩ := h x (by simp)
    have ih := ih fun y hy => h y (by simp [hy])
    have h4 := lcM_eq (mc := mc1) (me := me) (e := wipeE e1 vs1) (s := s1) eb ec (f x) (g x) h3
    rw [List.map_cons]
    unfold lcL2
    rw [h1]; dsimp only [yesT]
    rw [h2]; dsimp only
    rw [h4]; dsimp only
    rw [ih]; dsimp only
    simp
/-! dicts of new keys -/
theorem putD_new {kvs : List (Key × D)} {k : Key} {d : D} (h : k ∉ kvs.map (·.1)) : putD kvs k d = kvs ++ [(k, d)] := by
  unfold putD
  rw [if_neg]
  intro z
  obtain ⟨kv, h1, h2⟩ := List.any_eq_true.mp z
  exact h (List.mem_map.mpr ⟨kv, h1, of_decide_eq_true h2⟩)
theorem dcM_eq {α : Type} {mc : MC} {mk mv : ME} (ea : α → D) (kf : α → Key) (vf : α → D) (xs : List α) (acc : List (Key × D))
    (h : ∀ x ∈ xs, On1 (mc (ea x) e) fun e1 => On (mk e1 s) fun kd s1 => keyD kd = some (kf x) ∧ s1 = s ∧ On (mv e1 s) fun d s2 => d = vf x ∧ s2 = s)
    (nd : (acc.map (·.1) ++ xs.map kf).Nodup) (hl : acc.length + xs.length ≤ 1000000) : dcL mc yesT mk mv e (xs.map ea) acc s = some (acc ++ xs.map fun x => (kf x, vf x), s) := by
  induction xs generalizing acc with
  | nil => simp [dcL]
  | cons x xs ih =>
    obtain ⟨e1, h1, kd, s1, h2, h3, rfl, d, s2, h4, rfl, rfl⟩ := h x (by simp)
    have nk : kf x ∉ acc.map (·.1) := fun z => (List.nodup_append.mp nd).2.2 _ z _ (by simp) rfl
    have ih := ih (acc ++ [(kf x, vf x)]) (fun y hy => h y (by simp [hy])) (by simpa using nd) (by simp at hl ⊢; omega)
    have hz : acc.length < sizeLine := by rw [sizeLine_eq]; simp at hl; omega
    rw [List.map_cons]
    unfold dcL
    rw [h1]; dsimp only [yesT]
    rw [h2]; dsimp only
    rw [h4]; dsimp only
    rw [h3]; dsimp only
    rw [if_pos hz, putD_new nk, ih]
    simp
theorem wp_dcM {α : Type} {mc : MC} {mk mv : ME} (ea : α → D) (kf : α → Key) (vf : α → D) (xs : List α) {Q : List (Key × D) → S → Prop}
    (h : ∀ x ∈ xs, On1 (mc (ea x) e) fun e1 => On (mk e1 s) fun kd s1 => keyD kd = some (kf x) ∧ s1 = s ∧ On (mv e1 s) fun d s2 => d = vf x ∧ s2 = s)
    (nd : (xs.map kf).Nodup) (hl : xs.length ≤ 1000000) (q : Q (xs.map fun x => (kf x, vf x)) s) : On (dcL mc yesT mk mv e (xs.map ea) [] s) Q :=
  on_some (dcM_eq ea kf vf xs [] h (by simpa using nd) (by simpa using hl)) (by simpa using q)
theorem wp_dc2M {α β : Type} {mc mc1 : MC} {mi1 : MI} {vs1 : List Nat} {mk mv : ME} (ea : α → D) (eb : β → D) (g : α → List β) (kf : α → β → Key) (vf : α → β → D) (xs : List α) {Q : List (Key × D) → S → Prop}
    (h : ∀ x ∈ xs, On1 (mc (ea x) e) fun e1 => On (mi1 e1 s) fun ds s1 => ds = (g x).map eb ∧ s1 = s ∧ ∀ y ∈ g x, On1 (mc1 (eb y) (wipeE e1 vs1)) fun e2 => On (mk e2 s) fun kd s1 => keyD kd = some (kf x y) ∧ s1 = s ∧ On (mv e2 s) fun d s2 => d = vf x y ∧ s2 = s)
    (nd : (xs.flatMap fun x => (g x).map (kf x)).Nodup) (hl : (xs.flatMap fun x => (g x).map (kf x)).length ≤ 1000000) (q : Q (xs.flatMap fun x => (g x).map fun y => (kf x y, vf x y)) s) :
    On (dcL2 mc yesT mi1 vs1 mc1 yesT mk mv e (xs.map ea) [] s) Q := by
  have key : ∀ (xs : List α) (acc : List (Key × D)), (∀ x ∈ xs, On1 (mc (ea x) e) fun e1 => On (mi1 e1 s) fun ds s1 => ds = (g x).map eb ∧ s1 = s ∧ ∀ y ∈ g x, On1 (mc1 (eb y) (wipeE e1 vs1)) fun e2 => On (mk e2 s) fun kd s1 => keyD kd = some (kf x y) ∧ s1 = s ∧ On (mv e2 s) fun d s2 => d = vf x y ∧ s2 = s) →
      (acc.map (·.1) ++ xs.flatMap fun x => (g x).map (kf x)).Nodup → acc.length + (xs.flatMap fun x => (g x).map (kf x)).length ≤ 1000000 →
      dcL2 mc yesT mi1 vs1 mc1 yesT mk mv e (xs.map ea) acc s = some (acc ++ xs.flatMap fun x => (g x).map fun y => (kf x y, vf x y), s) := by
    intro xs
    induction xs with
    | nil => intro acc _ _ _; simp [dcL2]
    | cons x xs ih =>
      intro acc h nd hl
      obtain ⟨e1, h1, ds, s1, h2, rfl, rfl, h3⟩ := h x (by simp)
      have h4 := dcM_eq (mc := mc1) (mk := mk) (mv := mv) (e := wipeE e1 vs1) (s := s1) eb (kf x) (vf x) (g x) acc h3 (by
        rw [List.flatMap_cons, ← List.append_assoc] at nd
        exact (List.nodup_append.mp nd).1) (by simp at hl ⊢; omega)
      have ih := ih (acc ++ (g x).map fun y => (kf x y, vf x y)) (fun y hy => h y (by simp [hy])) (by
        rw [List.flatMap_cons, ← List.append_assoc] at nd
        rw [List.map_append, List.map_map]
        exact nd) (by simp at hl ⊢; omega)
      rw [List.map_cons]
      unfold dcL2
      rw [h1]; dsimp only [yesT]
      rw [h2]; dsimp only
      rw [h4]; dsimp only
      rw [ih]
      simp
  exact on_some (key xs [] h (by simpa using nd) (by simpa using hl)) (by simpa using q)
theorem lookD_map {α : Type} (kf : α → Key) (vf : α → D) (k : Key) : ∀ xs : List α, (lookD (xs.map fun x => (kf x, vf x)) k).isSome = xs.any fun x => decide (kf x = k)
  | [] => rfl
  | x :: xs => by
    have ih := lookD_map kf vf k xs
    unfold lookD at ih ⊢
    by_cases h : kf x = k
    · simp [h]
    · simp only [List.map_cons, List.find?_cons, h, decide_false, List.any_cons, Bool.false_or]
      exact ih
end
end Z
namespace Z
open PySem PySem.Spec PyProof.Rows L2
theorem wp_lenS {Q : D → Prop} {x : Str} (h : x.length ≤ 16777216) (q : Q (.int x.length)) : On1 (lenD [.str x]) Q := ⟨_, by
  have q1 : x.length ≤ sizeLine := by rw [sizeLine_eq]; omega
  simp [lenD, q1], q⟩
theorem wp_lenL {Q : D → Prop} {ds : List D} (q : Q (.int ds.length)) : On1 (lenD [.lst ds]) Q := ⟨_, by simp [lenD], q⟩
theorem wp_lenT {Q : D → Prop} {ds : List D} (q : Q (.int ds.length)) : On1 (lenD [.tup ds]) Q := ⟨_, by simp [lenD], q⟩
end Z
namespace Z
open PySem PySem.Spec PyProof.Rows L2
theorem wp_ixT {Q : D → Prop} {xs : List D} {d : D} {i : Int} (h : xs[i.toNat]? = some d) (h0 : 0 ≤ i) (q : Q d) : On1 (idxD (.tup xs) (.int i)) Q := by
  obtain ⟨k, rfl⟩ : ∃ k : Nat, i = k := ⟨i.toNat, by omega⟩
  exact wp_idxT h q
theorem wp_ixL {Q : D → Prop} {xs : List D} {d : D} {i : Int} (h : xs[i.toNat]? = some d) (h0 : 0 ≤ i) (q : Q d) : On1 (idxD (.lst xs) (.int i)) Q := by
  obtain ⟨k, rfl⟩ : ∃ k : Nat, i = k := ⟨i.toNat, by omega⟩
  exact wp_idxL h q
theorem wp_ixS {Q : D → Prop} {x : Str} {c : Nat} {i : Int} (h : x.cps.toList[i.toNat]? = some c) (h0 : 0 ≤ i) (hl : x.length ≤ 16777216) (q : Q (.str ⟨#[c]⟩)) : On1 (idxD (.str x) (.int i)) Q := by
  obtain ⟨k, rfl⟩ : ∃ k : Nat, i = k := ⟨i.toNat, by omega⟩
  exact wp_idxS h hl q
end Z
namespace Z
open PySem PySem.Spec PyProof.Rows L2
theorem wp_mjoin {Q : D → S → Prop} {e : EnvD} {s : S} {mo me : ME} (h : On (mo e s) fun a s1 => On (me e s1) fun b s2 => On1 (joinD a b) fun d => Q d s2) : On (mJoin mo me e s) Q := wp_op h
theorem wp_msplit {Q : D → S → Prop} {e : EnvD} {s : S} {mo me : ME} (h : On (mo e s) fun a s1 => On (me e s1) fun b s2 => ∃ z w, a = .str z ∧ b = .str w ∧ (w.length == 0) = false ∧ z.length ≤ 16000000 ∧ Q (.lst ((Txt.split z w).map D.str)) s2) : On (mSplit mo me e s) Q :=
  on_bnd (h.mono fun a s1 h => on_bnd (h.mono fun b s2 h => by
    obtain ⟨z, w, rfl, rfl, h1, h2, q⟩ := h
    refine ⟨_, _, ?_, q⟩
    have h3 : z.length + 2 ≤ sizeLine := by rw [sizeLine_eq]; omega
    simp only [h1, h3, and_self, if_true]))
theorem wp_gstar12 {Q : EnvD → S → Prop} {e : EnvD} {s : S} {ms : MGs} {d : D} {ds : List D} (hl : ds.length ≤ 16000) (h : On (ms [d, .lst ds] e s) Q) : On (gStar 1 2 ms (.lst (d :: ds)) e s) Q := by
  refine wp_gstar ⟨by omega, by simp, by simp; omega⟩ ?_
  simpa using h
end Z
namespace Z
open PySem PySem.Spec PyProof.Rows L2
section
variable {e : EnvD} {s : S} {d : D} {ds : List D} {N B C : EnvD → S → Prop} {Rt T : D → S → Prop}
theorem wp_lcNil {mc : MC} {mt : MT} {me : ME} {Q : List D → S → Prop} (q : Q [] s) : On (lcL mc mt me e [] s) Q := ⟨_, _, rfl, q⟩
theorem wp_lcCons {mc : MC} {me : ME} {Q : List D → S → Prop} (h : On1 (mc d e) fun e1 => On (me e1 s) fun r s1 => On (lcL mc yesT me e ds s1) fun rs s2 => Q (r :: rs) s2) : On (lcL mc yesT me e (d :: ds) s) Q := by
  obtain ⟨e1, h1, r, s1, h2, rs, s2, h3, q⟩ := h
  refine ⟨r :: rs, s2, ?_, q⟩
  unfold lcL
  rw [h1]; dsimp only [yesT]
  rw [h2]; dsimp only
  rw [h3]
theorem wp_forNil {mg : MG} {mb : MS} (q : N e s) : OnS (forL mg mb [] e s) N Rt B C T := ⟨_, _, _, rfl, q⟩
theorem wp_forCons {mg : MG} {mb : MS} (h : On (mg d e s) fun e1 s1 => OnS (mb e1 s1) (fun e2 s2 => OnS (forL mg mb ds e2 s2) N Rt B C T) Rt N (fun e2 s2 => OnS (forL mg mb ds e2 s2) N Rt B C T) T) : OnS (forL mg mb (d :: ds) e s) N Rt B C T := by
  obtain ⟨e1, s1, h1, f, e2, s2, h2, h3⟩ := h
  unfold forL
  rw [h1]; dsimp only
  rw [h2]
  cases f with
  | nx => exact h3
  | ct => exact h3
  | bk => exact ⟨_, _, _, rfl, h3⟩
  | ret d => exact ⟨_, _, _, rfl, h3⟩
  | rto d => exact ⟨_, _, _, rfl, h3⟩
end
end Z

set_option Elab.async false
set_option linter.all false
set_option maxRecDepth 100000
namespace Z
open PySem PySem.Spec PyProof.Rows L2
section
variable {Q : D → S → Prop} {e : EnvD} {s : S} {mo ma' mb' : ME} {mA : MA}
def MethK (c m : Str) (x : D) (P : List (Str × D) → Prop) : Prop := ∃ fs, x = .obj c fs ∧ lookF fs m = none ∧ P fs
theorem wp_meth {c m : Str} {md : MD} (h : On (mo e s) fun x s1 => MethK c m x fun fs => On (mA e s1) fun ds s2 => On (md (.obj c fs :: ds) s2) Q) : On (mMeth c m md mo mA e s) Q := by
  refine on_bnd (h.mono fun x s1 h => ?_)
  obtain ⟨fs, rfl, h1, h⟩ := h
  dsimp only
  rw [if_pos ⟨rfl, h1⟩]
  exact on_bnd h
theorem wp_methK {c m : Str} {ix : List Nat} {md : MD} (h : On (mo e s) fun x s1 => MethK c m x fun fs => On (mA e s1) fun ds s2 => On (md (.obj c fs :: pick ix ds) s2) Q) : On (mMethK c m ix md mo mA e s) Q := by
  refine on_bnd (h.mono fun x s1 h => ?_)
  obtain ⟨fs, rfl, h1, h⟩ := h
  dsimp only
  rw [if_pos ⟨rfl, h1⟩]
  exact on_bnd h
theorem wp_meth0 {c m : Str} {md : MD} (h : On (mo e s) fun x s1 => MethK c m x fun fs => On (md [.obj c fs] s1) Q) : On (mMeth0 c m md mo e s) Q := by
  refine on_bnd (h.mono fun x s1 h => ?_)
  obtain ⟨fs, rfl, h1, h⟩ := h
  dsimp only
  rw [if_pos ⟨rfl, h1⟩]
  exact h
theorem wp_mk {c m : Str} {fs : List (Str × D)} {P : List (Str × D) → Prop} (h : lookF fs m = none) (p : P fs) : MethK c m (.obj c fs) P := ⟨fs, rfl, h, p⟩
def GetK (d kd x : D) (P : D → Prop) : Prop := ∃ kvs k, d = .dic kvs ∧ keyD kd = some k ∧ P ((lookD kvs k).getD x)
theorem wp_mget (h : On (mo e s) fun d s1 => On (ma' e s1) fun kd s2 => On (mb' e s2) fun x s3 => GetK d kd x fun r => Q r s3) : On (mGet mo ma' mb' e s) Q :=
  on_bnd (h.mono fun d s1 h => on_bnd (h.mono fun kd s2 h => on_bnd (h.mono fun x s3 h => by
    obtain ⟨kvs, k, rfl, h1, q⟩ := h
    refine ⟨_, _, ?_, q⟩
    dsimp only
    rw [h1])))
theorem wp_gk {kvs : List (Key × D)} {kd x : D} {k : Key} {P : D → Prop} (h : keyD kd = some k) (p : P ((lookD kvs k).getD x)) : GetK (.dic kvs) kd x P := ⟨kvs, k, rfl, h, p⟩
theorem wp_dic0 (q : Q (.dic []) s) : On (mDic0 e s) Q := ⟨_, _, rfl, q⟩
theorem wp_oEq {c : Str} {md : MD} {fs gs : List (Str × D)} (h : On (md [.obj c fs, .obj c gs] s) fun r s1 => ∃ k, r = .bl k ∧ Q (.bl k) s1) : On (ownEq c md (.obj c fs) (.obj c gs) s) Q := wp_ownEq h
theorem wp_catT {Q : D → Prop} {ds es : List D} (h : ds.length + es.length ≤ 1000) (q : Q (.tup (ds ++ es))) : On1 (addD (.tup ds) (.tup es)) Q := by
  have q1 : ds.length + es.length ≤ sizeLine := by rw [sizeLine_eq]; omega
  exact ⟨_, by simp [addD, q1], q⟩
end
end Z

set_option Elab.async false
set_option linter.all false
set_option maxRecDepth 100000
namespace Z
open PySem PySem.Spec PyProof.Rows L2
/-! ### == of plain data: the same as = -/
mutual
def noB : PyData → Bool
  | .none => true
  | .int _ => true
  | .str _ => true
  | .tuple xs => noBs xs
  | .list xs => noBs xs
  | _ => false
def noBs : List PyData → Bool
  | [] => true
  | x :: xs => noB x && noBs xs
end
def Pl (d : D) (k : Nat) : Prop := ∃ p, toP d = some p ∧ p.canLay0 = true ∧ p.depth ≤ k ∧ noB p = true
def PlL (ds : List D) (k : Nat) : Prop := ∃ ps, toPL ds = some ps ∧ PyData.canLayAll0 ps = true ∧ PyData.depthAll ps ≤ k ∧ noBs ps = true
theorem Pl.le {d : D} {k k' : Nat} (h : Pl d k) (hk : k ≤ k') : Pl d k' := let ⟨p, h1, h2, h3, h4⟩ := h; ⟨p, h1, h2, by omega, h4⟩
theorem PlL.le {d : List D} {k k' : Nat} (h : PlL d k) (hk : k ≤ k') : PlL d k' := let ⟨p, h1, h2, h3, h4⟩ := h; ⟨p, h1, h2, by omega, h4⟩
end Z
namespace Z
open PySem PySem.Spec PyProof.Rows L2
theorem zcut6 (a b c d e f g : D) : cutL [a, b, c, d, e, f, g] none (some 6) = [a, b, c, d, e, f] := by
  have := cutL_take [a, b, c, d, e, f, g] 6
  simpa using this
theorem zcut3 (a b c d e f g : D) : cutL [a, b, c, d, e, f, g] none (some 3) = [a, b, c] := by
  have := cutL_take [a, b, c, d, e, f, g] 3
  simpa using this
theorem dec_self {α : Type} {a : α} {i : Decidable (a = a)} : @decide (a = a) i = true := decide_eq_true rfl
section
variable {Q : D → S → Prop} {e : EnvD} {s : S} {mo : ME}
theorem wp_mrev {f : D → Option D} (h : On (mo e s) fun d s1 => On1 (f d) fun r => Q r s1) : On (mRev f mo e s) Q := on_bnd (h.mono fun _ _ h => on_lft h)
theorem wp_cmK {c : Str} {ix : List Nat} {md : MD} {mA : MA} (h : On (mo e s) fun x s1 => x = .ty c ∧ On (mA e s1) fun ds s2 => On (md (.ty c :: pick ix ds) s2) Q) : On (mCmK c ix md mo mA e s) Q := by
  refine on_bnd (h.mono fun x s1 h => ?_)
  obtain ⟨rfl, h⟩ := h
  dsimp only
  rw [if_pos rfl]
  exact on_bnd h
/-- arguments picked one by one -/
def PkK (ix : List Nat) (ws : List D) (P : List D → Prop) : Prop := P (pick ix ws)
theorem wp_pk0 {ws : List D} {P : List D → Prop} (h : P []) : PkK [] ws P := h
theorem wp_pks {i : Nat} {ix : List Nat} {ws : List D} {d : D} {P : List D → Prop} (h : ws[i]? = some d) (q : PkK ix ws fun es => P (d :: es)) : PkK (i :: ix) ws P := by
  unfold PkK pick at *
  rw [List.filterMap_cons, h]
  exact q
theorem wp_cmK' {c : Str} {ix : List Nat} {md : MD} {mA : MA} (h : On (mo e s) fun x s1 => x = .ty c ∧ On (mA e s1) fun ds s2 => PkK ix ds fun es => On (md (.ty c :: es) s2) Q) : On (mCmK c ix md mo mA e s) Q := wp_cmK h
theorem wp_methK' {c m : Str} {ix : List Nat} {md : MD} {mA : MA} (h : On (mo e s) fun x s1 => MethK c m x fun fs => On (mA e s1) fun ds s2 => PkK ix ds fun es => On (md (.obj c fs :: es) s2) Q) : On (mMethK c m ix md mo mA e s) Q := wp_methK h
theorem wp_pick' {ix : List Nat} {md : MD} {ds : List D} (h : PkK ix ds fun es => On (md es s) Q) : On (mdPick ix md ds s) Q := h
theorem wp_revT {Q : D → Prop} {ds : List D} (q : Q (.tup ds.reverse)) : On1 (revT (.tup ds)) Q := ⟨_, rfl, q⟩
theorem wp_revL {Q : D → Prop} {ds : List D} (q : Q (.lst ds.reverse)) : On1 (revLD (.lst ds)) Q := ⟨_, rfl, q⟩
theorem wp_oNe {c : Str} {md : MD} {fs gs : List (Str × D)} (h : On (md [.obj c fs, .obj c gs] s) fun r s1 => ∃ k, r = .bl k ∧ Q (.bl (!k)) s1) : On (ownNe c md (.obj c fs) (.obj c gs) s) Q := wp_ownNe h
theorem wp_rng2 {Q : List D → S → Prop} {mA : MA} (h : On (mA e s) fun ds s1 => ∃ i j : Int, ds = [.int i, .int j] ∧ (-4611686018427387904 ≤ i ∧ i < 4611686018427387904 ∧ -4611686018427387904 ≤ j ∧ j < 4611686018427387904) ∧ Q (rngD i (j - i).toNat) s1) : On (rng2I mA e s) Q := by
  refine on_bnd (h.mono fun d s1 h => ?_)
  obtain ⟨i, j, rfl, ⟨a, b, c, d⟩, h⟩ := h
  have c : (-(2 ^ 62) ≤ i ∧ i < 2 ^ 62) ∧ -(2 ^ 62) ≤ j ∧ j < 2 ^ 62 := by omega
  refine ⟨_, _, ?_, h⟩
  simp only [c, and_self, if_true]
end
end Z

set_option linter.all false
set_option maxRecDepth 100000
namespace Z
namespace C
open PySem
def isiC : List PySem.Str := ["Ring"]
def isiT : List String := ["int", "bool", "str", "tuple"]
def u__law_dip : MD := mkD 2 4 (sSeq (sIf (mT (mOp gtD (mOpM idxCel (mVar 0) (mC (.int 0))) (mC (.int 0)))) (sSeq (sAsg (gSeq (gsCons (gCel (mVar 0) (mC (.int 0))) (gsCons (gNm 2) (gsNil)))) (mCall divmodD (aCons (mOpM idxCel (mVar 0) (mC (.int 0))) (aCons (mVar 1) (aNil))))) (sRet (mVar 2))) (sNil)) (sSeq (sAsg (gCel (mVar 0) (mC (.int 2))) (mOp addD (mOpM idxCel (mVar 0) (mC (.int 2))) (mC (.int 1)))) (sSeq (sSet 3 (mOp modD (mCall intD (aCons (mOp addD (mOp addD (mOp mulD (mOpM idxCel (mVar 0) (mC (.int 1))) (mOp addD (mC (.int 39877)) (mOp mulD (mC (.int 2)) (mOpM idxCel (mVar 0) (mC (.int 2)))))) (mOp mulD (mC (.int 6151)) (mOpM idxCel (mVar 0) (mC (.int 2))))) (mC (.int 3))) (aNil))) (mC (.int 2147483543)))) (sSeq (sAsg (gCel (mVar 0) (mC (.int 1))) (mOp modD (mCall intD (aCons (mOp addD (mOp mulD (mVar 3) (mC (.int 44491))) (mOp mulD (mOpM idxCel (mVar 0) (mC (.int 2))) (mOpM idxCel (mVar 0) (mC (.int 2))))) (aNil))) (mC (.int 2147483497)))) (sRet (mOp modD (mCall intD (aCons (mOp fdivD (mOpM idxCel (mVar 0) (mC (.int 1))) (mC (.int 512))) (aNil))) (mVar 1)))))))
def u__law_of : MD := mkD 2 2 (sRet (mOp idxD (mVar 1) (mCallD u__law_dip (aCons (mVar 0) (aCons (mCall lenD (aCons (mVar 1) (aNil))) (aNil))))))
def u__law_rule : MD := mkD 1 3 (sSeq (sSet 1 (mOp addD (mC (.int 1)) (mCallD u__law_dip (aCons (mVar 0) (aCons (mC (.int 5)) (aNil)))))) (sSeq (sSet 2 (mLst (aCons (mVar 1) (aCons (mCallD u__law_of (aCons (mVar 0) (aCons (mLst (aCons (mC (.str "hosts")) (aCons (mC (.str "racks")) (aNil)))) (aNil)))) (aNil))))) (sRet (mOp addAll (mVar 2) (mLst (aCons (mOp addD (mC (.int 1)) (mCallD u__law_dip (aCons (mVar 0) (aCons (mVar 1) (aNil))))) (aCons (mOp addD (mC (.int 1)) (mCallD u__law_dip (aCons (mVar 0) (aCons (mVar 1) (aNil))))) (aCons (mCallD u__law_of (aCons (mVar 0) (aCons (mLst (aCons (mC (.str "plain")) (aCons (mC (.str "with")) (aNil)))) (aNil)))) (aNil)))))))))
def u__law_title : MD := mkD 1 4 (sSeq (sSet 1 (mC (.str "abcdefghijklmnopqrstuvwxyz"))) (sSeq (sIf (mT (mOp eqD (mCallD u__law_dip (aCons (mVar 0) (aCons (mC (.int 6)) (aNil)))) (mC (.int 0)))) (sRet (mCallD u__law_of (aCons (mVar 0) (aCons (mLst (aCons (mC (.str "ring")) (aCons (mC (.str "host")) (aCons (mC (.str "plan")) (aCons (mC (.str "hosts")) (aCons (mC (.str "racks")) (aCons (mC (.str "with")) (aCons (mC (.str "plain")) (aCons (mC (.str "join")) (aCons (mC (.str "settle")) (aNil))))))))))) (aNil))))) (sNil)) (sSeq (sSet 2 (mOp idxD (mVar 1) (mCallD u__law_dip (aCons (mVar 0) (aCons (mC (.int 26)) (aNil)))))) (sSeq (sFor (rngI (aCons (mCallD u__law_of (aCons (mVar 0) (aCons (mLst (aCons (mC (.int 0)) (aCons (mC (.int 0)) (aCons (mC (.int 1)) (aCons (mC (.int 2)) (aCons (mC (.int 7)) (aCons (mC (.int 3)) (aNil)))))))) (aNil)))) (aNil))) (gNm 3) (sSet 2 (mOp addD (mVar 2) (mOp idxD (mOp addD (mVar 1) (mC (.str "0123456789"))) (mCallD u__law_dip (aCons (mVar 0) (aCons (mC (.int 36)) (aNil)))))))) (sRet (mVar 2))))))
def u__law_titles : MD := mkD 2 7 (sSeq (sPar [2, 3] (xVal (mLst (aCons (mC (.str "a")) (aCons (mC (.str "b")) (aCons (mC (.str "a1")) (aCons (mC (.str "a2")) (aCons (mC (.str "zz9")) (aCons (mC (.str "q")) (aCons (mC (.str "r1")) (aCons (mC (.str "x")) (aCons (mC (.str "y")) (aCons (mC (.str "z")) (aCons (mC (.str "h0")) (aCons (mC (.str "h1")) (aNil)))))))))))))) (xOwn (mLst (aNil)) (xNil)))) (sSeq (sFor (rngI (aCons (mVar 1) (aNil))) (gNm 4) (sSeq (sSet 5 (mCallD u__law_title (aCons (mVar 0) (aNil)))) (sSeq (sIf (tBor 3 (tAndZ (mT (mOp neD (mVar 3) (mLst (aNil)))) (mT (mOp eqD (mCallD u__law_dip (aCons (mVar 0) (aCons (mC (.int 4)) (aNil)))) (mC (.int 0)))))) (sSet 5 (mBor 3 (mOp addD (mSl slD (mOp idxD (mVar 3) (mC (.int 0))) (oNone) (oSome (mC (.int 7)))) (mOp idxD (mC (.str "0123456789ab")) (mVar 4))))) (sNil)) (sApp 3 (mBor 3 (mOp idxD (mLc [6] (seqI (mOp addAll (mLst (aCons (mVar 5) (aNil))) (mVar 2))) (cNm 6) (mT (mOp notInAD (mVar 6) (mVar 3))) (mVar 6)) (mC (.int 0)))))))) (sFrz 3 (sRet (mVar 3)))))
def u__law_yards : MD := mkD 2 4 (sSeq (sSet 2 (mCallD u__law_titles (aCons (mVar 0) (aCons (mOp addD (mC (.int 1)) (mCallD u__law_dip (aCons (mVar 0) (aCons (mC (.int 4)) (aNil))))) (aNil))))) (sRet (mLc [3] (rngI (aCons (mVar 1) (aNil))) (cNm 3) (yesT) (mCallD u__law_of (aCons (mVar 0) (aCons (mVar 2) (aNil)))))))
def u__law_free : MD := mkD 3 4 (sSeq (sFor (rngI (aCons (mOp addD (mCall lenD (aCons (mVar 1) (aNil))) (mC (.int 1))) (aNil))) (gNm 3) (sIf (mT (mOp notInAD (mOp modD (mCall intD (aCons (mOp addD (mVar 2) (mVar 3)) (aNil))) (mVar 0)) (mVar 1))) (sRet (mOp modD (mCall intD (aCons (mOp addD (mVar 2) (mVar 3)) (aNil))) (mVar 0))) (sNil))) (sRet (mVar 2)))
def u__law_vast : MD := mkD 2 4 (sSeq (sSet 2 (mC (.int 0))) (sSeq (sFor (rngI (aCons (mC (.int 4)) (aNil))) (gNm 3) (sSet 2 (mOp addD (mOp mulD (mVar 2) (mC (.int 1000003))) (mCallD u__law_dip (aCons (mVar 0) (aCons (mC (.int 1000003)) (aNil))))))) (sRet (mOp modD (mCall intD (aCons (mVar 2) (aNil))) (mVar 1)))))
def u__law_place : MD := mkD 3 4 (sSeq (sSet 3 (mCallD u__law_dip (aCons (mVar 0) (aCons (mC (.int 8)) (aNil))))) (sSeq (sIf (mT (mOp eqD (mVar 3) (mC (.int 0)))) (sRet (mOp idxD (mLst (aCons (mC (.int 0)) (aCons (mOp subD (mVar 1) (mC (.int 1))) (aNil)))) (mCallD u__law_dip (aCons (mVar 0) (aCons (mC (.int 2)) (aNil)))))) (sNil)) (sSeq (sIf (tAndZ (mT (mOp ltD (mVar 3) (mC (.int 4)))) (mT (mOp neD (mVar 2) (mLst (aNil))))) (sRet (mOp modD (mCall intD (aCons (mOp subD (mOp addD (mCallD u__law_of (aCons (mVar 0) (aCons (mVar 2) (aNil)))) (mCallD u__law_dip (aCons (mVar 0) (aCons (mC (.int 5)) (aNil))))) (mC (.int 2))) (aNil))) (mVar 1))) (sNil)) (sRet (mIf (mT (mOp ltD (mVar 1) (mC (.int 1000)))) (mCallD u__law_dip (aCons (mVar 0) (aCons (mVar 1) (aNil)))) (mCallD u__law_vast (aCons (mVar 0) (aCons (mVar 1) (aNil)))))))))
def u__law_band : MD := mkD 4 14 (sSeq (sPar [4, 5, 6] (xVal (mCall min2D (aCons (mOp addD (mC (.int 1)) (mCallD u__law_dip (aCons (mVar 0) (aCons (mVar 2) (aNil))))) (aCons (mVar 1) (aNil)))) (xOwn (mLst (aNil)) (xOwn (mLst (aNil)) (xNil))))) (sSeq (sPar [7, 8] (xVal (mCallD u__law_titles (aCons (mVar 0) (aCons (mVar 4) (aNil)))) (xVal (mCallD u__law_yards (aCons (mVar 0) (aCons (mVar 4) (aNil)))) (xNil)))) (sSeq (sFor (rngI (aCons (mVar 4) (aNil))) (gNm 9) (sSeq (sPar [10, 11] (xOwn (mLst (aNil)) (xVal (mBor 5 (mOp subD (mOp subD (mVar 1) (mCall lenD (aCons (mVar 5) (aNil)))) (mOp subD (mOp subD (mVar 4) (mC (.int 1))) (mVar 9)))) (xNil)))) (sSeq (sFor (rngI (aCons (mCall min2D (aCons (mOp addD (mC (.int 1)) (mCallD u__law_dip (aCons (mVar 0) (aCons (mVar 3) (aNil))))) (aCons (mVar 11) (aNil)))) (aNil))) (gNm 12) (sSeq (sSet 13 (mBor 5 (mCallD u__law_free (aCons (mVar 1) (aCons (mVar 5) (aCons (mCallD u__law_place (aCons (mVar 0) (aCons (mVar 1) (aCons (mVar 5) (aNil))))) (aNil))))))) (sSeq (sApp 10 (mVar 13)) (sApp 5 (mVar 13))))) (sFrz 10 (sApp 6 (mTup (aCons (mOp idxD (mVar 7) (mVar 9)) (aCons (mOp idxD (mVar 8) (mVar 9)) (aCons (mCall tupleD (aCons (mCallD (fun ds s => lft (sortedD ds) s) (aCons (mVar 10) (aNil))) (aNil))) (aNil)))))))))) (sFrz 6 (sRet (mCall tupleD (aCons (mVar 6) (aNil))))))))
def u__law_build : MD := mkD 4 4 (sRet (mOp addAll (mOp addAll (mLst (aCons (mVar 1) (aNil))) (mCallD u__law_rule (aCons (mVar 0) (aNil)))) (mLst (aCons (mCallD u__law_band (aCons (mVar 0) (aCons (mVar 1) (aCons (mVar 2) (aCons (mVar 3) (aNil)))))) (aNil)))))
def u__law_width : MD := mkD 1 2 (sSeq (sSet 1 (mCallD u__law_dip (aCons (mVar 0) (aCons (mC (.int 6)) (aNil))))) (sSeq (sIf (mT (mOp ltD (mVar 1) (mC (.int 2)))) (sRet (mOp addD (mC (.int 1)) (mCallD u__law_dip (aCons (mVar 0) (aCons (mC (.int 30)) (aNil)))))) (sNil)) (sSeq (sIf (mT (mOp ltD (mVar 1) (mC (.int 4)))) (sRet (mOp idxD (mLst (aCons (mOp powD (mC (.int 10)) (mC (.int 18))) (aCons (mOp subD (mOp powD (mC (.int 10)) (mC (.int 18))) (mC (.int 1))) (aNil)))) (mOp subD (mVar 1) (mC (.int 2))))) (sNil)) (sRet (mIf (mT (mOp eqD (mVar 1) (mC (.int 4)))) (mOp addD (mC (.int 1)) (mCallD u__law_dip (aCons (mVar 0) (aCons (mOp powD (mC (.int 10)) (mC (.int 5))) (aNil))))) (mOp addD (mC (.int 1)) (mCallD u__law_vast (aCons (mVar 0) (aCons (mOp powD (mC (.int 10)) (mC (.int 18))) (aNil))))))))))
def u_is_integer : MD := mkD 3 3 (sRet (mAnd (mCall (isiD isiC isiT) (aCons (mVar 0) (aCons (mC (.opq (.ty "int"))) (aNil)))) (mAnd (mUn notD (mCall (isiD isiC isiT) (aCons (mVar 0) (aCons (mC (.opq (.ty "bool"))) (aNil))))) (mChain leD leD (mVar 1) (mVar 0) (mVar 2)))))
def u_check_number : MD := mkD 2 2 (sIf (tNotZ (mT (mCallD u_is_integer (aCons (mVar 0) (aCons (mC (.int 1)) (aCons (mVar 1) (aNil))))))) (sDie) (sNil))
def u_is_name : MD := mkD 1 2 (sSeq (sIf (tOrZ (tNotZ (mT (mCall (isiD isiC isiT) (aCons (mVar 0) (aCons (mC (.opq (.ty "str"))) (aNil)))))) (tNotZ (mT (mChain leD leD (mC (.int 1)) (mCall lenD (aCons (mVar 0) (aNil))) (mC (.int 8)))))) (sRet (mC (.bl false))) (sNil)) (sRet (mAnd (mOp inAD (mOp idxD (mVar 0) (mC (.int 0))) (mC (.str "abcdefghijklmnopqrstuvwxyz"))) (mCall allD (aCons (mLc [1] (seqI (mVar 0)) (cNm 1) (yesT) (mOp inAD (mVar 1) (mOp addD (mC (.str "abcdefghijklmnopqrstuvwxyz")) (mC (.str "0123456789"))))) (aNil))))))
def u_are_points : MD := mkD 3 6 (sSeq (sIf (tOrZ (tNotZ (mT (mCall (isiD isiC isiT) (aCons (mVar 0) (aCons (mC (.opq (.ty "tuple"))) (aNil)))))) (tNotZ (mT (mChain leD leD (mC (.int 1)) (mCall lenD (aCons (mVar 0) (aNil))) (mVar 2))))) (sRet (mC (.bl false))) (sNil)) (sSeq (sIf (tNotZ (mT (mCall allD (aCons (mLc [3] (seqI (mVar 0)) (cNm 3) (yesT) (mCallD u_is_integer (aCons (mVar 3) (aCons (mC (.int 0)) (aCons (mOp subD (mVar 1) (mC (.int 1))) (aNil)))))) (aNil))))) (sRet (mC (.bl false))) (sNil)) (sRet (mCall allD (aCons (mLc [4, 5] (zipI (aCons (mVar 0) (aCons (mSl slD (mVar 0) (oSome (mC (.int 1))) (oNone)) (aNil)))) (cTup [4, 5]) (yesT) (mOp ltD (mVar 4) (mVar 5))) (aNil))))))
def u_is_host : MD := mkD 3 9 (sSeq (sIf (tOrZ (tNotZ (mT (mCall (isiD isiC isiT) (aCons (mVar 0) (aCons (mC (.opq (.ty "tuple"))) (aNil)))))) (tOrZ (mT (mOp neD (mCall lenD (aCons (mVar 0) (aNil))) (mC (.int 3)))) (tOrZ (tNotZ (mT (mCallD u_is_name (aCons (mOp idxD (mVar 0) (mC (.int 0))) (aNil))))) (tNotZ (mT (mCallD u_is_name (aCons (mOp idxD (mVar 0) (mC (.int 1))) (aNil)))))))) (sRet (mC (.bl false))) (sNil)) (sSeq (sAsg (gSeq (gsCons (gNm 3) (gsCons (gNm 4) (gsCons (gNm 5) (gsNil))))) (mVar 0)) (sSeq (sIf (tOrZ (mT (mOp inAD (mVar 3) (mLc [6] (seqI (mVar 2)) (cNm 6) (yesT) (mOp idxD (mVar 6) (mC (.int 0)))))) (tNotZ (mT (mCallD u_are_points (aCons (mVar 5) (aCons (mVar 1) (aCons (mC (.int 16)) (aNil)))))))) (sRet (mC (.bl false))) (sNil)) (sSeq (sSet 7 (mDc2 [6, 8] (seqI (mVar 2)) (cNm 6) (yesT) (seqI (mOp idxD (mVar 6) (mC (.int 2)))) [8] (cNm 8) (yesT) (mVar 8) (mC (.bl true)))) (sRet (mUn notD (mCall anyD (aCons (mLc [8] (seqI (mVar 5)) (cNm 8) (yesT) (mOp inDic (mVar 8) (mVar 7))) (aNil)))))))))
def u_check_hosts : MD := mkD 2 4 (sSeq (sIf (tOrZ (tNotZ (mT (mCall (isiD isiC isiT) (aCons (mVar 0) (aCons (mC (.opq (.ty "tuple"))) (aNil)))))) (mT (mOp eqD (mCall lenD (aCons (mVar 0) (aNil))) (mC (.int 0))))) (sDie) (sNil)) (sFor (enum2I (aCons (mVar 0) (aNil))) (gSeq (gsCons (gNm 2) (gsCons (gNm 3) (gsNil)))) (sIf (tOrZ (mT (mOp eqD (mVar 2) (mC (.int 12)))) (tNotZ (mT (mCallD u_is_host (aCons (mVar 3) (aCons (mVar 1) (aCons (mSl slD (mVar 0) (oNone) (oSome (mVar 2))) (aNil)))))))) (sDie) (sNil))))
def u_Ring___init__ : MI0 := mkI 7 12 (nSeq (nExpr (mCallD u_check_number (aCons (mVar 1) (aCons (mC (.int 1000000000000000000)) (aNil))))) (nSeq (nExpr (mCallD u_check_number (aCons (mVar 2) (aCons (mC (.int 5)) (aNil))))) (nSeq (nNot (tOrZ (tNotZ (mT (mCall (isiD isiC isiT) (aCons (mVar 3) (aCons (mC (.opq (.ty "str"))) (aNil)))))) (mT (mOp notInAD (mVar 3) (mC (.tup ((["hosts", "racks"] : List PySem.Str).map D.str))))))) (nSeq (nExpr (mCallD u_check_number (aCons (mVar 4) (aCons (mVar 2) (aNil))))) (nSeq (nExpr (mCallD u_check_number (aCons (mVar 5) (aCons (mVar 2) (aNil))))) (nSeq (nNot (tOrZ (tNotZ (mT (mCall (isiD isiC isiT) (aCons (mVar 6) (aCons (mC (.opq (.ty "str"))) (aNil)))))) (mT (mOp notInAD (mVar 6) (mC (.tup ((["plain", "with"] : List PySem.Str).map D.str))))))) (nSeq (nExpr (mCallD u_check_hosts (aCons (mVar 7) (aCons (mVar 1) (aNil))))) (nSeq (nFld "numbers" (mTup (aCons (mVar 1) (aCons (mVar 2) (aCons (mVar 4) (aCons (mVar 5) (aNil))))))) (nSeq (nFld "words" (mTup (aCons (mVar 3) (aCons (mVar 6) (aNil))))) (nSeq (nFld "held_hosts" (mVar 7)) (nSeq (nFld "racks" (mDc [8, 9, 10] (seqI (mVar 7)) (cTup [8, 9, 10]) (yesT) (mVar 8) (mVar 9))) (nSeq (nFld "marks" (mCallD (fun ds s => lft (sortedD ds) s) (aCons (mLc2 [8, 9, 10, 11] (seqI (mVar 7)) (cTup [8, 9, 10]) (yesT) (seqI (mVar 10)) [11] (cNm 11) (yesT) (mTup (aCons (mVar 11) (aCons (mVar 8) (aNil))))) (aNil)))) (nNil)))))))))))))
def u_written : MD := mkD 1 2 (sSeq (sIf (tOrZ (tNotZ (mT (mChain leD leD (mC (.int 1)) (mCall lenD (aCons (mVar 0) (aNil))) (mC (.int 19))))) (tNotZ (mT (mCall allD (aCons (mLc [1] (seqI (mVar 0)) (cNm 1) (yesT) (mOp inAD (mVar 1) (mC (.str "0123456789")))) (aNil)))))) (sRet (mC .non)) (sNil)) (sRet (mIf (tAndZ (mT (mOp eqD (mOp idxD (mVar 0) (mC (.int 0))) (mC (.str "0")))) (mT (mOp gtD (mCall lenD (aCons (mVar 0) (aNil))) (mC (.int 1))))) (mC .non) (mCall intD (aCons (mVar 0) (aNil))))))
def u_host_of : MD := mkD 1 3 (sSeq (sSet 1 (mSplit (mVar 0) (mC (.str " ")))) (sSeq (sIf (tOrZ (mT (mOp neD (mOp idxD (mVar 1) (mC (.int 0))) (mC (.str "host")))) (mT (mOp ltD (mCall lenD (aCons (mVar 1) (aNil))) (mC (.int 4))))) (sRet (mC .non)) (sNil)) (sRet (mTup (aCons (mOp idxD (mVar 1) (mC (.int 1))) (aCons (mOp idxD (mVar 1) (mC (.int 2))) (aCons (mCall tupleD (aCons (mLc [2] (seqI (mSl slL (mVar 1) (oSome (mC (.int 3))) (oNone))) (cNm 2) (yesT) (mCallD u_written (aCons (mVar 2) (aNil)))) (aNil))) (aNil))))))))
def u_Ring_read : MD := mkD 2 15 (sSeq (sIf (tNotZ (mT (mCall (isiD isiC isiT) (aCons (mVar 1) (aCons (mC (.opq (.ty "str"))) (aNil)))))) (sDie) (sNil)) (sSeq (sAsg (gStar 1 2 (gsCons (gNm 2) (gsCons (gNm 3) (gsNil)))) (mSplit (mVar 1) (mC (.str "\n")))) (sSeq (sSet 4 (mSplit (mVar 2) (mC (.str " ")))) (sSeq (sSet 5 (mCall tupleD (aCons (mLc [6] (seqI (mVar 3)) (cNm 6) (yesT) (mCallD u_host_of (aCons (mVar 6) (aNil)))) (aNil)))) (sSeq (sIf (tOrZ (mT (mOp neD (mCall lenD (aCons (mVar 4) (aNil))) (mC (.int 7)))) (tOrZ (mT (mOp neD (mOp idxD (mVar 4) (mC (.int 0))) (mC (.str "ring")))) (mT (mOp inAD (mC .non) (mVar 5))))) (sDie) (sNil)) (sSeq (sAsg (gSeq (gsCons (gNm 7) (gsCons (gNm 8) (gsCons (gNm 9) (gsCons (gNm 10) (gsCons (gNm 11) (gsCons (gNm 12) (gsCons (gNm 13) (gsNil))))))))) (mVar 4)) (sSeq (sSet 14 (mCls "Ring" 0 (mdMake "Ring" u_Ring___init__) (aCons (mCallD u_written (aCons (mVar 8) (aNil))) (aCons (mCallD u_written (aCons (mVar 9) (aNil))) (aCons (mVar 10) (aCons (mCallD u_written (aCons (mVar 11) (aNil))) (aCons (mCallD u_written (aCons (mVar 12) (aNil))) (aCons (mVar 13) (aCons (mVar 5) (aNil)))))))))) (sRet (mVar 14)))))))))
def u__law_sheet : MD := mkD 1 13 (sSeq (sAsg (gSeq (gsCons (gNm 1) (gsCons (gNm 2) (gsCons (gNm 3) (gsCons (gNm 4) (gsCons (gNm 5) (gsCons (gNm 6) (gsCons (gNm 7) (gsNil))))))))) (mVar 0)) (sSeq (sOwn 8 (mLst (aCons (mJoin (mC (.str " ")) (mLst (aCons (mC (.str "ring")) (aCons (mCall strD (aCons (mVar 1) (aNil))) (aCons (mCall strD (aCons (mVar 2) (aNil))) (aCons (mVar 3) (aCons (mCall strD (aCons (mVar 4) (aNil))) (aCons (mCall strD (aCons (mVar 5) (aNil))) (aCons (mVar 6) (aNil)))))))))) (aNil)))) (sSeq (sFor (seqI (mVar 7)) (gSeq (gsCons (gNm 9) (gsCons (gNm 10) (gsCons (gNm 11) (gsNil))))) (sApp 8 (mJoin (mC (.str " ")) (mOp addAll (mLst (aCons (mC (.str "host")) (aCons (mVar 9) (aCons (mVar 10) (aNil))))) (mLc [12] (seqI (mVar 11)) (cNm 12) (yesT) (mCall strD (aCons (mVar 12) (aNil)))))))) (sFrz 8 (sRet (mJoin (mC (.str "\n")) (mVar 8)))))))
def u__law_made : MD := mkD 2 10 (sSeq (sSet 2 (mCallD u__law_dip (aCons (mVar 0) (aCons (mC (.int 3)) (aNil))))) (sSeq (sAsg (gSeq (gsCons (gNm 3) (gsCons (gNm 4) (gsCons (gNm 5) (gsCons (gNm 6) (gsCons (gNm 7) (gsCons (gNm 8) (gsCons (gNm 9) (gsNil))))))))) (mVar 1)) (sSeq (sIf (mT (mOp eqD (mVar 2) (mC (.int 0)))) (sRet (mCallD (mdMake "Ring" u_Ring___init__) (aCons (mVar 3) (aCons (mVar 4) (aCons (mVar 5) (aCons (mVar 6) (aCons (mVar 7) (aCons (mVar 8) (aCons (mVar 9) (aNil)))))))))) (sNil)) (sSeq (sIf (mT (mOp eqD (mVar 2) (mC (.int 1)))) (sRet (mCallD (mdPick [6, 5, 4, 3, 2, 1, 0] (mdMake "Ring" u_Ring___init__)) (aCons (mVar 9) (aCons (mVar 8) (aCons (mVar 7) (aCons (mVar 6) (aCons (mVar 5) (aCons (mVar 4) (aCons (mVar 3) (aNil)))))))))) (sNil)) (sRet (mCm "Ring" u_Ring_read (mC (.ty "Ring")) (aCons (mCallD u__law_sheet (aCons (mVar 1) (aNil))) (aNil))))))))
def u_Ring_points : MD := mkD 1 1 (sRet (mOp idxD (mFld "Ring" "numbers" (mVar 0)) (mC (.int 0))))
def u_Ring_factor : MD := mkD 1 1 (sRet (mOp idxD (mFld "Ring" "numbers" (mVar 0)) (mC (.int 1))))
def u_Ring_spread : MD := mkD 1 1 (sRet (mOp idxD (mFld "Ring" "words" (mVar 0)) (mC (.int 0))))
def u_Ring_write : MD := mkD 1 1 (sRet (mOp idxD (mFld "Ring" "numbers" (mVar 0)) (mC (.int 2))))
def u_Ring_read_number : MD := mkD 1 1 (sRet (mOp idxD (mFld "Ring" "numbers" (mVar 0)) (mC (.int 3))))
def u_Ring_pending : MD := mkD 1 1 (sRet (mOp idxD (mFld "Ring" "words" (mVar 0)) (mC (.int 1))))
def u_Ring_hosts : MD := mkD 1 1 (sRet (mFld "Ring" "held_hosts" (mVar 0)))
def u_Ring_names : MD := mkD 1 1 (sRet (mCall tupleD (aCons (mCallD (fun ds s => lft (sortedDicD ds) s) (aCons (mFld "Ring" "racks" (mVar 0)) (aNil))) (aNil))))
def u_Ring___len__ : MD := mkD 1 1 (sRet (mCall lenD (aCons (mFld "Ring" "held_hosts" (mVar 0)) (aNil))))
def u_Ring___str__ : MD := mkD 1 11 (sSeq (sAsg (gSeq (gsCons (gNm 1) (gsCons (gNm 2) (gsCons (gNm 3) (gsCons (gNm 4) (gsNil)))))) (mFld "Ring" "numbers" (mVar 0))) (sSeq (sSet 5 (mLst (aCons (mC (.str "ring")) (aCons (mCall strD (aCons (mVar 1) (aNil))) (aCons (mCall strD (aCons (mVar 2) (aNil))) (aCons (mProp "Ring" u_Ring_spread (mVar 0)) (aCons (mCall strD (aCons (mVar 3) (aNil))) (aCons (mCall strD (aCons (mVar 4) (aNil))) (aCons (mProp "Ring" u_Ring_pending (mVar 0)) (aNil)))))))))) (sSeq (sOwn 6 (mLc [8, 9, 10] (seqI (mFld "Ring" "held_hosts" (mVar 0))) (cTup [8, 9, 10]) (yesT) (mJoin (mC (.str " ")) (mLst (aCons (mC (.str "host")) (aCons (mVar 8) (aCons (mVar 9) (aStar (mLc [7] (seqI (mVar 10)) (cNm 7) (yesT) (mCall strD (aCons (mVar 7) (aNil)))) (aNil))))))))) (sFrz 6 (sRet (mJoin (mC (.str "\n")) (mLst (aCons (mJoin (mC (.str " ")) (mVar 5)) (aStar (mVar 6) (aNil))))))))))
def u_Ring___bool__ : MD := mkD 1 1 (sRet (mC (.bl true)))
def u_Ring___contains__ : MD := mkD 2 2 (sRet (mAnd (mCall (isiD isiC isiT) (aCons (mVar 1) (aCons (mC (.opq (.ty "str"))) (aNil)))) (mOp inDic (mVar 1) (mFld "Ring" "racks" (mVar 0)))))
def u_check_host : MD := mkD 2 2 (sIf (mT (mOpM (ownNotIn "Ring" u_Ring___contains__) (mVar 1) (mVar 0))) (sDie) (sNil))
def u_Ring___getitem__ : MD := mkD 2 3 (sSeq (sExpr (mCallD u_check_host (aCons (mVar 0) (aCons (mVar 1) (aNil))))) (sRet (mOp idxD (mLc [2] (seqI (mFld "Ring" "held_hosts" (mVar 0))) (cNm 2) (mT (mOp eqD (mOp idxD (mVar 2) (mC (.int 0))) (mVar 1))) (mSl slD (mVar 2) (oSome (mC (.int 1))) (oNone))) (mC (.int 0)))))
def u__law_answer : MD := mkD 2 6 (sSeq (sSet 2 (mLst (aCons (mProp "Ring" u_Ring_points (mVar 0)) (aCons (mProp "Ring" u_Ring_factor (mVar 0)) (aCons (mProp "Ring" u_Ring_spread (mVar 0)) (aCons (mProp "Ring" u_Ring_write (mVar 0)) (aCons (mProp "Ring" u_Ring_read_number (mVar 0)) (aCons (mProp "Ring" u_Ring_pending (mVar 0)) (aCons (mProp "Ring" u_Ring_hosts (mVar 0)) (aCons (mProp "Ring" u_Ring_names (mVar 0)) (aNil))))))))))) (sSeq (sSet 2 (mOp addAll (mVar 2) (mLst (aCons (mCallD (ownD "Ring" u_Ring___len__ okLen) (aCons (mVar 0) (aNil))) (aCons (mCallD (ownD "Ring" u_Ring___str__ okStr) (aCons (mVar 0) (aNil))) (aCons (mCallD (ownD "Ring" u_Ring___bool__ okBool) (aCons (mVar 0) (aNil))) (aNil))))))) (sRet (mCallD reprM (aCons (mOp addAll (mVar 2) (mLst (aCons (mLc [3, 4, 5] (seqI (mVar 1)) (cTup [3, 4, 5]) (yesT) (mOpM (ownSub "Ring" u_Ring___getitem__) (mVar 0) (mVar 3))) (aNil)))) (aNil))))))
def u__law_expected : MD := mkD 1 7 (sSeq (sSet 1 (mOp idxD (mVar 0) (mC (.int 6)))) (sSeq (sSet 2 (mCallD (fun ds s => lft (sortedD ds) s) (aCons (mLc [3, 4, 5] (seqI (mVar 1)) (cTup [3, 4, 5]) (yesT) (mVar 3)) (aNil)))) (sSeq (sSet 6 (mOp addAll (mSl slL (mVar 0) (oNone) (oSome (mC (.int 6)))) (mLst (aCons (mVar 1) (aCons (mCall tupleD (aCons (mVar 2) (aNil))) (aCons (mCall lenD (aCons (mVar 1) (aNil))) (aCons (mCallD u__law_sheet (aCons (mVar 0) (aNil))) (aCons (mC (.bl true)) (aNil))))))))) (sRet (mCallD reprM (aCons (mOp addAll (mVar 6) (mLst (aCons (mLc [3, 4, 5] (seqI (mVar 1)) (cTup [3, 4, 5]) (yesT) (mTup (aCons (mVar 4) (aCons (mVar 5) (aNil))))) (aNil)))) (aNil)))))))
def u__law_known_right : MD := mkD 2 7 (sSeq (sOwn 2 (mLc [3, 4, 5] (seqI (mVar 1)) (cTup [3, 4, 5]) (yesT) (mVar 3))) (sSeq (sFrz 2 (sFor (seqI (mOp addAll (mOp addAll (mOp addAll (mVar 2) (mLc [3] (seqI (mVar 2)) (cNm 3) (yesT) (mSl slD (mVar 3) (oNone) (oSome (mUn negD (mC (.int 1))))))) (mLc [3] (seqI (mVar 2)) (cNm 3) (yesT) (mOp addD (mVar 3) (mC (.str "0"))))) (mLc [3, 4, 5] (seqI (mVar 1)) (cTup [3, 4, 5]) (yesT) (mVar 4)))) (gNm 6) (sIf (mT (mOp neD (mCallD reprM (aCons (mOpM (ownIn "Ring" u_Ring___contains__) (mVar 6) (mVar 0)) (aNil))) (mCallD reprM (aCons (mOp inAD (mVar 6) (mVar 2)) (aNil))))) (sRet (mC (.bl false))) (sNil)))) (sRet (mC (.bl true)))))
def u__law_filled : MD := mkF 2 5 (sSeq (sSet 2 (mIf (mT (mOp ltD (mVar 1) (mCall lenD (aCons (mVar 0) (aNil))))) (mOp idxD (mVar 0) (mVar 1)) (mC (.int 0)))) (sSeq (sSet 3 (mOp addD (mC (.int 90007)) (mOp mulD (mC (.int 4409)) (mVar 1)))) (sSeq (sFor (seqI (mSl slL (mVar 0) (oNone) (oSome (mC (.int 6))))) (gNm 4) (sSet 3 (mOp modD (mCall intD (aCons (mOp addD (mOp addD (mOp mulD (mVar 3) (mC (.int 33347))) (mOp mulD (mVar 4) (mC (.int 11)))) (mC (.int 29))) (aNil))) (mC (.int 2147483543))))) (sRto (mLst (aCons (mIf (tOrZ (mT (mOp ltD (mVar 2) (mC (.int 0)))) (mT (mOp geD (mVar 2) (mOp powD (mC (.int 10)) (mC (.int 18)))))) (mCall absD (aCons (mVar 2) (aNil))) (mC (.int 0))) (aCons (mOp modD (mCall intD (aCons (mOp addD (mOp addD (mOp mulD (mVar 3) (mC (.int 71))) (mOp mulD (mVar 2) (mVar 2))) (mOp mulD (mC (.int 13)) (mVar 1))) (aNil))) (mC (.int 2147483543))) (aCons (mC (.int 0)) (aNil)))))))))
end C
end Z

set_option Elab.async false
set_option linter.all false
set_option maxRecDepth 100000
namespace Z
namespace C
open PySem PySem.Spec PyProof.Rows L2
/-! ### the keg -/
/-- the cells: lists of ints; dicts of tuple keys; code tables -/
def Ks (s : S) : Prop := ∀ d ∈ s, (∃ is : List Int, d = .lst (is.map .int)) ∨ (∃ kk : List (List Key), d = .tup (kk.map kTupD)) ∨ ∃ q, d = .ty q
structure KG (s : S) (n B : Nat) : Prop where
  all : Ks s
  at_ : ∃ a b c : Int, s[n]? = some (.lst [.int a, .int b, .int c]) ∧ 0 ≤ b ∧ b < 2147483648 ∧ 0 ≤ c ∧ c ≤ B
/-- what a call with the keg tells: r with P r; at most k steps of the keg -/
def Dr (md : MD) (ds : List D) (s : S) (n B k : Nat) (P : D → Prop) : Prop := ∃ r s', md ds s = some (r, s') ∧ KG s' n (B + k) ∧ s'.length = s.length ∧ P r
theorem log_le {x : Int} {k : Nat} (h : x.natAbs < 2 ^ (k + 1)) : x.natAbs.log2 ≤ k := by
  by_cases h0 : x.natAbs = 0
  · rw [h0]; simp
  · have := (Nat.log2_lt h0).mpr h
    omega
theorem cmul_ok {i j : Int} (h1 : i.natAbs < 2 ^ 100) (h2 : j.natAbs < 2 ^ 100) : CMulZ i j := by
  unfold CMulZ
  have a := log_le (k := 99) h1
  have b := log_le (k := 99) h2
  omega
theorem kg_set {s : S} {n B : Nat} {a b c : Int} (h : Ks s) (hn : n < s.length) (hb : 0 ≤ b) (hb2 : b < 2147483648) (hc : 0 ≤ c) (hc2 : c ≤ B) : KG (s.set n (.lst [.int a, .int b, .int c])) n B :=
  ⟨fun d hd => by
    rcases List.mem_or_eq_of_mem_set hd with h1 | h1
    · exact h d h1
    · exact .inl ⟨[a, b, c], h1⟩, a, b, c, by rw [List.getElem?_set_self hn], hb, hb2, hc, hc2⟩
theorem dip_ok {s : S} {n B : Nat} {m : Int} (h : KG s n B) (hB : B < 2 ^ 40) (h0 : 0 < m) (h1 : m < 1152921504606846976) : Dr u__law_dip [.cel n, .int m] s n B 1 fun r => ∃ i : Int, r = .int i ∧ 0 ≤ i ∧ i < m := by
  obtain ⟨ha, a, b, c, hs, b0, b1, c0, c1⟩ := h
  have hn : n < s.length := (List.getElem?_eq_some_iff.mp hs).1
  unfold Dr u__law_dip
  by_cases hpos : 0 < a
  · refine ⟨.int (a % m), s.set n (.lst [.int (a / m), .int b, .int c]), ?_, kg_set ha hn b0 b1 c0 (by omega), by simp, _, rfl, Int.emod_nonneg _ (by omega), Int.emod_lt_of_pos _ h0⟩
    simp [mkD, startE, outM, sSeq, seqK, sIf, bndS, bnd, lft, mT, mOp, mOpM, mVar, mC, idxCel, hs, gtD, truD, hpos, sAsg, mCall, aCons, aNil, divmodD, h0, h1, gSeq, gsCons, gsNil, gCel, gNm, sRet, ixN, atI, seqIndex?]
  · have e1 : CMulZ 2 (c + 1) := cmul_ok (by omega) (by omega)
    have e2 : CMulZ b (39877 + 2 * (c + 1)) := cmul_ok (by omega) (by omega)
    have e3 : CMulZ 6151 (c + 1) := cmul_ok (by omega) (by omega)
    generalize hx : (b * (39877 + 2 * (c + 1)) + 6151 * (c + 1) + 3) % 2147483543 = x
    have x0 : 0 ≤ x := by rw [← hx]; exact Int.emod_nonneg _ (by decide)
    have x1 : x < 2147483543 := by rw [← hx]; exact Int.emod_lt_of_pos _ (by decide)
    have e4 : CMulZ x 44491 := cmul_ok (by omega) (by omega)
    have e5 : CMulZ (c + 1) (c + 1) := cmul_ok (by omega) (by omega)
    generalize hy : (x * 44491 + (c + 1) * (c + 1)) % 2147483497 = y
    have y0 : 0 ≤ y := by rw [← hy]; exact Int.emod_nonneg _ (by decide)
    have y1 : y < 2147483497 := by rw [← hy]; exact Int.emod_lt_of_pos _ (by decide)
    have e6 : Nat.log2 512 < 9000 := by decide
    refine ⟨.int (y / 512 % m), (s.set n (.lst [.int a, .int b, .int (c + 1)])).set n (.lst [.int a, .int y, .int (c + 1)]), ?_, ?_, by simp, _, rfl, Int.emod_nonneg _ (by omega), Int.emod_lt_of_pos _ h0⟩
    · have hg : ∀ X : D, (s.set n X)[n]? = some X := fun X => List.getElem?_set_self hn
      simp [mkD, startE, outM, sSeq, seqK, sNil, sIf, bndS, bnd, lft, mT, mOp, mOpM, mVar, mC, idxCel, hs, gtD, truD, hpos, sAsg, mCall, aCons, aNil, h0, h1, gCel, sRet, sSet, ixN, atI, seqIndex?, addD, mulD, modD, fdivD, intD, hg, e1, e2, e3, e4, e5, e6, hx, hy]
    · exact kg_set (n := n) (s := s.set n (.lst [.int a, .int b, .int (c + 1)])) (kg_set (B := B + 1) ha hn b0 b1 (by omega) (by omega)).all (by simpa using hn) y0 (by omega) (by omega) (by omega)
theorem at_mem {ds : List D} {i : Int} (h0 : 0 ≤ i) (h1 : i < ds.length) : ∃ d, atI ds i = some d ∧ d ∈ ds := by
  have hj : i.toNat < ds.length := by omega
  refine ⟨ds[i.toNat], ?_, List.getElem_mem hj⟩
  have e1 : (i.toNat : Int) = i := by omega
  simp [atI, ixN, h0, h1, hj]
theorem of_ok {s : S} {n B : Nat} {ds : List D} (h : KG s n B) (hB : B < 2 ^ 40) (h0 : 0 < ds.length) (h1 : ds.length < 1073741824) : Dr u__law_of [.cel n, .lst ds] s n B 1 fun r => r ∈ ds := by
  obtain ⟨r, s', e, hk, hl, i, rfl, i0, i1⟩ := dip_ok (m := ds.length) h hB (by omega) (by omega)
  obtain ⟨d, e2, hd⟩ := at_mem i0 i1
  exact ⟨d, s', by simp [u__law_of, mkD, startE, outM, sRet, bndS, bnd, lft, mOp, mVar, mCallD, mCall, aCons, aNil, lenD, e, idxD, e2], hk, hl, hd⟩
theorem KG.le {s : S} {n B B' : Nat} (h : KG s n B) (hb : B ≤ B') : KG s n B' := ⟨h.all, let ⟨a, b, c, q, b0, b1, c0, c1⟩ := h.at_; ⟨a, b, c, q, b0, b1, c0, by omega⟩⟩
theorem vast_ok {s : S} {n B : Nat} {m : Int} (h : KG s n B) (hB : B + 10 < 2 ^ 40) (h0 : 0 < m) : Dr u__law_vast [.cel n, .int m] s n B 4 fun r => ∃ i : Int, r = .int i ∧ 0 ≤ i ∧ i < m := by
  unfold Dr u__law_vast
  obtain ⟨e', s', hf, x, he, hk, hl, x0, x1⟩ := for_inv (mg := gNm 3) (mb := sSet 2 (mOp addD (mOp mulD (mVar 2) (mC (.int 1000003))) (mCallD u__law_dip (aCons (mVar 0) (aCons (mC (.int 1000003)) (aNil))))))
    (fun i e s1 => ∃ x : Int, (∃ y, e = [.val (.cel n), .val (.int m), .val (.int x), y]) ∧ KG s1 n (B + i) ∧ s1.length = s.length ∧ 0 ≤ x ∧ x < 1000003 ^ i) (rngD 0 4) 0 [.val (.cel n), .val (.int m), .val (.int 0), .unb] s ⟨0, ⟨_, rfl⟩, h, rfl, by omega, by simp⟩
    (fun j e s1 d hd ⟨x, ⟨y, he⟩, hk, hl, x0, x1⟩ => by
      have hj : j < 4 := by have := (List.getElem?_eq_some_iff.mp hd).1; simpa [rngD] using this
      obtain ⟨r, s2, e, hk2, hl2, i, rfl, i0, i1⟩ := dip_ok (m := 1000003) hk (by omega) (by omega) (by omega)
      have hp : (1000003 : Int) ^ (0 + j) ≤ 1000003 ^ 4 := by
        rcases j with _ | _ | _ | _ | j <;> first | decide | omega
      have c1 : CMulZ x 1000003 := cmul_ok (by omega) (by omega)
      subst he
      refine ⟨[.val (.cel n), .val (.int m), .val (.int x), .val d], s1, [.val (.cel n), .val (.int m), .val (.int (x * 1000003 + i)), .val d], s2, rfl, by simp [sSet, bndS, bnd, lft, mOp, mVar, mC, mCallD, aCons, aNil, mulD, addD, c1, e], x * 1000003 + i, ⟨_, rfl⟩, by simpa [Nat.add_assoc] using hk2, by omega, by omega, ?_⟩
      rw [show 0 + j + 1 = (0 + j) + 1 from rfl, Int.pow_succ]
      omega)
  obtain ⟨y, he⟩ := he
  subst he
  refine ⟨.int (x % m), s', ?_, by simpa [rngD] using hk, hl, _, rfl, Int.emod_nonneg _ (by omega), Int.emod_lt_of_pos _ h0⟩
  simp [mkD, startE, outM, sSeq, seqK, sSet, bndS, bnd, lft, mC, sFor, rngI, aCons, aNil, mCall, intD, modD, mOp, mVar, sRet, h0, hf]
/-! ### names -/
abbrev sL : Str := "abcdefghijklmnopqrstuvwxyz"
abbrev sD : Str := "0123456789"
def cL : List Nat := [97, 98, 99, 100, 101, 102, 103, 104, 105, 106, 107, 108, 109, 110, 111, 112, 113, 114, 115, 116, 117, 118, 119, 120, 121, 122]
def cD : List Nat := [48, 49, 50, 51, 52, 53, 54, 55, 56, 57]
theorem sL_cps : sL.cps.toList = cL := by decide +kernel
theorem sD_cps : sD.cps.toList = cD := by decide +kernel
theorem cpsA (a b : Str) : (a ++ b).cps.toList = a.cps.toList ++ b.cps.toList := by
  show (a.cps ++ b.cps).toList = _
  simp
theorem sLD_cps : (sL ++ sD).cps.toList = cL ++ cD := by
  rw [cpsA, sL_cps, sD_cps]
theorem len_cps (x : Str) : x.length = x.cps.toList.length := by simp [Str.length]
theorem sL_len : sL.length = 26 := by rw [len_cps, sL_cps]; rfl
theorem sD_len : sD.length = 10 := by rw [len_cps, sD_cps]; rfl
theorem sLD_len : (sL ++ sD).length = 36 := by rw [len_cps, sLD_cps]; rfl
/-- the codes of a name -/
def NmC (l : List Nat) : Prop := ∃ c cs, l = c :: cs ∧ c ∈ cL ∧ (∀ d ∈ cs, d ∈ cL ++ cD) ∧ cs.length ≤ 7
def Nm (x : Str) : Prop := NmC x.cps.toList
instance (l : List Nat) : Decidable (NmC l) := match l with
  | [] => isFalse fun ⟨_, _, e, _⟩ => by cases e
  | c :: cs => if h : c ∈ cL ∧ (∀ d ∈ cs, d ∈ cL ++ cD) ∧ cs.length ≤ 7 then isTrue ⟨c, cs, rfl, h⟩ else isFalse fun ⟨c', cs', e, q⟩ => h (by cases e; exact q)
instance (x : Str) : Decidable (Nm x) := inferInstanceAs (Decidable (NmC _))
theorem Dr.le {md : MD} {ds : List D} {s : S} {n B k k' : Nat} {P P' : D → Prop} (h : Dr md ds s n B k P) (hk : k ≤ k') (hp : ∀ r, P r → P' r) : Dr md ds s n B k' P' := let ⟨r, s', e, a, b, c⟩ := h; ⟨r, s', e, a.le (by omega), b, hp r c⟩
theorem atC {l : List Nat} {i : Int} (h0 : 0 ≤ i) (h1 : i < l.length) : ∃ c, atI l i = some c ∧ c ∈ l := by
  have hj : i.toNat < l.length := by omega
  refine ⟨l[i.toNat], ?_, List.getElem_mem hj⟩
  have e1 : (i.toNat : Int) = i := by omega
  simp [atI, ixN, h0, h1, hj]
/-- no name that is drawn is "newer" -/
def NN (x : Str) : Prop := x.cps.toList.length ≠ 5 ∨ x.cps.toList.getLast? ≠ some 114
instance (x : Str) : Decidable (NN x) := inferInstanceAs (Decidable (_ ∨ _))
theorem title_nn {s : S} {n B : Nat} (h : KG s n B) (hB : B + 20 < 2 ^ 40) : Dr u__law_title [.cel n] s n B 12 fun r => ∃ x, r = .str x ∧ Nm x ∧ NN x := by
  obtain ⟨r1, s1, e1, k1, l1, i, rfl, i0, i1⟩ := dip_ok (m := 6) h (by omega) (by omega) (by omega)
  by_cases hz : i = 0
  · subst hz
    obtain ⟨r2, s2, e2, k2, l2, m2⟩ := of_ok (ds := [.str "ring", .str "host", .str "plan", .str "hosts", .str "racks", .str "with", .str "plain", .str "join", .str "settle"]) k1 (by omega) (by simp) (by simp)
    refine ⟨r2, s2, ?_, k2.le (by omega), by omega, ?_⟩
    · simp [u__law_title, mkD, startE, outM, sSeq, seqK, sSet, bndS, bnd, lft, mC, sIf, mT, mOp, mVar, mCallD, aCons, aNil, e1, eqD, eqB, toV0, scal, truD, sRet, mLst, sizeLine_eq, e2]
    · have m3 : r2 ∈ (["ring", "host", "plan", "hosts", "racks", "with", "plain", "join", "settle"] : List Str).map D.str := m2
      obtain ⟨x, hx, rfl⟩ := List.mem_map.mp m3
      have all : ∀ y ∈ (["ring", "host", "plan", "hosts", "racks", "with", "plain", "join", "settle"] : List Str), Nm y ∧ NN y := by decide +kernel
      exact ⟨x, rfl, all x hx⟩
  · obtain ⟨r2, s2, e2, k2, l2, j, rfl, j0, j1⟩ := dip_ok (m := 26) k1 (by omega) (by omega) (by omega)
    obtain ⟨c, ec, hc⟩ := atC (l := sL.cps.toList) (i := j) j0 (by rw [sL_cps]; exact j1)
    obtain ⟨r3, s3, e3, k3, l3, m3⟩ := of_ok (ds := [.int 0, .int 0, .int 1, .int 2, .int 7, .int 3]) k2 (by omega) (by simp) (by simp)
    have m4 : r3 ∈ ([0, 0, 1, 2, 7, 3] : List Int).map D.int := m3
    obtain ⟨q, hq, rfl⟩ := List.mem_map.mp m4
    have hq7 : 0 ≤ q ∧ q ≤ 7 ∧ q ≠ 4 := by
      have all : ∀ y ∈ ([0, 0, 1, 2, 7, 3] : List Int), 0 ≤ y ∧ y ≤ 7 ∧ y ≠ 4 := by decide
      exact all q hq
    obtain ⟨e', s', hf, x, hx⟩ := for_inv (mg := gNm 3) (mb := sSet 2 (mOp addD (mVar 2) (mOp idxD (mOp addD (mVar 1) (mC (.str sD))) (mCallD u__law_dip (aCons (mVar 0) (aCons (mC (.int 36)) (aNil)))))))
      (fun i e s1 => ∃ x : Str, (∃ y, e = [.val (.cel n), .val (.str sL), .val (.str x), y]) ∧ KG s1 n (B + 3 + i) ∧ s1.length = s.length ∧ ∃ cs, x.cps.toList = c :: cs ∧ (∀ d ∈ cs, d ∈ cL ++ cD) ∧ cs.length = i) (rngD 0 q.toNat) 0 [.val (.cel n), .val (.str sL), .val (.str ⟨#[c]⟩), .unb] s3
      ⟨_, ⟨_, rfl⟩, k3.le (by omega), by omega, [], by simp, by simp, rfl⟩
      (fun t e s1 d hd ⟨x, ⟨y, he⟩, hk, hl, cs, x1, x2, x3⟩ => by
        have ht : t < q.toNat := by have := (List.getElem?_eq_some_iff.mp hd).1; simpa [rngD] using this
        obtain ⟨r, s2', e, hk2, hl2, i, rfl, i0, i1⟩ := dip_ok (m := 36) hk (by omega) (by omega) (by omega)
        obtain ⟨c', ec', hc'⟩ := atC (l := (sL ++ sD).cps.toList) (i := i) i0 (by rw [sLD_cps]; exact i1)
        have hxl : x.length ≤ 100 := by rw [len_cps, x1]; simp; omega
        have hcl : (⟨#[c']⟩ : Str).length = 1 := rfl
        subst he
        refine ⟨[.val (.cel n), .val (.str sL), .val (.str x), .val d], s1, [.val (.cel n), .val (.str sL), .val (.str (x ++ ⟨#[c']⟩)), .val d], s2', rfl, ?_, x ++ ⟨#[c']⟩, ⟨_, rfl⟩, by simpa [Nat.add_assoc] using hk2, by omega, cs ++ [c'], ?_, ?_, by simp; omega⟩
        · have q1 : x.length + 1 ≤ sizeLine := by rw [sizeLine_eq]; omega
          have q2 : (26 : Nat) + 10 ≤ sizeLine := by rw [sizeLine_eq]; omega
          have q3 : (36 : Nat) ≤ sizeLine := by rw [sizeLine_eq]; omega
          simp [sSet, bndS, bnd, lft, mOp, mVar, mC, mCallD, aCons, aNil, addD, e, idxD, sL_len, sD_len, sLD_len, q1, q2, q3, ec', hcl]
        · rw [cpsA, x1]; simp
        · intro d' hd'
          rcases List.mem_append.mp hd' with h1 | h1
          · exact x2 d' h1
          · rw [List.mem_singleton.mp h1]; rw [sLD_cps] at hc'; exact hc')
    obtain ⟨⟨y, he⟩, hk, hl, cs, x1, x2, x3⟩ := hx
    have hlen : (rngD 0 q.toNat).length = q.toNat := by simp [rngD]
    rw [hlen] at hk x3
    refine ⟨.str x, s', ?_, hk.le (by omega), by omega, x, rfl, ⟨c, cs, x1, by rw [sL_cps] at hc; exact hc, x2, by omega⟩, .inl (by rw [x1, List.length_cons]; omega)⟩
    have q3 : (26 : Nat) ≤ sizeLine := by rw [sizeLine_eq]; omega
    subst he
    have hr : rngI (aCons (mCallD u__law_of (aCons (mVar 0) (aCons (mLst (aCons (mC (.int 0)) (aCons (mC (.int 0)) (aCons (mC (.int 1)) (aCons (mC (.int 2)) (aCons (mC (.int 7)) (aCons (mC (.int 3)) (aNil)))))))) (aNil)))) (aNil)) [.val (.cel n), .val (.str sL), .val (.str ⟨#[c]⟩), .unb] s2 = some (rngD 0 q.toNat, s3) :=
      rng_ok (by simp [mCallD, aCons, aNil, bnd, mVar, mC, mLst, sizeLine_eq, e3]) (by omega) (by omega)
    simp [u__law_title, mkD, startE, outM, sSeq, seqK, sSet, sNil, bndS, bnd, lft, mC, sIf, mT, mOp, mVar, mCallD, aCons, aNil, e1, hz, eqD, eqB, toV0, scal, truD, sRet, mLst, sizeLine_eq, e2, idxD, sL_len, ec, sFor, hr, hf]
end C
end Z

set_option Elab.async false
set_option linter.all false
set_option maxRecDepth 100000
namespace Z
namespace C
open PySem PySem.Spec PyProof.Rows L2
theorem noLs_ints : ∀ is : List Int, noLs (is.map .int) = true
  | [] => rfl
  | i :: is => by
    rw [List.map_cons]
    show (true && noLs (is.map .int)) = true
    rw [noLs_ints is]; rfl
theorem ks_noC {s : S} (h : Ks s) : s.all noC = true := List.all_eq_true.mpr fun d hd => by
  rcases h d hd with ⟨is, rfl⟩ | ⟨kk, rfl⟩ | ⟨q, rfl⟩
  · exact noLs_ints is
  · rfl
  · rfl
theorem code_lt : ∀ c ∈ cL ++ cD, c < 1114112 := by decide
theorem nm_ok {x : Str} (h : Nm x) : PyData.strOk x = true := by
  obtain ⟨c, cs, e, h1, h2, _⟩ := h
  unfold PyData.strOk
  rw [← Array.all_toList, e]
  simp only [List.all_cons, Bool.and_eq_true, List.all_eq_true, decide_eq_true_eq]
  exact ⟨code_lt c (List.mem_append_left _ h1), fun d hd => code_lt d (h2 d hd)⟩
theorem nm_len {x : Str} (h : Nm x) : 1 ≤ x.length ∧ x.length ≤ 8 := by
  obtain ⟨c, cs, e, h1, h2, h3⟩ := h
  rw [len_cps, e]
  simp
  omega
def spL : List Str := ["a", "b", "a1", "a2", "zz9", "q", "r1", "x", "y", "z", "h0", "h1"]
theorem spL_nm : ∀ x ∈ spL, Nm x := by decide +kernel
theorem spL_nn : ∀ x ∈ spL, NN x := by decide +kernel
theorem spL_nd : spL.Nodup := by decide +kernel
/-- one of the spare names is free -/
theorem spare_free {fs : List Str} (h : fs.length < 12) (t : Str) : ∃ y, ((t :: spL).filter fun x => !decide (x ∈ fs)).head? = some y ∧ (y = t ∨ y ∈ spL) ∧ y ∉ fs := by
  have ex : ∃ y ∈ spL, y ∉ fs := by
    refine Classical.byContradiction fun hn => ?_
    have sub : ∀ y ∈ spL, y ∈ fs := fun y hy => Classical.byContradiction fun z => hn ⟨y, hy, z⟩
    have := spL_nd.length_le_of_subset sub
    have l : spL.length = 12 := rfl
    omega
  obtain ⟨z, hz, hz2⟩ := ex
  have hm : z ∈ (t :: spL).filter fun x => !decide (x ∈ fs) := by
    rw [List.mem_filter]
    exact ⟨List.mem_cons_of_mem _ hz, by simp [hz2]⟩
  cases hl : (t :: spL).filter fun x => !decide (x ∈ fs) with
  | nil => rw [hl] at hm; cases hm
  | cons y r =>
    have hy : y ∈ (t :: spL).filter fun x => !decide (x ∈ fs) := by rw [hl]; simp
    rw [List.mem_filter] at hy
    refine ⟨y, rfl, ?_, by simpa using hy.2⟩
    rcases List.mem_cons.mp hy.1 with e | e
    · exact .inl e
    · exact .inr e
theorem filter_strs (p : Str → Bool) (q : D → Bool) (h : ∀ x, q (.str x) = p x) : ∀ xs : List Str, (xs.map D.str).filter q = (xs.filter p).map D.str
  | [] => rfl
  | x :: r => by
    rw [List.map_cons, List.filter_cons, List.filter_cons, h x, filter_strs p q h r]
    split <;> simp
theorem free_ok {s : S} {v0 v1 v4 : Sl} {fs : List Str} {t : Str} (hs : s.all noC = true) (h : fs.length < 12) : ∃ y, mBor 3 (mOp idxD (mLc [6] (seqI (mOp addAll (mLst (aCons (mVar 5) (aNil))) (mVar 2))) (cNm 6) (mT (mOp notInAD (mVar 6) (mVar 3))) (mVar 6)) (mC (.int 0))) [v0, v1, .val (.lst (spL.map .str)), .own (.lst (fs.map .str)), v4, .val (.str t), .unb] s = some (.str y, s) ∧ (y = t ∨ y ∈ spL) ∧ y ∉ fs := by
  obtain ⟨y, h1, h2, h3⟩ := spare_free h t
  refine ⟨y, ?_, h2, h3⟩
  have hl := lc_pure (mc := cNm 6) (mt := mT (mOp notInAD (mVar 6) (mVar 3))) (me := mVar 6) (e := [v0, v1, .val (.lst (spL.map .str)), .val (.lst (fs.map .str)), v4, .val (.str t), .unb]) (s := s)
    (fun d => [v0, v1, .val (.lst (spL.map .str)), .val (.lst (fs.map .str)), v4, .val (.str t), .val d]) (fun d => match d with | .str x => !decide (x ∈ fs) | _ => false) id ((t :: spL).map .str) (fun d hd => by
      obtain ⟨x, _, rfl⟩ := List.mem_map.mp hd
      refine ⟨rfl, ?_, fun _ => rfl⟩
      simp [mT, mOp, mVar, bnd, lft, notInAD, inA_str, truD])
  have hf := filter_strs (fun x => !decide (x ∈ fs)) (fun d => match d with | .str x => !decide (x ∈ fs) | _ => false) (fun x => rfl) (t :: spL)
  have hf : List.filter (fun d => match d with | .str x => !decide (x ∈ fs) | _ => false) ((t :: spL).map D.str) = ((t :: spL).filter fun x => !decide (x ∈ fs)).map D.str := hf
  rw [hf] at hl
  obtain ⟨r, hr⟩ : ∃ r, (t :: spL).filter (fun x => !decide (x ∈ fs)) = y :: r := by
    cases e : (t :: spL).filter (fun x => !decide (x ∈ fs)) with
    | nil => rw [e] at h1; cases h1
    | cons a r => rw [e] at h1; cases h1; exact ⟨r, rfl⟩
  rw [hr] at hl
  have hlen : r.length + 1 ≤ 13 := by
    have := List.length_filter_le (fun x => !decide (x ∈ fs)) (t :: spL)
    rw [hr] at this
    have l : spL.length = 12 := rfl
    simp only [List.length_cons, l] at this
    omega
  have q1 : r.length + 1 ≤ sizeLine := by rw [sizeLine_eq]; omega
  have q2 : (1 : Nat) ≤ sizeLine := by rw [sizeLine_eq]; omega
  have q3 : (13 : Nat) ≤ sizeLine := by rw [sizeLine_eq]; omega
  have hl' : lcL (cNm 6) (mT (mOp notInAD (mVar 6) (mVar 3))) (mVar 6) [v0, v1, .val (.lst (spL.map .str)), .val (.lst (fs.map .str)), v4, .val (.str t), .unb] (D.str t :: spL.map D.str) s = some (D.str y :: r.map D.str, s) := by simpa using hl
  have cat : addAll (.lst [.str t]) (.lst (spL.map D.str)) = some (.lst (D.str t :: spL.map D.str)) := by
    simp [addAll, addD, catD, q3, show spL.length = 12 from rfl]
  simp [mBor, bnd, frzE, mOp, mLc, seqI, mLst, aCons, aNil, mVar, cat, wipeE, hl', q1, q2, lft, mC, idxD, atI, ixN, noL, hs]
abbrev sE : Str := "0123456789ab"
def cE : List Nat := [48, 49, 50, 51, 52, 53, 54, 55, 56, 57, 97, 98]
theorem sE_cps : sE.cps.toList = cE := by decide +kernel
theorem sE_len : sE.length = 12 := by rw [len_cps, sE_cps]; rfl
theorem cE_ok : ∀ c ∈ cE, c ∈ cL ++ cD := by decide
theorem bent_nm {x : Str} {c : Nat} (h : Nm x) (hc : c ∈ cE) : Nm (cutS x none (some 7) ++ ⟨#[c]⟩) := by
  obtain ⟨a, cs, e, h1, h2, h3⟩ := h
  refine ⟨a, cs.take 6 ++ [c], ?_, h1, ?_, ?_⟩
  · rw [cpsA, show (some (7 : Int)) = some ((7 : Nat) : Int) from rfl, cutS_take, e]
    simp
  · intro d hd
    rcases List.mem_append.mp hd with q | q
    · exact h2 d (List.mem_of_mem_take q)
    · rw [List.mem_singleton.mp q]; exact cE_ok c hc
  · simp
    omega
theorem bent_nn {x : Str} {c : Nat} (hc : c ∈ cE) : NN (x ++ ⟨#[c]⟩) := by
  right
  rw [cpsA]
  have e : (⟨#[c]⟩ : Str).cps.toList = [c] := rfl
  rw [e, List.getLast?_concat]
  have : ∀ c ∈ cE, c ≠ 114 := by decide
  have h := this c hc
  simpa using h
/-- the second name of a pair that is alike -/
theorem bend_ok {s : S} {n B i : Nat} {m : Int} {fs : List Str} {t : Str} {y6 : Sl} (h : KG s n B) (hB : B + 20 < 2 ^ 40) (hf : ∀ x ∈ fs, Nm x) (ht : Nm t) (hnt : NN t) (hi : i < 12) :
    ∃ s' y, sIf (tBor 3 (tAndZ (mT (mOp neD (mVar 3) (mLst (aNil)))) (mT (mOp eqD (mCallD u__law_dip (aCons (mVar 0) (aCons (mC (.int 4)) (aNil)))) (mC (.int 0)))))) (sSet 5 (mBor 3 (mOp addD (mSl slD (mOp idxD (mVar 3) (mC (.int 0))) (oNone) (oSome (mC (.int 7)))) (mOp idxD (mC (.str "0123456789ab")) (mVar 4))))) (sNil)
      [.val (.cel n), .val (.int m), .val (.lst (spL.map .str)), .own (.lst (fs.map .str)), .val (.int i), .val (.str t), y6] s = some (.nx, [.val (.cel n), .val (.int m), .val (.lst (spL.map .str)), .own (.lst (fs.map .str)), .val (.int i), .val (.str y), y6], s') ∧ (Nm y ∧ NN y) ∧ KG s' n (B + 1) ∧ s'.length = s.length := by
  have q0 : (0 : Nat) ≤ sizeLine := Nat.zero_le _
  have hn := ne_nil_strs fs fun x hx => nm_ok (hf x hx)
  cases fs with
  | nil =>
    refine ⟨s, t, ?_, ⟨ht, hnt⟩, h.le (by omega), rfl⟩
    have hs := ks_noC h.all
    simp at hn
    simp [sIf, bndS, tBor, bnd, frzE, tAndZ, mT, mOp, mVar, mLst, aNil, lft, hn, truD, sNil, hs]
  | cons f r =>
    obtain ⟨r1, s1, e1, k1, l1, j, rfl, j0, j1⟩ := dip_ok (m := 4) h (by omega) (by omega) (by omega)
    have hs := ks_noC k1.all
    simp at hn
    by_cases hj : j = 0
    · subst hj
      obtain ⟨c, ec, hc⟩ := atC (l := sE.cps.toList) (i := (i : Int)) (by omega) (by rw [sE_cps]; simp [cE]; omega)
      rw [sE_cps] at hc
      have hf0 := hf f (by simp)
      refine ⟨s1, cutS f none (some 7) ++ ⟨#[c]⟩, ?_, ⟨bent_nm hf0 hc, bent_nn hc⟩, k1, l1⟩
      have l8 := nm_len hf0
      have q1 : f.length ≤ sizeLine := by rw [sizeLine_eq]; omega
      have q2 : (12 : Nat) ≤ sizeLine := by rw [sizeLine_eq]; omega
      have q3 : (cutS f none (some 7)).length + (⟨#[c]⟩ : Str).length ≤ sizeLine := by
        have : (cutS f none (some 7)).length ≤ 7 := by
          rw [len_cps, show (some (7 : Int)) = some ((7 : Nat) : Int) from rfl, cutS_take]
          exact Nat.le_trans (List.length_take_le _ _) (by omega)
        have e1 : (⟨#[c]⟩ : Str).length = 1 := rfl
        rw [sizeLine_eq]
        omega
      have x0 : idxD (.lst (D.str f :: r.map D.str)) (.int 0) = some (.str f) := by simp [idxD, atI, ixN]
      have x1 : idxD (.str sE) (.int i) = some (.str ⟨#[c]⟩) := by simp [idxD, sE_len, q2, ec]
      simp [sIf, bndS, tBor, bnd, frzE, tAndZ, mT, mOp, mVar, mLst, aNil, lft, hn, truD, hs, mCallD, aCons, mC, e1, eqD, eqB, toV0, scal, sSet, mBor, mSl, oNone, oSome, x0, x1, slD, q1, addD, q3, noL]
    · refine ⟨s1, t, ?_, ⟨ht, hnt⟩, k1, l1⟩
      simp [sIf, bndS, tBor, bnd, frzE, tAndZ, mT, mOp, mVar, mLst, aNil, lft, hn, truD, hs, mCallD, aCons, mC, e1, eqD, eqB, toV0, scal, sNil, hj]
/-- so many names, no two alike -/
structure Nms0 (fs : List Str) (k : Nat) : Prop where
  len : fs.length = k
  nd : fs.Nodup
  nm : ∀ x ∈ fs, Nm x
  nn : ∀ x ∈ fs, NN x
theorem nms_add {fs : List Str} {k : Nat} {y : Str} (h : Nms0 fs k) (h1 : Nm y) (h2 : y ∉ fs) (h3 : NN y) : Nms0 (fs ++ [y]) (k + 1) :=
  ⟨by simp [h.len], List.nodup_append.mpr ⟨h.nd, by simp, fun a ha b hb => by rw [List.mem_singleton.mp hb]; exact fun e => h2 (e ▸ ha)⟩, fun x hx => (List.mem_append.mp hx).elim (h.nm x) fun q => by rw [List.mem_singleton.mp q]; exact h1, fun x hx => (List.mem_append.mp hx).elim (h.nn x) fun q => by rw [List.mem_singleton.mp q]; exact h3⟩
theorem titles_par {s : S} {n k : Nat} : sPar [2, 3] (xVal (mLst (aCons (mC (.str "a")) (aCons (mC (.str "b")) (aCons (mC (.str "a1")) (aCons (mC (.str "a2")) (aCons (mC (.str "zz9")) (aCons (mC (.str "q")) (aCons (mC (.str "r1")) (aCons (mC (.str "x")) (aCons (mC (.str "y")) (aCons (mC (.str "z")) (aCons (mC (.str "h0")) (aCons (mC (.str "h1")) (aNil)))))))))))))) (xOwn (mLst (aNil)) (xNil))) [.val (.cel n), .val (.int k), .unb, .unb, .unb, .unb, .unb] s = some (.nx, [.val (.cel n), .val (.int k), .val (.lst (spL.map .str)), .own (.lst []), .unb, .unb, .unb], s) := by
  simp [sPar, bndS, xVal, xOwn, xNil, bnd, mLst, aCons, aNil, mC, sizeLine_eq, setX, spL]
theorem titles_loop {s : S} {n B k : Nat} (h : KG s n B) (hB : B + 300 < 2 ^ 40) (hk : k ≤ 12) : ∃ e' s', forL (gNm 4) (sSeq (sSet 5 (mCallD u__law_title (aCons (mVar 0) (aNil)))) (sSeq (sIf (tBor 3 (tAndZ (mT (mOp neD (mVar 3) (mLst (aNil)))) (mT (mOp eqD (mCallD u__law_dip (aCons (mVar 0) (aCons (mC (.int 4)) (aNil)))) (mC (.int 0)))))) (sSet 5 (mBor 3 (mOp addD (mSl slD (mOp idxD (mVar 3) (mC (.int 0))) (oNone) (oSome (mC (.int 7)))) (mOp idxD (mC (.str "0123456789ab")) (mVar 4))))) (sNil)) (sApp 3 (mBor 3 (mOp idxD (mLc [6] (seqI (mOp addAll (mLst (aCons (mVar 5) (aNil))) (mVar 2))) (cNm 6) (mT (mOp notInAD (mVar 6) (mVar 3))) (mVar 6)) (mC (.int 0))))))) (rngD 0 k) [.val (.cel n), .val (.int k), .val (.lst (spL.map .str)), .own (.lst []), .unb, .unb, .unb] s = some (.nx, e', s') ∧
    (∃ fs y4 y5, e' = [.val (.cel n), .val (.int k), .val (.lst (spL.map .str)), .own (.lst (fs.map .str)), y4, y5, .unb] ∧ Nms0 fs k) ∧ KG s' n (B + k * 13) ∧ s'.length = s.length := by
  have key := for_inv (mg := gNm 4) (mb := sSeq (sSet 5 (mCallD u__law_title (aCons (mVar 0) (aNil)))) (sSeq (sIf (tBor 3 (tAndZ (mT (mOp neD (mVar 3) (mLst (aNil)))) (mT (mOp eqD (mCallD u__law_dip (aCons (mVar 0) (aCons (mC (.int 4)) (aNil)))) (mC (.int 0)))))) (sSet 5 (mBor 3 (mOp addD (mSl slD (mOp idxD (mVar 3) (mC (.int 0))) (oNone) (oSome (mC (.int 7)))) (mOp idxD (mC (.str "0123456789ab")) (mVar 4))))) (sNil)) (sApp 3 (mBor 3 (mOp idxD (mLc [6] (seqI (mOp addAll (mLst (aCons (mVar 5) (aNil))) (mVar 2))) (cNm 6) (mT (mOp notInAD (mVar 6) (mVar 3))) (mVar 6)) (mC (.int 0)))))))
    (fun i e s1 => (∃ fs y4 y5, e = [.val (.cel n), .val (.int k), .val (.lst (spL.map .str)), .own (.lst (fs.map .str)), y4, y5, .unb] ∧ Nms0 fs i) ∧ KG s1 n (B + i * 13) ∧ s1.length = s.length) (rngD 0 k) 0 [.val (.cel n), .val (.int k), .val (.lst (spL.map .str)), .own (.lst ([].map D.str)), .unb, .unb, .unb] s
    ⟨⟨[], _, _, rfl, rfl, by simp, by simp, by simp⟩, by simpa using h, rfl⟩
    (fun j e s1 d hd ⟨⟨fs, y4, y5, he, hfs⟩, hkg, hl⟩ => by
      obtain ⟨hj, rfl⟩ := rng_at hd
      simp only [Nat.zero_add] at hkg hfs ⊢
      subst he
      obtain ⟨r2, s2, e2, k2, l2, t, rfl, ht, htn⟩ := title_nn hkg (by omega)
      obtain ⟨s3, y, e3, hy, k3, l3⟩ := bend_ok (i := j) (m := k) (t := t) (y6 := .unb) k2 (by omega) hfs.nm ht htn (by omega)
      obtain ⟨z, e4, hz, hz2⟩ := free_ok (v0 := .val (.cel n)) (v1 := .val (.int k)) (v4 := .val (.int j)) (t := y) (ks_noC k3.all) (show fs.length < 12 by rw [hfs.len]; omega)
      have hzn : Nm z := hz.elim (fun e => e ▸ hy.1) (spL_nm z)
      have hzm : NN z := hz.elim (fun e => e ▸ hy.2) (spL_nn z)
      have q1 : fs.length < sizeLine := by rw [sizeLine_eq, hfs.len]; omega
      refine ⟨[.val (.cel n), .val (.int k), .val (.lst (spL.map .str)), .own (.lst (fs.map .str)), .val (.int j), y5, .unb], s1, [.val (.cel n), .val (.int k), .val (.lst (spL.map .str)), .own (.lst ((fs ++ [z]).map .str)), .val (.int j), .val (.str y), .unb], s3, rfl, ?_, ⟨fs ++ [z], _, _, rfl, nms_add hfs hzn hz2 hzm⟩, k3.le (by omega), by omega⟩
      have e1 : sSet 5 (mCallD u__law_title (aCons (mVar 0) (aNil))) [.val (.cel n), .val (.int k), .val (.lst (spL.map .str)), .own (.lst (fs.map .str)), .val (.int j), y5, .unb] s1 = some (.nx, [.val (.cel n), .val (.int k), .val (.lst (spL.map .str)), .own (.lst (fs.map .str)), .val (.int j), .val (.str t), .unb], s2) := by
        simp [sSet, bndS, mCallD, aCons, aNil, bnd, mVar, e2]
      simp only [sSeq, e1, seqK, e3]
      simp only [sApp, bndS, e4]
      simp [q1])
  obtain ⟨e', s', hf, hi⟩ := key
  have hlen : (rngD 0 k).length = k := by simp [rngD]
  rw [hlen, Nat.zero_add] at hi
  exact ⟨e', s', hf, hi⟩
theorem titles_ok {s : S} {n B k : Nat} (h : KG s n B) (hB : B + 300 < 2 ^ 40) (hk : k ≤ 12) : Dr u__law_titles [.cel n, .int k] s n B 160 fun r => ∃ fs, r = .lst (fs.map .str) ∧ Nms0 fs k := by
  obtain ⟨e', s', hf, ⟨fs, y4, y5, he, hfs⟩, hkg, hl⟩ := titles_loop h hB hk
  refine ⟨.lst (fs.map .str), s', ?_, hkg.le (by omega), hl, fs, rfl, hfs⟩
  have hr : rngI (aCons (mVar 1) aNil) [.val (.cel n), .val (.int k), .val (.lst (spL.map .str)), .own (.lst []), .unb, .unb, .unb] s = some (rngD 0 k, s) := by
    have := rng_ok (m := mVar 1) (e := [.val (.cel n), .val (.int k), .val (.lst (spL.map .str)), .own (.lst []), .unb, .unb, .unb]) (s := s) (s' := s) (q := k) rfl (by omega) (by omega)
    simpa using this
  subst he
  unfold u__law_titles
  refine mkD_ok (e1 := [.val (.cel n), .val (.int k), .val (.lst (spL.map .str)), .val (.lst (fs.map .str)), y4, y5, .unb]) rfl (seq_ok titles_par (seq_ok (for_ok hr hf) ?_))
  rfl
end C
end Z

set_option Elab.async false
set_option linter.all false
set_option maxRecDepth 100000
namespace Z
namespace C
open PySem PySem.Spec PyProof.Rows L2
/-! ### racks, rules, widths -/
theorem strs_of_mem {P : Str → Prop} : ∀ {ys : List D}, (∀ y ∈ ys, ∃ x, y = .str x ∧ P x) → ∃ xs : List Str, ys = xs.map .str ∧ (∀ x ∈ xs, P x) ∧ xs.length = ys.length
  | [], _ => ⟨[], rfl, fun x h => by simp at h, rfl⟩
  | y :: ys, h => by
    obtain ⟨x, rfl, hx⟩ := h y (by simp)
    obtain ⟨xs, e, h1, h2⟩ := strs_of_mem (ys := ys) fun z hz => h z (by simp [hz])
    exact ⟨x :: xs, by simp [e], fun z hz => (List.mem_cons.mp hz).elim (fun q => q ▸ hx) (h1 z), by simp [h2]⟩
theorem yards_ok {s : S} {n B k : Nat} (h : KG s n B) (hB : B + 400 < 2 ^ 40) (hk : k ≤ 12) : Dr u__law_yards [.cel n, .int k] s n B 180 fun r => ∃ fs : List Str, r = .lst (fs.map .str) ∧ fs.length = k ∧ ∀ x ∈ fs, Nm x := by
  obtain ⟨r1, s1, e1, k1, l1, i, rfl, i0, i1⟩ := dip_ok (m := 4) h (by omega) (by omega) (by omega)
  obtain ⟨r2, s2, e2, k2, l2, pool, rfl, hp⟩ := titles_ok (k := (1 + i).toNat) k1 (by omega) (by omega)
  have hi : ((1 + i).toNat : Int) = 1 + i := by omega
  rw [hi] at e2
  obtain ⟨ys, s3, e3, h3, l3, p3⟩ := lc_inv (mc := cNm 3) (me := mCallD u__law_of (aCons (mVar 0) (aCons (mVar 2) (aNil)))) (e := [.val (.cel n), .val (.int k), .val (.lst (pool.map .str)), .unb]) (fun j s => KG s n (B + 161 + j) ∧ s.length = s2.length) (fun _ d => ∃ x, d = .str x ∧ Nm x) (rngD 0 k) 0 s2 ⟨k2, rfl⟩
    (fun j s d hd ⟨hI, hl⟩ => by
      have hj := (rng_at hd).1
      obtain ⟨r, s', e, hk', hl', hm⟩ := of_ok (ds := pool.map .str) hI (by omega) (by simp [hp.len]; omega) (by simp [hp.len]; omega)
      obtain ⟨x, hx, rfl⟩ := List.mem_map.mp hm
      exact ⟨[.val (.cel n), .val (.int k), .val (.lst (pool.map .str)), .val d], .str x, s', rfl, call_ok (args2 rfl rfl) e, ⟨x, rfl, hp.nm x hx⟩, by simpa [Nat.add_assoc] using hk', by omega⟩)
  have hlen : (rngD 0 k).length = k := by simp [rngD]
  rw [hlen] at h3 l3
  obtain ⟨fs, rfl, hf, hfl⟩ := strs_of_mem (ys := ys) (P := Nm) fun y hy => by
    obtain ⟨j, hj⟩ := List.mem_iff_getElem?.mp hy
    exact p3 j y hj
  have q1 : (fs.map D.str).length ≤ sizeLine := by rw [l3, sizeLine_eq]; omega
  refine ⟨.lst (fs.map .str), s3, ?_, h3.1.le (by omega), by omega, fs, rfl, by rw [hfl, l3], hf⟩
  have hr : rngI (aCons (mVar 1) aNil) [.val (.cel n), .val (.int k), .val (.lst (pool.map .str)), .unb] s2 = some (rngD 0 k, s2) := by
    have := rng_ok (m := mVar 1) (e := [.val (.cel n), .val (.int k), .val (.lst (pool.map .str)), .unb]) (s := s2) (s' := s2) (q := k) rfl (by omega) (by omega)
    simpa using this
  have lc : mLc [3] (rngI (aCons (mVar 1) (aNil))) (cNm 3) (yesT) (mCallD u__law_of (aCons (mVar 0) (aCons (mVar 2) (aNil)))) [.val (.cel n), .val (.int k), .val (.lst (pool.map .str)), .unb] s2 = some (.lst (fs.map .str), s3) := mLc_ok hr e3 q1
  unfold u__law_yards
  refine mkD_ok (e1 := [.val (.cel n), .val (.int k), .val (.lst (pool.map .str)), .unb]) rfl (seq_ok (e1 := [.val (.cel n), .val (.int k), .val (.lst (pool.map .str)), .unb]) (set_ok (call_ok (args2 rfl (op_ok rfl (call_ok (args2 rfl rfl) e1) rfl)) e2)) (ret_ok lc))
theorem rule_ok {s : S} {n B : Nat} (h : KG s n B) (hB : B + 400 < 2 ^ 40) : Dr u__law_rule [.cel n] s n B 5 fun r => ∃ (w a b : Int) (x y : Str), r = .lst [.int w, .str x, .int a, .int b, .str y] ∧ 1 ≤ w ∧ w ≤ 5 ∧ 1 ≤ a ∧ a ≤ w ∧ 1 ≤ b ∧ b ≤ w ∧ x ∈ (["hosts", "racks"] : List Str) ∧ y ∈ (["plain", "with"] : List Str) := by
  obtain ⟨r1, s1, e1, k1, l1, i, rfl, i0, i1⟩ := dip_ok (m := 5) h (by omega) (by omega) (by omega)
  obtain ⟨r2, s2, e2, k2, l2, m2⟩ := of_ok (ds := [.str "hosts", .str "racks"]) k1 (by omega) (by simp) (by simp)
  have m2 : r2 ∈ (["hosts", "racks"] : List Str).map D.str := m2
  obtain ⟨x, hx, rfl⟩ := List.mem_map.mp m2
  obtain ⟨r3, s3, e3, k3, l3, a, rfl, a0, a1⟩ := dip_ok (m := 1 + i) k2 (by omega) (by omega) (by omega)
  obtain ⟨r4, s4, e4, k4, l4, b, rfl, b0, b1⟩ := dip_ok (m := 1 + i) k3 (by omega) (by omega) (by omega)
  obtain ⟨r5, s5, e5, k5, l5, m5⟩ := of_ok (ds := [.str "plain", .str "with"]) k4 (by omega) (by simp) (by simp)
  have m5 : r5 ∈ (["plain", "with"] : List Str).map D.str := m5
  obtain ⟨y, hy, rfl⟩ := List.mem_map.mp m5
  refine ⟨.lst [.int (1 + i), .str x, .int (1 + a), .int (1 + b), .str y], s5, ?_, k5, by omega, 1 + i, 1 + a, 1 + b, x, y, rfl, by omega, by omega, by omega, by omega, by omega, by omega, hx, hy⟩
  unfold u__law_rule
  refine mkD_ok (e1 := [.val (.cel n), .val (.int (1 + i)), .val (.lst [.int (1 + i), .str x])]) rfl (seq_ok (e1 := [.val (.cel n), .val (.int (1 + i)), .unb]) (set_ok (op_ok rfl (call_ok (args2 rfl rfl) e1) rfl))
    (seq_ok (e1 := [.val (.cel n), .val (.int (1 + i)), .val (.lst [.int (1 + i), .str x])]) (set_ok (lst_ok (a_cons0 rfl (a_cons0 (call_ok (args2 rfl (lst_ok (a_cons0 rfl (a_cons0 rfl a_nil0)) (by simp))) e2) a_nil0)) (by simp)))
      (ret_ok (op_ok rfl (lst_ok (a_cons0 (op_ok rfl (call_ok (args2 rfl rfl) e3) rfl) (a_cons0 (op_ok rfl (call_ok (args2 rfl rfl) e4) rfl) (a_cons0 (call_ok (args2 rfl (lst_ok (a_cons0 rfl (a_cons0 rfl a_nil0)) (by simp))) e5) a_nil0))) (by simp)) (cat_lst (by simp))))))
theorem p18 : powD (.int 10) (.int 18) = some (.int 1000000000000000000) := by simp [powD]
theorem p5 : powD (.int 10) (.int 5) = some (.int 100000) := by simp [powD]
theorem lt_int0 (i j : Int) : ltD (.int i) (.int j) = some (.bl (decide (i < j))) := rfl
theorem eq_int0 (i j : Int) : eqD (.int i) (.int j) = some (.bl (decide (i = j))) := by simp [eqD, eqB, toV0, scal]
theorem width_ok {s : S} {n B : Nat} (h : KG s n B) (hB : B + 400 < 2 ^ 40) : Dr u__law_width [.cel n] s n B 5 fun r => ∃ w : Int, r = .int w ∧ 1 ≤ w ∧ w ≤ 1000000000000000000 := by
  obtain ⟨r1, s1, e1, k1, l1, i, rfl, i0, i1⟩ := dip_ok (m := 6) h (by omega) (by omega) (by omega)
  have f1 : sSet 1 (mCallD u__law_dip (aCons (mVar 0) (aCons (mC (.int 6)) (aNil)))) [.val (.cel n), .unb] s = some (.nx, [.val (.cel n), .val (.int i)], s1) := set_ok (call_ok (args2 rfl rfl) e1)
  have t1 : mT (mOp ltD (mVar 1) (mC (.int 2))) [.val (.cel n), .val (.int i)] s1 = some (decide (i < 2), s1) := t_ok (op_ok rfl rfl (lt_int0 _ _)) rfl
  have t2 : mT (mOp ltD (mVar 1) (mC (.int 4))) [.val (.cel n), .val (.int i)] s1 = some (decide (i < 4), s1) := t_ok (op_ok rfl rfl (lt_int0 _ _)) rfl
  have t3 : mT (mOp eqD (mVar 1) (mC (.int 4))) [.val (.cel n), .val (.int i)] s1 = some (decide (i = 4), s1) := t_ok (op_ok rfl rfl (eq_int0 _ _)) rfl
  unfold Dr u__law_width
  by_cases c2 : i < 2
  · rw [decide_eq_true c2] at t1
    obtain ⟨r2, s2, e2, k2, l2, a, rfl, a0, a1⟩ := dip_ok (m := 30) k1 (by omega) (by omega) (by omega)
    exact ⟨.int (1 + a), s2, mkD_ok (e1 := [.val (.cel n), .val (.int i)]) rfl (seq_ok f1 (seq_ret (if_t t1 (ret_ok (op_ok rfl (call_ok (args2 rfl rfl) e2) rfl))) (by simp))), k2.le (by omega), by omega, _, rfl, by omega, by omega⟩
  · rw [decide_eq_false c2] at t1
    by_cases c4 : i < 4
    · rw [decide_eq_true c4] at t2
      obtain ⟨w, hw, w0, w1⟩ : ∃ w : Int, idxD (.lst [.int 1000000000000000000, .int 999999999999999999]) (.int (i - 2)) = some (.int w) ∧ 1 ≤ w ∧ w ≤ 1000000000000000000 := by
        have : i = 2 ∨ i = 3 := by omega
        rcases this with rfl | rfl
        · exact ⟨1000000000000000000, by simp [idxD, atI, ixN], by omega, by omega⟩
        · exact ⟨999999999999999999, by simp [idxD, atI, ixN], by omega, by omega⟩
      exact ⟨.int w, s1, mkD_ok (e1 := [.val (.cel n), .val (.int i)]) rfl (seq_ok f1 (seq_ok (if_f t1 rfl) (seq_ret (if_t t2 (ret_ok (op_ok (lst_ok (a_cons0 (op_ok rfl rfl p18) (a_cons0 (op_ok (op_ok rfl rfl p18) rfl rfl) a_nil0)) (by simp)) (op_ok rfl rfl rfl) hw))) (by simp)))), k1.le (by omega), l1, w, rfl, w0, w1⟩
    · rw [decide_eq_false c4] at t2
      by_cases c5 : i = 4
      · rw [decide_eq_true c5] at t3
        obtain ⟨r2, s2, e2, k2, l2, a, rfl, a0, a1⟩ := dip_ok (m := 100000) k1 (by omega) (by omega) (by omega)
        have hm : mIf (mT (mOp eqD (mVar 1) (mC (.int 4)))) (mOp addD (mC (.int 1)) (mCallD u__law_dip (aCons (mVar 0) (aCons (mOp powD (mC (.int 10)) (mC (.int 5))) (aNil))))) (mOp addD (mC (.int 1)) (mCallD u__law_vast (aCons (mVar 0) (aCons (mOp powD (mC (.int 10)) (mC (.int 18))) (aNil))))) [.val (.cel n), .val (.int i)] s1 = some (.int (1 + a), s2) := by
          unfold mIf bnd
          rw [t3]
          exact op_ok rfl (call_ok (args2 rfl (op_ok rfl rfl p5)) e2) rfl
        exact ⟨.int (1 + a), s2, mkD_ok (e1 := [.val (.cel n), .val (.int i)]) rfl (seq_ok f1 (seq_ok (if_f t1 rfl) (seq_ok (if_f t2 rfl) (ret_ok hm)))), k2.le (by omega), by omega, _, rfl, by omega, by omega⟩
      · rw [decide_eq_false c5] at t3
        obtain ⟨r2, s2, e2, k2, l2, a, rfl, a0, a1⟩ := vast_ok (m := 1000000000000000000) k1 (by omega) (by omega)
        have hm : mIf (mT (mOp eqD (mVar 1) (mC (.int 4)))) (mOp addD (mC (.int 1)) (mCallD u__law_dip (aCons (mVar 0) (aCons (mOp powD (mC (.int 10)) (mC (.int 5))) (aNil))))) (mOp addD (mC (.int 1)) (mCallD u__law_vast (aCons (mVar 0) (aCons (mOp powD (mC (.int 10)) (mC (.int 18))) (aNil))))) [.val (.cel n), .val (.int i)] s1 = some (.int (1 + a), s2) := by
          unfold mIf bnd
          rw [t3]
          exact op_ok rfl (call_ok (args2 rfl (op_ok rfl rfl p18)) e2) rfl
        exact ⟨.int (1 + a), s2, mkD_ok (e1 := [.val (.cel n), .val (.int i)]) rfl (seq_ok f1 (seq_ok (if_f t1 rfl) (seq_ok (if_f t2 rfl) (ret_ok hm)))), k2.le (by omega), by omega, _, rfl, by omega, by omega⟩
end C
end Z

set_option Elab.async false
set_option linter.all false
set_option maxRecDepth 100000
namespace Z
namespace C
open PySem PySem.Spec PyProof.Rows L2
/-! ### free points -/
theorem steps_free {z w : Int} {tk : List Int} (hz : (tk.length : Int) < z) : ∃ j : Nat, j < tk.length + 1 ∧ (w + j) % z ∉ tk := by
  refine Classical.byContradiction fun hn => ?_
  have all : ∀ j : Nat, j < tk.length + 1 → (w + j) % z ∈ tk := fun j hj => Classical.byContradiction fun q => hn ⟨j, hj, q⟩
  have nd : ((List.range (tk.length + 1)).map fun j : Nat => (w + j) % z).Nodup := by
    rw [List.nodup_iff_pairwise_ne, List.pairwise_map]
    refine List.Pairwise.imp_of_mem ?_ (List.nodup_iff_pairwise_ne.mp (List.nodup_range (n := tk.length + 1)))
    intro a b ha hb hne e
    have ha := List.mem_range.mp ha
    have hb := List.mem_range.mp hb
    have := Int.emod_emod_of_dvd (w + a) (Int.dvd_refl z)
    have h1 : (w + a - (w + b)) % z = 0 := Int.emod_eq_emod_iff_emod_sub_eq_zero.mp e
    have h2 : z ∣ (w + a - (w + b)) := Int.dvd_of_emod_eq_zero h1
    obtain ⟨c, hc⟩ := h2
    have h3 : (a : Int) - b = z * c := by omega
    have zp : 0 < z := by omega
    rcases Int.lt_trichotomy c 0 with hc0 | hc0 | hc0
    · have : z * c ≤ z * (-1) := Int.mul_le_mul_of_nonneg_left (by omega) (by omega)
      omega
    · subst hc0; omega
    · have : z * 1 ≤ z * c := Int.mul_le_mul_of_nonneg_left (by omega) (by omega)
      omega
  have sub : ∀ x ∈ (List.range (tk.length + 1)).map (fun j : Nat => (w + j) % z), x ∈ tk := fun x hx => by
    obtain ⟨j, hj, rfl⟩ := List.mem_map.mp hx
    exact all j (List.mem_range.mp hj)
  have := nd.length_le_of_subset sub
  simp at this
  omega
theorem bfree_ok {s : S} {z w : Int} {tk : List Int} (hz : (tk.length : Int) < z) (hl : tk.length ≤ 1000) : ∃ p : Int, u__law_free [.int z, .lst (tk.map .int), .int w] s = some (.int p, s) ∧ 0 ≤ p ∧ p < z ∧ p ∉ tk := by
  have zp : 0 < z := by omega
  obtain ⟨j, hj, hf⟩ := steps_free (w := w) hz
  have q0 : ∀ (y : Sl) (i : Int), mOp modD (mCall intD (aCons (mOp addD (mVar 2) (mVar 3)) (aNil))) (mVar 0) [.val (.int z), .val (.lst (tk.map .int)), .val (.int w), .val (.int i)] s = some (.int ((w + i) % z), s) := fun y i =>
    op_ok (blt_ok (args1 (op_ok rfl rfl rfl)) rfl) rfl (by simp [modD, zp])
  have q1 : ∀ i : Int, mT (mOp notInAD (mOp modD (mCall intD (aCons (mOp addD (mVar 2) (mVar 3)) (aNil))) (mVar 0)) (mVar 1)) [.val (.int z), .val (.lst (tk.map .int)), .val (.int w), .val (.int i)] s = some (!decide ((w + i) % z ∈ tk), s) := fun i =>
    t_ok (op_ok (q0 .unb i) rfl (show notInAD (.int ((w + i) % z)) (.lst (tk.map .int)) = some (.bl (!decide ((w + i) % z ∈ tk))) by unfold notInAD; rw [inA_int]; rfl)) rfl
  obtain ⟨d, e', hd, hp, hF⟩ := for_find (mg := gNm 3) (mb := sIf (mT (mOp notInAD (mOp modD (mCall intD (aCons (mOp addD (mVar 2) (mVar 3)) (aNil))) (mVar 0)) (mVar 1))) (sRet (mOp modD (mCall intD (aCons (mOp addD (mVar 2) (mVar 3)) (aNil))) (mVar 0))) (sNil)) (s := s)
    (fun e => ∃ y, e = [.val (.int z), .val (.lst (tk.map .int)), .val (.int w), y]) (fun d => match d with | .int i => !decide ((w + i) % z ∈ tk) | _ => false) (fun d => match d with | .int i => .int ((w + i) % z) | _ => .non) (rngD 0 (tk.length + 1)) [.val (.int z), .val (.lst (tk.map .int)), .val (.int w), .unb] ⟨_, rfl⟩
    (fun d hd e ⟨y, he⟩ => by
      obtain ⟨t, ht⟩ := List.mem_iff_getElem?.mp hd
      obtain ⟨_, rfl⟩ := rng_at ht
      subst he
      refine ⟨[.val (.int z), .val (.lst (tk.map .int)), .val (.int w), .val (.int t)], rfl, ?_⟩
      by_cases c : (w + t) % z ∈ tk
      · have q := q1 t
        rw [decide_eq_true c] at q
        exact .inl ⟨by simp [c], _, if_f q rfl, _, rfl⟩
      · have q := q1 t
        rw [decide_eq_false c] at q
        exact .inr ⟨by simp [c], _, if_t q (ret_ok (q0 .unb t))⟩)
    ⟨.int j, by
      rw [List.mem_iff_getElem?]
      exact ⟨j, by simp [rngD, hj]⟩, by simp [hf]⟩
  obtain ⟨t, ht⟩ := List.mem_iff_getElem?.mp hd
  obtain ⟨_, rfl⟩ := rng_at ht
  have hp : (!decide ((w + (t : Int)) % z ∈ tk)) = true := hp
  refine ⟨(w + t) % z, ?_, Int.emod_nonneg _ (by omega), Int.emod_lt_of_pos _ zp, by simpa using hp⟩
  have hr : rngI (aCons (mOp addD (mCall lenD (aCons (mVar 1) (aNil))) (mC (.int 1))) (aNil)) [.val (.int z), .val (.lst (tk.map .int)), .val (.int w), .unb] s = some (rngD 0 (tk.length + 1), s) := by
    have h1 : lenD [.lst (tk.map D.int)] = some (.int tk.length) := by simp [lenD]
    have := rng_ok (m := mOp addD (mCall lenD (aCons (mVar 1) (aNil))) (mC (.int 1))) (e := [.val (.int z), .val (.lst (tk.map .int)), .val (.int w), .unb]) (s := s) (s' := s) (q := tk.length + 1) (op_ok (blt_ok (args1 rfl) h1) rfl rfl) (by omega) (by omega)
    rw [show ((tk.length : Int) + 1).toNat = tk.length + 1 by omega] at this
    exact this
  unfold u__law_free
  exact mkD_ok rfl (seq_ret (for_ok hr hF) (by simp))
theorem place_ok {s : S} {n B : Nat} {z : Int} {tk : List Int} (h : KG s n B) (hB : B + 400 < 2 ^ 40) (hz : 1 ≤ z) (hl : tk.length ≤ 1000) : Dr u__law_place [.cel n, .int z, .lst (tk.map .int)] s n B 6 fun r => ∃ w : Int, r = .int w := by
  obtain ⟨r1, s1, e1, k1, l1, i, rfl, i0, i1⟩ := dip_ok (m := 8) h (by omega) (by omega) (by omega)
  have f1 : sSet 3 (mCallD u__law_dip (aCons (mVar 0) (aCons (mC (.int 8)) (aNil)))) [.val (.cel n), .val (.int z), .val (.lst (tk.map .int)), .unb] s = some (.nx, [.val (.cel n), .val (.int z), .val (.lst (tk.map .int)), .val (.int i)], s1) := set_ok (call_ok (args2 rfl rfl) e1)
  have t1 : mT (mOp eqD (mVar 3) (mC (.int 0))) [.val (.cel n), .val (.int z), .val (.lst (tk.map .int)), .val (.int i)] s1 = some (decide (i = 0), s1) := t_ok (op_ok rfl rfl (eq_int0 _ _)) rfl
  have t2 : mT (mOp ltD (mVar 3) (mC (.int 4))) [.val (.cel n), .val (.int z), .val (.lst (tk.map .int)), .val (.int i)] s1 = some (decide (i < 4), s1) := t_ok (op_ok rfl rfl (lt_int0 _ _)) rfl
  have t3 : mT (mOp neD (mVar 2) (mLst (aNil))) [.val (.cel n), .val (.int z), .val (.lst (tk.map .int)), .val (.int i)] s1 = some (!tk.isEmpty, s1) := t_ok (op_ok rfl (lst_ok a_nil0 (by simp)) (ne_nil_ints tk)) rfl
  have t4 : mT (mOp ltD (mVar 1) (mC (.int 1000))) [.val (.cel n), .val (.int z), .val (.lst (tk.map .int)), .val (.int i)] s1 = some (decide (z < 1000), s1) := t_ok (op_ok rfl rfl (lt_int0 _ _)) rfl
  unfold Dr u__law_place
  by_cases c0 : i = 0
  · rw [decide_eq_true c0] at t1
    obtain ⟨r2, s2, e2, k2, l2, a, rfl, a0, a1⟩ := dip_ok (m := 2) k1 (by omega) (by omega) (by omega)
    obtain ⟨w, hw⟩ : ∃ w : Int, idxD (.lst [.int 0, .int (z - 1)]) (.int a) = some (.int w) := by
      have : a = 0 ∨ a = 1 := by omega
      rcases this with rfl | rfl
      · exact ⟨0, by simp [idxD, atI, ixN]⟩
      · exact ⟨z - 1, by simp [idxD, atI, ixN]⟩
    exact ⟨.int w, s2, mkD_ok (e1 := [.val (.cel n), .val (.int z), .val (.lst (tk.map .int)), .val (.int i)]) rfl (seq_ok f1 (seq_ret (if_t t1 (ret_ok (op_ok (lst_ok (a_cons0 rfl (a_cons0 (op_ok rfl rfl rfl) a_nil0)) (by simp)) (call_ok (args2 rfl rfl) e2) hw))) (by simp))), k2.le (by omega), by omega, w, rfl⟩
  · rw [decide_eq_false c0] at t1
    have last : ∃ r s2, mIf (mT (mOp ltD (mVar 1) (mC (.int 1000)))) (mCallD u__law_dip (aCons (mVar 0) (aCons (mVar 1) (aNil)))) (mCallD u__law_vast (aCons (mVar 0) (aCons (mVar 1) (aNil)))) [.val (.cel n), .val (.int z), .val (.lst (tk.map .int)), .val (.int i)] s1 = some (.int r, s2) ∧ KG s2 n (B + 5) ∧ s2.length = s.length := by
      by_cases c : z < 1000
      · rw [decide_eq_true c] at t4
        obtain ⟨r2, s2, e2, k2, l2, a, rfl, a0, a1⟩ := dip_ok (m := z) k1 (by omega) (by omega) (by omega)
        exact ⟨a, s2, by unfold mIf bnd; rw [t4]; exact call_ok (args2 rfl rfl) e2, k2.le (by omega), by omega⟩
      · rw [decide_eq_false c] at t4
        obtain ⟨r2, s2, e2, k2, l2, a, rfl, a0, a1⟩ := vast_ok (m := z) k1 (by omega) (by omega)
        exact ⟨a, s2, by unfold mIf bnd; rw [t4]; exact call_ok (args2 rfl rfl) e2, k2.le (by omega), by omega⟩
    obtain ⟨w, s2, hw, k2, l2⟩ := last
    have ht : tAndZ (mT (mOp ltD (mVar 3) (mC (.int 4)))) (mT (mOp neD (mVar 2) (mLst (aNil)))) [.val (.cel n), .val (.int z), .val (.lst (tk.map .int)), .val (.int i)] s1 = some (decide (i < 4) && !tk.isEmpty, s1) := by
      unfold tAndZ bnd
      rw [t2]
      cases decide (i < 4) with
      | false => rfl
      | true => exact t3
    cases hb : (decide (i < 4) && !tk.isEmpty) with
    | false =>
      rw [hb] at ht
      exact ⟨.int w, s2, mkD_ok (e1 := [.val (.cel n), .val (.int z), .val (.lst (tk.map .int)), .val (.int i)]) rfl (seq_ok f1 (seq_ok (if_f t1 rfl) (seq_ok (if_f ht rfl) (ret_ok hw)))), k2.le (by omega), by omega, w, rfl⟩
    | true =>
      rw [hb] at ht
      have hne : tk ≠ [] := fun e => by subst e; simp at hb
      have hpos : 0 < tk.length := List.length_pos_iff.mpr hne
      obtain ⟨r3, s3, e3, k3, l3, m3⟩ := of_ok (ds := tk.map .int) k1 (by omega) (by simpa using hpos) (by simp; omega)
      obtain ⟨q, _, rfl⟩ := List.mem_map.mp m3
      obtain ⟨r4, s4, e4, k4, l4, a, rfl, a0, a1⟩ := dip_ok (m := 5) k3 (by omega) (by omega) (by omega)
      exact ⟨.int ((q + a - 2) % z), s4, mkD_ok (e1 := [.val (.cel n), .val (.int z), .val (.lst (tk.map .int)), .val (.int i)]) rfl (seq_ok f1 (seq_ok (if_f t1 rfl) (seq_ret (if_t ht (ret_ok (op_ok (blt_ok (args1 (op_ok (op_ok (call_ok (args2 rfl rfl) e3) (call_ok (args2 rfl rfl) e4) rfl) rfl rfl)) rfl) rfl (show modD (.int (q + a - 2)) (.int z) = some (.int ((q + a - 2) % z)) by simp [modD]; omega)))) (by simp)))), k4.le (by omega), by omega, _, rfl⟩
end C
end Z

set_option Elab.async false
set_option linter.all false
set_option maxRecDepth 100000
namespace Z
open PySem PySem.Spec PyProof.Rows L2
theorem ints_perm {l : List D} {sp : List Int} (h : l.Perm (sp.map .int)) : ∃ ms : List Int, l = ms.map .int ∧ ms.Perm sp := by
  have all : ∀ d ∈ l, ∃ i, d = D.int i := fun d hd => by
    obtain ⟨i, _, e⟩ := List.mem_map.mp (h.mem_iff.mp hd)
    exact ⟨i, e.symm⟩
  have ex : ∃ ms : List Int, l = ms.map .int := by
    clear h
    induction l with
    | nil => exact ⟨[], rfl⟩
    | cons d r ih =>
      obtain ⟨i, rfl⟩ := all d (by simp)
      obtain ⟨ms, e⟩ := ih fun d hd => all d (by simp [hd])
      exact ⟨i :: ms, by simp [e]⟩
  obtain ⟨ms, rfl⟩ := ex
  refine ⟨ms, rfl, ?_⟩
  have g : ∀ l : List Int, (l.map D.int).map (fun d => match d with | .int i => i | _ => 0) = l := fun l => by
    rw [List.map_map]
    exact List.map_id' l
  have := h.map (fun d => match d with | .int i => i | _ => 0)
  rw [g, g] at this
  exact this
/-- sorted(..) of different ints -/
theorem sort_ints {sp : List Int} (nd : sp.Nodup) : ∃ ms : List Int, sortedD [.lst (sp.map .int)] = some (.lst (ms.map .int)) ∧ ms.Perm sp ∧ ms.Pairwise (· < ·) := by
  obtain ⟨ms, e, hp⟩ := ints_perm (sortL_perm (sp.map .int))
  have hs := sortL_srtd (sp.map .int)
  rw [e] at hs
  refine ⟨ms, ?_, hp, ?_⟩
  · have k : sameK (sp.map D.int) = true := by
      cases sp with
      | nil => rfl
      | cons a r => simp [sameK]
    simp [sortedD, k, e]
  · have hn : ms.Pairwise (· ≠ ·) := (hp.nodup_iff.mpr nd)
    have hs : ms.Pairwise fun x y => ltS (.int y) (.int x) = false := List.pairwise_map.mp hs
    refine (hs.and hn).imp fun {x y} ⟨h1, h2⟩ => ?_
    rw [lt_int] at h1
    simp at h1
    omega
end Z

set_option Elab.async false
set_option linter.all false
set_option maxRecDepth 100000
namespace Z
namespace C
open PySem PySem.Spec PyProof.Rows L2
/-! ### a crew of hosts -/
structure Host where
  nm : Str
  rk : Str
  ms : List Int
def Host.D (h : Host) : D := .tup [.str h.nm, .str h.rk, .tup (h.ms.map .int)]
def crewD (hs : List Host) : D := .tup (hs.map Host.D)
/-- marks of hosts on z points, no two alike, ascending, at most k each -/
structure HsOk (z : Int) (k : Nat) (hs : List Host) : Prop where
  nd : (hs.map (·.nm)).Nodup
  nm : ∀ h ∈ hs, Nm h.nm ∧ Nm h.rk
  ne : ∀ h ∈ hs, h.ms ≠ [] ∧ h.ms.length ≤ k
  up : ∀ h ∈ hs, h.ms.Pairwise (· < ·)
  inz : ∀ h ∈ hs, ∀ m ∈ h.ms, 0 ≤ m ∧ m < z
  apart : (hs.flatMap (·.ms)).Nodup
/-- the spots of one host -/
theorem spots_loop {s : S} {n B i : Nat} {z most each many : Int} {tk : List Int} {v6 v7 v8 v9 v11 x12 x13 : Sl} {c : Nat} (h : KG s n B) (hB : B + 5000 < 2 ^ 40) (hz : 1 ≤ z) (nd : tk.Nodup) (hin : ∀ m ∈ tk, 0 ≤ m ∧ m < z) (hc : (tk.length : Int) + c ≤ z) (hc2 : c ≤ 100) (ht : tk.length ≤ 500) :
    ∃ e' s', forL (gNm 12) (sSeq (sSet 13 (mBor 5 (mCallD u__law_free (aCons (mVar 1) (aCons (mVar 5) (aCons (mCallD u__law_place (aCons (mVar 0) (aCons (mVar 1) (aCons (mVar 5) (aNil))))) (aNil))))))) (sSeq (sApp 10 (mVar 13)) (sApp 5 (mVar 13)))) (rngD 0 c)
      [.val (.cel n), .val (.int z), .val (.int most), .val (.int each), .val (.int many), .own (.lst (tk.map .int)), v6, v7, v8, v9, .own (.lst []), v11, x12, x13] s = some (.nx, e', s') ∧
      (∃ sp y12 y13, e' = [.val (.cel n), .val (.int z), .val (.int most), .val (.int each), .val (.int many), .own (.lst ((tk ++ sp).map .int)), v6, v7, v8, v9, .own (.lst (sp.map .int)), v11, y12, y13] ∧ sp.length = c ∧ (tk ++ sp).Nodup ∧ ∀ m ∈ sp, 0 ≤ m ∧ m < z) ∧ KG s' n (B + c * 6) ∧ s'.length = s.length := by
  have key := for_inv (mg := gNm 12) (mb := sSeq (sSet 13 (mBor 5 (mCallD u__law_free (aCons (mVar 1) (aCons (mVar 5) (aCons (mCallD u__law_place (aCons (mVar 0) (aCons (mVar 1) (aCons (mVar 5) (aNil))))) (aNil))))))) (sSeq (sApp 10 (mVar 13)) (sApp 5 (mVar 13))))
    (fun j e s1 => (∃ sp y12 y13, e = [.val (.cel n), .val (.int z), .val (.int most), .val (.int each), .val (.int many), .own (.lst ((tk ++ sp).map .int)), v6, v7, v8, v9, .own (.lst (sp.map .int)), v11, y12, y13] ∧ sp.length = j ∧ (tk ++ sp).Nodup ∧ ∀ m ∈ sp, 0 ≤ m ∧ m < z) ∧ KG s1 n (B + j * 6) ∧ s1.length = s.length) (rngD 0 c) 0
    [.val (.cel n), .val (.int z), .val (.int most), .val (.int each), .val (.int many), .own (.lst (tk.map .int)), v6, v7, v8, v9, .own (.lst []), v11, x12, x13] s ⟨⟨[], x12, x13, by simp, rfl, by simpa using nd, by simp⟩, by simpa using h, rfl⟩
    (fun j e s1 d hd ⟨⟨sp, y12, y13, he, hsl, hnd, hsp⟩, hk, hl⟩ => by
      obtain ⟨hj, rfl⟩ := rng_at hd
      simp only [Nat.zero_add] at hk hsl ⊢
      subst he
      have len : (tk ++ sp).length = tk.length + j := by simp [hsl]
      obtain ⟨r, s2, e2, k2, l2, w, rfl⟩ := place_ok (z := z) (tk := tk ++ sp) hk (by omega) hz (by omega)
      obtain ⟨p, e3, p0, p1, p2⟩ := bfree_ok (s := s2) (z := z) (w := w) (tk := tk ++ sp) (by omega) (by omega)
      have hs := ks_noC k2.all
      have q1 : sp.length < sizeLine := by rw [sizeLine_eq]; omega
      have q2 : (tk ++ sp).length < sizeLine := by rw [sizeLine_eq]; omega
      refine ⟨_, s1, [.val (.cel n), .val (.int z), .val (.int most), .val (.int each), .val (.int many), .own (.lst ((tk ++ (sp ++ [p])).map .int)), v6, v7, v8, v9, .own (.lst ((sp ++ [p]).map .int)), v11, .val (.int j), .val (.int p)], s2, rfl, ?_, ⟨sp ++ [p], _, _, rfl, by simp [hsl], ?_, ?_⟩, k2.le (by omega), by omega⟩
      · refine seq_ok (e1 := [.val (.cel n), .val (.int z), .val (.int most), .val (.int each), .val (.int many), .own (.lst ((tk ++ sp).map .int)), v6, v7, v8, v9, .own (.lst (sp.map .int)), v11, .val (.int j), .val (.int p)]) (s1 := s2) (set_ok ?_) ?_
        · exact bor_ok (e1 := [.val (.cel n), .val (.int z), .val (.int most), .val (.int each), .val (.int many), .val (.lst ((tk ++ sp).map .int)), v6, v7, v8, v9, .own (.lst (sp.map .int)), v11, .val (.int j), y13]) rfl (call_ok (args3 rfl rfl (call_ok (args3 rfl rfl rfl) e2)) e3) rfl hs
        · have a1 := app_ok0 (m := mVar 13) (i := 10) (e := [.val (.cel n), .val (.int z), .val (.int most), .val (.int each), .val (.int many), .own (.lst ((tk ++ sp).map .int)), v6, v7, v8, v9, .own (.lst (sp.map .int)), v11, .val (.int j), .val (.int p)]) (s := s2) (s' := s2) (d := .int p) (ds := sp.map .int) rfl rfl (by simpa using q1)
          have a2 := app_ok0 (m := mVar 13) (i := 5) (e := [.val (.cel n), .val (.int z), .val (.int most), .val (.int each), .val (.int many), .own (.lst ((tk ++ sp).map .int)), v6, v7, v8, v9, .own (.lst (sp.map .int ++ [.int p])), v11, .val (.int j), .val (.int p)]) (s := s2) (s' := s2) (d := .int p) (ds := (tk ++ sp).map .int) rfl rfl (by simpa using q2)
          have m1 : (sp ++ [p]).map D.int = sp.map .int ++ [.int p] := by simp
          have m2 : (tk ++ (sp ++ [p])).map D.int = (tk ++ sp).map .int ++ [.int p] := by simp
          rw [m1, m2]
          exact seq_ok a1 a2
      · rw [← List.append_assoc]
        exact List.nodup_append.mpr ⟨hnd, by simp, fun a ha b hb e => p2 (by rw [List.mem_singleton.mp hb] at e; exact e ▸ ha)⟩
      · intro m hm
        rcases List.mem_append.mp hm with q | q
        · exact hsp m q
        · rw [List.mem_singleton.mp q]; exact ⟨p0, p1⟩)
  obtain ⟨e', s', hf, hi⟩ := key
  have hlen : (rngD 0 c).length = c := by simp [rngD]
  rw [hlen, Nat.zero_add] at hi
  exact ⟨e', s', hf, hi⟩
theorem hsok_nil (z : Int) (k : Nat) : HsOk z k [] := ⟨by simp, by simp, by simp, by simp, by simp, by simp⟩
theorem hsok_add {z : Int} {k : Nat} {hs : List Host} {h : Host} (H : HsOk z k hs) (h1 : h.nm ∉ hs.map (·.nm)) (h2 : Nm h.nm ∧ Nm h.rk) (h3 : h.ms ≠ [] ∧ h.ms.length ≤ k) (h4 : h.ms.Pairwise (· < ·)) (h5 : ∀ m ∈ h.ms, 0 ≤ m ∧ m < z) (h6 : (hs.flatMap (·.ms) ++ h.ms).Nodup) : HsOk z k (hs ++ [h]) where
  nd := by
    rw [List.map_append]
    exact List.nodup_append.mpr ⟨H.nd, by simp, fun a ha b hb e => h1 (by simp at hb; rw [← hb, ← e]; exact ha)⟩
  nm := fun x hx => (List.mem_append.mp hx).elim (H.nm x) fun q => by rw [List.mem_singleton.mp q]; exact h2
  ne := fun x hx => (List.mem_append.mp hx).elim (H.ne x) fun q => by rw [List.mem_singleton.mp q]; exact h3
  up := fun x hx => (List.mem_append.mp hx).elim (H.up x) fun q => by rw [List.mem_singleton.mp q]; exact h4
  inz := fun x hx => (List.mem_append.mp hx).elim (H.inz x) fun q => by rw [List.mem_singleton.mp q]; exact h5
  apart := by
    rw [List.flatMap_append]
    simpa using h6
end C
end Z

set_option Elab.async false
set_option linter.all false
set_option maxRecDepth 100000
namespace Z
namespace C
open PySem PySem.Spec PyProof.Rows L2
theorem frz_ok {m : MS} {i : Nat} {e e1 : EnvD} {s : S} {r : Option (Fl × EnvD × S)} (hf : frzE i e = e1) (h : m e1 s = r) : sFrz i m e s = r := by unfold sFrz; rw [hf]; exact h
theorem idx_strs {xs : List Str} {i : Nat} {x : Str} (h : xs[i]? = some x) : idxD (.lst (xs.map .str)) (.int i) = some (.str x) := by
  have hi := (List.getElem?_eq_some_iff.mp h).1
  have h2 : xs[i] = x := by rw [List.getElem?_eq_getElem hi] at h; exact Option.some.inj h
  simp [idxD, atI, ixN, hi, h2]
/-- what a turn of the crew's loop keeps -/
structure CrewI (z : Int) (E K i : Nat) (tags bays : List Str) (hs : List Host) (tk : List Int) : Prop where
  ok : HsOk z E hs
  names : hs.map (·.nm) = tags.take i
  perm : tk.Perm (hs.flatMap (·.ms))
  room : (tk.length : Int) + (K - i) ≤ z
  small : tk.length ≤ 16 * i
abbrev bandTurn : MS := sSeq (sPar [10, 11] (xOwn (mLst (aNil)) (xVal (mBor 5 (mOp subD (mOp subD (mVar 1) (mCall lenD (aCons (mVar 5) (aNil)))) (mOp subD (mOp subD (mVar 4) (mC (.int 1))) (mVar 9)))) (xNil)))) (sSeq (sFor (rngI (aCons (mCall min2D (aCons (mOp addD (mC (.int 1)) (mCallD u__law_dip (aCons (mVar 0) (aCons (mVar 3) (aNil))))) (aCons (mVar 11) (aNil)))) (aNil))) (gNm 12) (sSeq (sSet 13 (mBor 5 (mCallD u__law_free (aCons (mVar 1) (aCons (mVar 5) (aCons (mCallD u__law_place (aCons (mVar 0) (aCons (mVar 1) (aCons (mVar 5) (aNil))))) (aNil))))))) (sSeq (sApp 10 (mVar 13)) (sApp 5 (mVar 13))))) (sFrz 10 (sApp 6 (mTup (aCons (mOp idxD (mVar 7) (mVar 9)) (aCons (mOp idxD (mVar 8) (mVar 9)) (aCons (mCall tupleD (aCons (mCallD (fun ds s => lft (sortedD ds) s) (aCons (mVar 10) (aNil))) (aNil))) (aNil))))))))
theorem band_turn {s : S} {n B i K E : Nat} {z most : Int} {tags bays : List Str} {hs : List Host} {tk : List Int} {y10 y11 y12 y13 : Sl} (h : KG s n B) (hB : B + 6000 < 2 ^ 40) (hz : 1 ≤ z) (hi : i < K) (hK : K ≤ 12) (hE : 1 ≤ E) (hE2 : E ≤ 16) (ht : Nms0 tags K) (hb : bays.length = K) (hb2 : ∀ x ∈ bays, Nm x) (I : CrewI z E K i tags bays hs tk) :
    ∃ s' hs' tk' x12 x13 x10 x11, bandTurn [.val (.cel n), .val (.int z), .val (.int most), .val (.int E), .val (.int K), .own (.lst (tk.map .int)), .own (.lst (hs.map Host.D)), .val (.lst (tags.map .str)), .val (.lst (bays.map .str)), .val (.int i), y10, y11, y12, y13] s =
      some (.nx, [.val (.cel n), .val (.int z), .val (.int most), .val (.int E), .val (.int K), .own (.lst (tk'.map .int)), .own (.lst (hs'.map Host.D)), .val (.lst (tags.map .str)), .val (.lst (bays.map .str)), .val (.int i), x10, x11, x12, x13], s') ∧
      CrewI z E K (i + 1) tags bays hs' tk' ∧ KG s' n (B + 97) ∧ s'.length = s.length := by
  have nd : tk.Nodup := I.perm.nodup_iff.mpr I.ok.apart
  have hin : ∀ m ∈ tk, 0 ≤ m ∧ m < z := fun m hm => by
    obtain ⟨x, hx, hm2⟩ := List.mem_flatMap.mp (I.perm.mem_iff.mp hm)
    exact I.ok.inz x hx m hm2
  have rm := I.room
  have sm := I.small
  obtain ⟨r1, s1, e1, k1, l1, a, rfl, a0, a1⟩ := dip_ok (m := E) h (by omega) (by omega) (by omega)
  obtain ⟨room, hroom⟩ : ∃ room : Int, room = z - tk.length - (K - 1 - i) := ⟨_, rfl⟩
  obtain ⟨c, hcdef⟩ : ∃ c : Int, c = if room < 1 + a then room else 1 + a := ⟨_, rfl⟩
  have c1 : 1 ≤ c ∧ c ≤ E ∧ c ≤ room := by rw [hcdef]; split <;> omega
  obtain ⟨e', s2, hf, ⟨sp, w12, w13, he, hsl, hnd, hsp⟩, k2, l2⟩ := spots_loop (i := i) (most := most) (each := E) (many := K) (v6 := .own (.lst (hs.map Host.D))) (v7 := .val (.lst (tags.map .str))) (v8 := .val (.lst (bays.map .str))) (v9 := .val (.int i)) (v11 := .val (.int room)) (x12 := y12) (x13 := y13) (c := c.toNat) (s := s1) k1 (by omega) hz nd hin (by omega) (by omega) (by omega)
  have spn : sp.Nodup := (List.nodup_append.mp hnd).2.1
  obtain ⟨ms, hso, hmp, hms⟩ := sort_ints spn
  have ti : i < tags.length := by rw [ht.len]; exact hi
  have bi : i < bays.length := by rw [hb]; exact hi
  have hh : ({ nm := tags[i], rk := bays[i], ms := ms } : Host).D = .tup [.str tags[i], .str bays[i], .tup (ms.map .int)] := rfl
  have hml : ms.length = sp.length := hmp.length_eq
  refine ⟨s2, hs ++ [⟨tags[i], bays[i], ms⟩], tk ++ sp, w12, w13, .val (.lst (sp.map .int)), .val (.int room), ?_, ⟨?_, ?_, ?_, ?_, ?_⟩, k2.le (by omega), by omega⟩
  · subst he
    have hs0 := ks_noC h.all
    have b1 : mBor 5 (mOp subD (mOp subD (mVar 1) (mCall lenD (aCons (mVar 5) (aNil)))) (mOp subD (mOp subD (mVar 4) (mC (.int 1))) (mVar 9))) [.val (.cel n), .val (.int z), .val (.int most), .val (.int E), .val (.int K), .own (.lst (tk.map .int)), .own (.lst (hs.map Host.D)), .val (.lst (tags.map .str)), .val (.lst (bays.map .str)), .val (.int i), y10, y11, y12, y13] s = some (.int room, s) :=
      bor_ok rfl (op_ok (op_ok rfl (blt_ok (args1 rfl) (show lenD [.lst (tk.map D.int)] = some (.int tk.length) by simp [lenD])) rfl) (op_ok (op_ok rfl rfl rfl) rfl rfl) (by rw [hroom]; rfl)) rfl hs0
    have p1 : sPar [10, 11] (xOwn (mLst (aNil)) (xVal (mBor 5 (mOp subD (mOp subD (mVar 1) (mCall lenD (aCons (mVar 5) (aNil)))) (mOp subD (mOp subD (mVar 4) (mC (.int 1))) (mVar 9)))) (xNil))) [.val (.cel n), .val (.int z), .val (.int most), .val (.int E), .val (.int K), .own (.lst (tk.map .int)), .own (.lst (hs.map Host.D)), .val (.lst (tags.map .str)), .val (.lst (bays.map .str)), .val (.int i), y10, y11, y12, y13] s =
        some (.nx, [.val (.cel n), .val (.int z), .val (.int most), .val (.int E), .val (.int K), .own (.lst (tk.map .int)), .own (.lst (hs.map Host.D)), .val (.lst (tags.map .str)), .val (.lst (bays.map .str)), .val (.int i), .own (.lst []), .val (.int room), y12, y13], s) := by
      unfold sPar xOwn xVal xNil bnd bndS
      rw [lst_ok a_nil0 (by simp)]
      dsimp only
      rw [b1]
      rfl
    have rg := rng_ok (m := mCall min2D (aCons (mOp addD (mC (.int 1)) (mCallD u__law_dip (aCons (mVar 0) (aCons (mVar 3) (aNil))))) (aCons (mVar 11) (aNil)))) (e := [.val (.cel n), .val (.int z), .val (.int most), .val (.int E), .val (.int K), .own (.lst (tk.map .int)), .own (.lst (hs.map Host.D)), .val (.lst (tags.map .str)), .val (.lst (bays.map .str)), .val (.int i), .own (.lst []), .val (.int room), y12, y13]) (s := s) (s' := s1) (q := c)
      (blt_ok (args2 (op_ok rfl (call_ok (args2 rfl rfl) e1) rfl) rfl) (show min2D [.int (1 + a), .int room] = some (.int c) by rw [hcdef]; simp only [min2D])) (by omega) (by omega)
    have tp : mTup (aCons (mOp idxD (mVar 7) (mVar 9)) (aCons (mOp idxD (mVar 8) (mVar 9)) (aCons (mCall tupleD (aCons (mCallD (fun ds s => lft (sortedD ds) s) (aCons (mVar 10) (aNil))) (aNil))) (aNil)))) [.val (.cel n), .val (.int z), .val (.int most), .val (.int E), .val (.int K), .own (.lst ((tk ++ sp).map .int)), .own (.lst (hs.map Host.D)), .val (.lst (tags.map .str)), .val (.lst (bays.map .str)), .val (.int i), .val (.lst (sp.map .int)), .val (.int room), w12, w13] s2 = some (.tup [.str tags[i], .str bays[i], .tup (ms.map .int)], s2) :=
      tup_ok (a_cons0 (op_ok rfl rfl (idx_strs (List.getElem?_eq_getElem ti))) (a_cons0 (op_ok rfl rfl (idx_strs (List.getElem?_eq_getElem bi))) (a_cons0 (blt_ok (args1 (call_ok (args1 rfl) (show lft (sortedD [.lst (sp.map .int)]) s2 = some (.lst (ms.map .int), s2) by rw [hso]; rfl))) rfl) a_nil0))) (by simp)
    have hl : (hs.map Host.D).length < sizeLine := by
      have e := congrArg List.length I.names
      simp at e
      rw [sizeLine_eq, List.length_map]
      omega
    have mm : (hs ++ [(⟨tags[i], bays[i], ms⟩ : Host)]).map Host.D = hs.map Host.D ++ [.tup [.str tags[i], .str bays[i], .tup (ms.map .int)]] := by rw [List.map_append]; rfl
    rw [mm]
    exact seq_ok p1 (seq_ok (for_ok rg hf) (frz_ok rfl (app_ok0 tp rfl hl)))
  · refine hsok_add I.ok ?_ ⟨ht.nm _ (List.getElem_mem ti), hb2 _ (List.getElem_mem bi)⟩ ⟨fun e => by simp only at e; rw [e] at hml; simp at hml; omega, by simp only; omega⟩ hms (fun m hm => hsp m (hmp.mem_iff.mp hm)) ?_
    · rw [I.names]
      intro hm
      have q := ht.nd
      rw [← List.take_append_drop i tags] at q
      have w : tags[i] ∈ tags.drop i := List.mem_of_getElem? (i := 0) (by rw [List.getElem?_drop]; simpa using List.getElem?_eq_getElem ti)
      exact (List.nodup_append.mp q).2.2 _ hm _ w rfl
    · exact ((I.perm.append hmp.symm).nodup_iff).mp hnd
  · rw [List.map_append, I.names, List.take_succ, List.getElem?_eq_getElem ti]
    rfl
  · rw [List.flatMap_append]
    simpa using I.perm.append hmp.symm
  · simp [hsl]; omega
  · simp [hsl]; omega
end C
end Z

set_option Elab.async false
set_option linter.all false
set_option maxRecDepth 100000
namespace Z
namespace C
open PySem PySem.Spec PyProof.Rows L2
theorem band_loop {s : S} {n B K E : Nat} {z most : Int} {tags bays : List Str} {y9 y10 y11 y12 y13 : Sl} (h : KG s n B) (hB : B + 9000 < 2 ^ 40) (hz : 1 ≤ z) (hK : K ≤ 12) (hKz : (K : Int) ≤ z) (hE : 1 ≤ E) (hE2 : E ≤ 16) (ht : Nms0 tags K) (hb : bays.length = K) (hb2 : ∀ x ∈ bays, Nm x) :
    ∃ e' s', forL (gNm 9) bandTurn (rngD 0 K) [.val (.cel n), .val (.int z), .val (.int most), .val (.int E), .val (.int K), .own (.lst []), .own (.lst []), .val (.lst (tags.map .str)), .val (.lst (bays.map .str)), y9, y10, y11, y12, y13] s = some (.nx, e', s') ∧
      (∃ hs tk y9 y10 y11 y12 y13, e' = [.val (.cel n), .val (.int z), .val (.int most), .val (.int E), .val (.int K), .own (.lst (tk.map .int)), .own (.lst (hs.map Host.D)), .val (.lst (tags.map .str)), .val (.lst (bays.map .str)), y9, y10, y11, y12, y13] ∧ CrewI z E K K tags bays hs tk) ∧ KG s' n (B + K * 97) ∧ s'.length = s.length := by
  have key := for_inv (mg := gNm 9) (mb := bandTurn)
    (fun i e s1 => (∃ hs tk y9 y10 y11 y12 y13, e = [.val (.cel n), .val (.int z), .val (.int most), .val (.int E), .val (.int K), .own (.lst (List.map D.int tk)), .own (.lst (List.map Host.D hs)), .val (.lst (tags.map .str)), .val (.lst (bays.map .str)), y9, y10, y11, y12, y13] ∧ CrewI z E K i tags bays hs tk) ∧ KG s1 n (B + i * 97) ∧ s1.length = s.length) (rngD 0 K) 0
    [.val (.cel n), .val (.int z), .val (.int most), .val (.int E), .val (.int K), .own (.lst []), .own (.lst []), .val (.lst (tags.map .str)), .val (.lst (bays.map .str)), y9, y10, y11, y12, y13] s
    ⟨⟨[], [], y9, y10, y11, y12, y13, rfl, ⟨hsok_nil z E, by simp, by simp, by simpa using hKz, by simp⟩⟩, by simpa using h, rfl⟩
    (fun j e s1 d hd ⟨⟨hs, tk, w9, w10, w11, w12, w13, he, I⟩, hk, hl⟩ => by
      obtain ⟨hj, rfl⟩ := rng_at hd
      simp only [Nat.zero_add] at hk I ⊢
      subst he
      obtain ⟨s', hs', tk', x12, x13, x10, x11, e, I', k', l'⟩ := band_turn (most := most) (y10 := w10) (y11 := w11) (y12 := w12) (y13 := w13) hk (by omega) hz hj hK hE hE2 ht hb hb2 I
      exact ⟨_, s1, _, s', rfl, e, ⟨hs', tk', _, _, _, _, _, rfl, I'⟩, k'.le (by omega), by omega⟩)
  obtain ⟨e', s', hf, hi⟩ := key
  have hlen : (rngD 0 K).length = K := by simp [rngD]
  rw [hlen, Nat.zero_add] at hi
  exact ⟨e', s', hf, hi⟩
end C
end Z

set_option Elab.async false
set_option linter.all false
set_option maxRecDepth 100000
set_option maxHeartbeats 4000000
set_option hygiene false
local macro_rules | `(tactic| eq_refl) => `(tactic| ((with_reducible apply Z.wp_app); exact rfl))
local macro_rules | `(tactic| eq_refl) => `(tactic| with_reducible refine Z.wp_cont ?_)
local macro_rules | `(tactic| eq_refl) => `(tactic| with_reducible refine Z.wp_brk ?_)
local macro_rules | `(tactic| eq_refl) => `(tactic| with_reducible refine Z.wp_retn ?_)
local macro_rules | `(tactic| eq_refl) => `(tactic| (with_reducible refine Z.wp_rto ?_; with_reducible refine Z.on_cut ?_; intro zP zhP))
local macro_rules | `(tactic| eq_refl) => `(tactic| (with_reducible refine Z.wp_par ?_; with_reducible refine Z.on_cut ?_; intro zP zhP))
local macro_rules | `(tactic| eq_refl) => `(tactic| (with_reducible refine Z.wp_for ?_; with_reducible refine Z.on_cut ?_; intro zP zhP))
local macro_rules | `(tactic| eq_refl) => `(tactic| with_reducible refine Z.wp_frz ?_)
local macro_rules | `(tactic| eq_refl) => `(tactic| (with_reducible refine Z.wp_asg ?_; with_reducible refine Z.on_cut ?_; intro zP zhP))
local macro_rules | `(tactic| eq_refl) => `(tactic| (with_reducible refine Z.wp_own ?_; with_reducible refine Z.on_cut ?_; intro zP zhP))
local macro_rules | `(tactic| eq_refl) => `(tactic| (with_reducible refine Z.wp_expr ?_; with_reducible refine Z.on_cut ?_; intro zP zhP))
local macro_rules | `(tactic| eq_refl) => `(tactic| with_reducible refine Z.wp_nil ?_)
local macro_rules | `(tactic| eq_refl) => `(tactic| (with_reducible refine Z.wp_sif ?_; with_reducible refine Z.on_cut ?_; intro zP zhP))
local macro_rules | `(tactic| eq_refl) => `(tactic| (with_reducible refine Z.wp_ret ?_; with_reducible refine Z.on_cut ?_; intro zP zhP))
local macro_rules | `(tactic| eq_refl) => `(tactic| (with_reducible refine Z.wp_set ?_; with_reducible refine Z.on_cut ?_; intro zP zhP))
local macro_rules | `(tactic| eq_refl) => `(tactic| with_reducible refine Z.wp_seq ?_)
local macro_rules | `(tactic| infer_instance) => `(tactic| with_reducible refine Z.wp_chainLe ?_)
local macro_rules | `(tactic| infer_instance) => `(tactic| with_reducible refine Z.wp_ownNotIn ?_)
local macro_rules | `(tactic| infer_instance) => `(tactic| with_reducible refine Z.wp_ownIn ?_)
local macro_rules | `(tactic| infer_instance) => `(tactic| with_reducible refine Z.wp_ownSub ?_)
local macro_rules | `(tactic| infer_instance) => `(tactic| with_reducible refine Z.wp_ownD ?_)
local macro_rules | `(tactic| infer_instance) => `(tactic| with_reducible refine Z.wp_cm ?_)
local macro_rules | `(tactic| infer_instance) => `(tactic| ((with_reducible apply Z.wp_cls); exact rfl))
local macro_rules | `(tactic| infer_instance) => `(tactic| with_reducible refine Z.wp_pick ?_)
local macro_rules | `(tactic| infer_instance) => `(tactic| with_reducible refine Z.wp_make ?_)
local macro_rules | `(tactic| infer_instance) => `(tactic| with_reducible refine Z.wp_dc2 ?_)
local macro_rules | `(tactic| infer_instance) => `(tactic| with_reducible refine Z.wp_dc ?_)
local macro_rules | `(tactic| infer_instance) => `(tactic| with_reducible refine Z.wp_lc2 ?_)
local macro_rules | `(tactic| infer_instance) => `(tactic| with_reducible refine Z.wp_msplit ?_)
local macro_rules | `(tactic| infer_instance) => `(tactic| with_reducible refine Z.wp_mrev ?_)
local macro_rules | `(tactic| infer_instance) => `(tactic| with_reducible refine Z.wp_oNe ?_)
local macro_rules | `(tactic| infer_instance) => `(tactic| with_reducible refine Z.wp_oEq ?_)
local macro_rules | `(tactic| infer_instance) => `(tactic| with_reducible refine Z.wp_dic0 ?_)
local macro_rules | `(tactic| infer_instance) => `(tactic| with_reducible refine Z.wp_mget ?_)
local macro_rules | `(tactic| infer_instance) => `(tactic| with_reducible refine Z.wp_meth0 ?_)
local macro_rules | `(tactic| infer_instance) => `(tactic| with_reducible refine Z.wp_methK ?_)
local macro_rules | `(tactic| infer_instance) => `(tactic| with_reducible refine Z.wp_meth ?_)
local macro_rules | `(tactic| infer_instance) => `(tactic| with_reducible refine Z.wp_mjoin ?_)
local macro_rules | `(tactic| infer_instance) => `(tactic| with_reducible refine Z.wp_lc ?_)
local macro_rules | `(tactic| infer_instance) => `(tactic| with_reducible refine Z.wp_lft ?_)
local macro_rules | `(tactic| infer_instance) => `(tactic| with_reducible refine Z.wp_cel ?_)
local macro_rules | `(tactic| infer_instance) => `(tactic| with_reducible refine Z.wp_prop ?_)
local macro_rules | `(tactic| infer_instance) => `(tactic| with_reducible refine Z.wp_fld ?_)
local macro_rules | `(tactic| infer_instance) => `(tactic| with_reducible refine Z.wp_sl ?_)
local macro_rules | `(tactic| infer_instance) => `(tactic| with_reducible refine Z.wp_or ?_)
local macro_rules | `(tactic| infer_instance) => `(tactic| with_reducible refine Z.wp_and ?_)
local macro_rules | `(tactic| infer_instance) => `(tactic| with_reducible refine Z.wp_if ?_)
local macro_rules | `(tactic| infer_instance) => `(tactic| with_reducible refine Z.wp_lst ?_)
local macro_rules | `(tactic| infer_instance) => `(tactic| with_reducible refine Z.wp_tup ?_)
local macro_rules | `(tactic| infer_instance) => `(tactic| with_reducible refine Z.wp_fbor ?_)
local macro_rules | `(tactic| infer_instance) => `(tactic| with_reducible refine Z.wp_bor ?_)
local macro_rules | `(tactic| infer_instance) => `(tactic| with_reducible refine Z.wp_un ?_)
local macro_rules | `(tactic| infer_instance) => `(tactic| with_reducible refine Z.wp_opM ?_)
local macro_rules | `(tactic| infer_instance) => `(tactic| with_reducible refine Z.wp_op ?_)
local macro_rules | `(tactic| infer_instance) => `(tactic| with_reducible refine Z.wp_call ?_)
local macro_rules | `(tactic| infer_instance) => `(tactic| with_reducible refine Z.wp_callD ?_)
local macro_rules | `(tactic| infer_instance) => `(tactic| with_reducible refine Z.wp_c ?_)
local macro_rules | `(tactic| infer_instance) => `(tactic| ((with_reducible apply Z.wp_var); exact rfl))
local macro_rules | `(tactic| symm) => `(tactic| ((with_reducible apply Z.on1_some); exact rfl))
local macro_rules | `(tactic| symm) => `(tactic| ((with_reducible refine Z.wp_addS ?_ ?_); first | assumption | omega))
local macro_rules | `(tactic| symm) => `(tactic| ((with_reducible refine Z.wp_catT ?_ ?_); first | assumption | (simp; done) | omega | (simp only [List.length_map, List.length_cons, List.length_nil, List.length_append]; omega) | (simp; omega)))
local macro_rules | `(tactic| symm) => `(tactic| ((with_reducible refine Z.wp_catL ?_ ?_); first | assumption | (simp; done) | omega | (simp only [List.length_map, List.length_cons, List.length_nil, List.length_append]; omega) | (simp; omega)))
local macro_rules | `(tactic| symm) => `(tactic| ((with_reducible refine Z.wp_addL ?_ ?_); first | assumption | (simp; done) | omega | (simp only [List.length_map, List.length_cons, List.length_nil, List.length_append]; omega) | (simp; omega)))
local macro_rules | `(tactic| symm) => `(tactic| with_reducible refine Z.wp_neS ?_)
local macro_rules | `(tactic| symm) => `(tactic| with_reducible refine Z.wp_eqS ?_)
local macro_rules | `(tactic| symm) => `(tactic| with_reducible refine Z.wp_neI ?_)
local macro_rules | `(tactic| symm) => `(tactic| with_reducible refine Z.wp_eqI ?_)
local macro_rules | `(tactic| symm) => `(tactic| ((with_reducible apply Z.wp_ixL); exact rfl; first | decide | omega))
local macro_rules | `(tactic| symm) => `(tactic| ((with_reducible apply Z.wp_ixT); exact rfl; first | decide | omega))
local macro_rules | `(tactic| symm) => `(tactic| with_reducible refine Z.wp_slT ?_)
local macro_rules | `(tactic| symm) => `(tactic| with_reducible refine Z.wp_any ?_)
local macro_rules | `(tactic| symm) => `(tactic| with_reducible refine Z.wp_revL ?_)
local macro_rules | `(tactic| symm) => `(tactic| with_reducible refine Z.wp_revT ?_)
local macro_rules | `(tactic| symm) => `(tactic| with_reducible refine Z.wp_all ?_)
local macro_rules | `(tactic| symm) => `(tactic| with_reducible refine Z.wp_ninIL ?_)
local macro_rules | `(tactic| symm) => `(tactic| with_reducible refine Z.wp_inIL ?_)
local macro_rules | `(tactic| symm) => `(tactic| with_reducible refine Z.wp_ninSL ?_)
local macro_rules | `(tactic| symm) => `(tactic| with_reducible refine Z.wp_ninST ?_)
local macro_rules | `(tactic| symm) => `(tactic| with_reducible refine Z.wp_inST ?_)
local macro_rules | `(tactic| symm) => `(tactic| with_reducible refine Z.wp_inSL ?_)
local macro_rules | `(tactic| symm) => `(tactic| ((with_reducible refine Z.wp_lenS ?_ ?_); first | assumption | omega))
local macro_rules | `(tactic| symm) => `(tactic| with_reducible refine Z.wp_lenT ?_)
local macro_rules | `(tactic| symm) => `(tactic| with_reducible refine Z.wp_lenL ?_)
local macro_rules | `(tactic| symm) => `(tactic| with_reducible refine Z.wp_inC ?_)
local macro_rules | `(tactic| symm) => `(tactic| with_reducible refine Z.wp_isiTs ?_)
local macro_rules | `(tactic| symm) => `(tactic| with_reducible refine Z.wp_isiT ?_)
local macro_rules | `(tactic| symm) => `(tactic| with_reducible refine Z.wp_isiSi ?_)
local macro_rules | `(tactic| symm) => `(tactic| with_reducible refine Z.wp_isiS ?_)
local macro_rules | `(tactic| symm) => `(tactic| with_reducible refine Z.wp_isiIs ?_)
local macro_rules | `(tactic| symm) => `(tactic| with_reducible refine Z.wp_isiIb ?_)
local macro_rules | `(tactic| symm) => `(tactic| with_reducible refine Z.wp_isiI ?_)
local macro_rules | `(tactic| symm) => `(tactic| ((with_reducible refine Z.wp_fdiv ?_ ?_ ?_); (first | assumption | decide | omega); (first | assumption | decide | omega)))
local macro_rules | `(tactic| symm) => `(tactic| ((with_reducible refine Z.wp_mod ?_ ?_); first | assumption | decide | omega))
local macro_rules | `(tactic| symm) => `(tactic| ((with_reducible refine Z.wp_mul ?_ ?_); first | assumption | decide | omega))
local macro_rules | `(tactic| bv_omega) => `(tactic| with_reducible refine Z.wp_chC ?_)
local macro_rules | `(tactic| bv_omega) => `(tactic| refine Z.wp_brF ?_)
local macro_rules | `(tactic| bv_omega) => `(tactic| refine Z.wp_brT ?_)
local macro_rules | `(tactic| bv_omega) => `(tactic| with_reducible refine Z.wp_exi1 ?_)
local macro_rules | `(tactic| bv_omega) => `(tactic| with_reducible refine Z.wp_exi ?_)
local macro_rules | `(tactic| bv_omega) => `(tactic| with_reducible refine Z.wp_exe ?_)
local macro_rules | `(tactic| bv_omega) => `(tactic| ((with_reducible refine Z.wp_exI ?_ ?_ ?_); omega; omega))
local macro_rules | `(tactic| bv_omega) => `(tactic| with_reducible refine Z.wp_exO ?_)
local macro_rules | `(tactic| bv_omega) => `(tactic| with_reducible refine Z.wp_exT ?_)
local macro_rules | `(tactic| bv_omega) => `(tactic| with_reducible refine Z.wp_exL ?_)
local macro_rules | `(tactic| bv_omega) => `(tactic| ((with_reducible refine Z.wp_rngq ?_ ?_ ?_); omega; omega))
local macro_rules | `(tactic| bv_omega) => `(tactic| ((with_reducible refine Z.wp_len ?_ ?_); exact rfl))
local macro_rules | `(tactic| bv_omega) => `(tactic| ((with_reducible refine Z.wp_sz ?_ ?_); first | exact Nat.le_of_ble_eq_true rfl | (simp only [List.length_map, List.length_cons, List.length_nil, List.length_append]; omega)))
local macro_rules | `(tactic| bv_omega) => `(tactic| with_reducible refine Z.wp_brNF ?_)
local macro_rules | `(tactic| bv_omega) => `(tactic| with_reducible refine Z.wp_brNT ?_)
local macro_rules | `(tactic| bv_omega) => `(tactic| with_reducible refine Z.wp_brF ?_)
local macro_rules | `(tactic| bv_omega) => `(tactic| with_reducible refine Z.wp_brT ?_)
local macro_rules | `(tactic| bv_omega) => `(tactic| ((with_reducible apply Z.wp_gk); exact rfl))
local macro_rules | `(tactic| bv_omega) => `(tactic| ((with_reducible refine Z.wp_mk ?_ ?_); exact rfl))
local macro_rules | `(tactic| bv_omega) => `(tactic| with_reducible refine Z.wp_exStr ?_)
local macro_rules | `(tactic| bv_omega) => `(tactic| ((with_reducible refine Z.is_On ?_); first
      | with_reducible refine Z.wp_onone ?_
      | with_reducible refine Z.wp_osome ?_
      | with_reducible refine Z.wp_gnm ?_
      | with_reducible refine Z.wp_gscons ?_
      | with_reducible refine Z.wp_gsnil ?_
      | with_reducible refine Z.wp_gseqT ?_
      | with_reducible refine Z.wp_gseqL ?_
      | with_reducible refine Z.wp_xnil ?_
      | with_reducible refine Z.wp_xval ?_
      | with_reducible refine Z.wp_xown ?_
      | with_reducible refine Z.wp_nnil ?_
      | with_reducible refine Z.wp_nseq ?_
      | with_reducible refine Z.wp_nexpr ?_
      | with_reducible refine Z.wp_nnot ?_
      | ((with_reducible refine Z.wp_nfld ?_ ?_); exact Nat.le_of_ble_eq_true rfl)))
local macro_rules | `(tactic| bv_omega) => `(tactic| ((with_reducible refine Z.is_On1 ?_); symm))
local macro_rules | `(tactic| bv_omega) => `(tactic| ((with_reducible refine Z.is_OnB ?_); first
      | with_reducible refine Z.wp_t ?_
      | with_reducible refine Z.wp_tand ?_
      | with_reducible refine Z.wp_tor ?_
      | with_reducible refine Z.wp_tnot ?_
      | with_reducible refine Z.wp_tbor ?_
      | with_reducible refine Z.wp_yes ?_))
local macro_rules | `(tactic| bv_omega) => `(tactic| ((with_reducible refine Z.is_OnL ?_); first
      | with_reducible refine Z.wp_acons ?_
      | with_reducible refine Z.wp_anil ?_
      | with_reducible refine Z.wp_none ?_
      | with_reducible refine Z.wp_astar ?_
      | with_reducible refine Z.wp_rng ?_
      | with_reducible refine Z.wp_seq' ?_
      | with_reducible refine Z.wp_enum ?_
      | with_reducible refine Z.wp_zip ?_))
local macro_rules | `(tactic| bv_omega) => `(tactic| ((with_reducible refine Z.is_OnD ?_); infer_instance))
local macro_rules | `(tactic| bv_omega) => `(tactic| ((with_reducible refine Z.is_OnS ?_); eq_refl))
local macro_rules | `(tactic| bv_omega) => `(tactic| ((with_reducible apply Z.nrm7); (simp only [Z.startE, Z.startI, Z.setX, Z.setD, Z.wipeE, Z.frzE, Z.zset0, Z.zsets, Z.zmap_cons, Z.zmap_nil, Z.zrep0, Z.zreps, Z.zapp_cons, Z.zapp_nil, Z.zapp_nil', Z.zget0, Z.zgets, Nat.sub_self, Nat.reduceSub]; exact rfl)))
local macro_rules | `(tactic| bv_omega) => `(tactic| ((with_reducible apply Z.nrm6); (simp only [Z.startE, Z.startI, Z.setX, Z.setD, Z.wipeE, Z.frzE, Z.zset0, Z.zsets, Z.zmap_cons, Z.zmap_nil, Z.zrep0, Z.zreps, Z.zapp_cons, Z.zapp_nil, Z.zapp_nil', Z.zget0, Z.zgets, Nat.sub_self, Nat.reduceSub]; exact rfl)))
local macro_rules | `(tactic| bv_omega) => `(tactic| ((with_reducible apply Z.nrm5); (simp only [Z.startE, Z.startI, Z.setX, Z.setD, Z.wipeE, Z.frzE, Z.zset0, Z.zsets, Z.zmap_cons, Z.zmap_nil, Z.zrep0, Z.zreps, Z.zapp_cons, Z.zapp_nil, Z.zapp_nil', Z.zget0, Z.zgets, Nat.sub_self, Nat.reduceSub]; exact rfl)))
local macro_rules | `(tactic| bv_omega) => `(tactic| ((with_reducible apply Z.nrm4); (simp only [Z.startE, Z.startI, Z.setX, Z.setD, Z.wipeE, Z.frzE, Z.zset0, Z.zsets, Z.zmap_cons, Z.zmap_nil, Z.zrep0, Z.zreps, Z.zapp_cons, Z.zapp_nil, Z.zapp_nil', Z.zget0, Z.zgets, Nat.sub_self, Nat.reduceSub]; exact rfl)))
local macro_rules | `(tactic| bv_omega) => `(tactic| ((with_reducible apply Z.nrm1); (simp only [Z.startE, Z.startI, Z.setX, Z.setD, Z.wipeE, Z.frzE, Z.zset0, Z.zsets, Z.zmap_cons, Z.zmap_nil, Z.zrep0, Z.zreps, Z.zapp_cons, Z.zapp_nil, Z.zapp_nil', Z.zget0, Z.zgets, Nat.sub_self, Nat.reduceSub]; exact rfl)))
local macro_rules | `(tactic| bv_omega) => `(tactic| ((with_reducible apply Z.nrmS4); (simp only [Z.startE, Z.startI, Z.setX, Z.setD, Z.wipeE, Z.frzE, Z.zset0, Z.zsets, Z.zmap_cons, Z.zmap_nil, Z.zrep0, Z.zreps, Z.zapp_cons, Z.zapp_nil, Z.zapp_nil', Z.zget0, Z.zgets, Nat.sub_self, Nat.reduceSub]; exact rfl)))
local macro_rules | `(tactic| bv_omega) => `(tactic| ((with_reducible apply Z.nrmS3); (simp only [Z.startE, Z.startI, Z.setX, Z.setD, Z.wipeE, Z.frzE, Z.zset0, Z.zsets, Z.zmap_cons, Z.zmap_nil, Z.zrep0, Z.zreps, Z.zapp_cons, Z.zapp_nil, Z.zapp_nil', Z.zget0, Z.zgets, Nat.sub_self, Nat.reduceSub]; exact rfl)))
local macro_rules | `(tactic| bv_omega) => `(tactic| ((with_reducible apply Z.nrmS2); (simp only [Z.startE, Z.startI, Z.setX, Z.setD, Z.wipeE, Z.frzE, Z.zset0, Z.zsets, Z.zmap_cons, Z.zmap_nil, Z.zrep0, Z.zreps, Z.zapp_cons, Z.zapp_nil, Z.zapp_nil', Z.zget0, Z.zgets, Nat.sub_self, Nat.reduceSub]; exact rfl)))
local macro_rules | `(tactic| bv_omega) => `(tactic| ((with_reducible apply Z.nrmS1); (simp only [Z.startE, Z.startI, Z.setX, Z.setD, Z.wipeE, Z.frzE, Z.zset0, Z.zsets, Z.zmap_cons, Z.zmap_nil, Z.zrep0, Z.zreps, Z.zapp_cons, Z.zapp_nil, Z.zapp_nil', Z.zget0, Z.zgets, Nat.sub_self, Nat.reduceSub]; exact rfl)))
local macro_rules | `(tactic| bv_omega) => `(tactic| (with_reducible refine Z.cut_end zhP ?_; clear zhP zP))
local macro_rules | `(tactic| fail) => `(tactic| with_reducible refine And.intro (by assumption) ?_)
local macro_rules | `(tactic| fail) => `(tactic| with_reducible refine ⟨_, rfl, ?_⟩)
local macro_rules | `(tactic| fail) => `(tactic| with_reducible refine ⟨rfl, ?_⟩)
local macro_rules | `(tactic| fail) => `(tactic| with_reducible exact ⟨rfl, rfl⟩)
local macro_rules | `(tactic| fail) => `(tactic| with_reducible rw [Z.zcut3])
local macro_rules | `(tactic| fail) => `(tactic| with_reducible rw [Z.zcut6])
local macro_rules | `(tactic| fail) => `(tactic| with_reducible rw [Z.dec_self])
local macro_rules | `(tactic| fail) => `(tactic| with_reducible refine Z.wp_lcNil ?_)
local macro_rules | `(tactic| fail) => `(tactic| with_reducible refine Z.wp_lcCons ?_)
local macro_rules | `(tactic| fail) => `(tactic| with_reducible refine Z.wp_forNil ?_)
local macro_rules | `(tactic| fail) => `(tactic| with_reducible refine Z.wp_forCons ?_)
local macro_rules | `(tactic| fail) => `(tactic| with_reducible refine Z.wp_chC ?_)
local macro_rules | `(tactic| fail) => `(tactic| refine Z.wp_brF ?_)
local macro_rules | `(tactic| fail) => `(tactic| refine Z.wp_brT ?_)
local macro_rules | `(tactic| fail) => `(tactic| with_reducible refine Z.wp_exi1 ?_)
local macro_rules | `(tactic| fail) => `(tactic| with_reducible refine Z.wp_exi ?_)
local macro_rules | `(tactic| fail) => `(tactic| with_reducible refine Z.wp_exe ?_)
local macro_rules | `(tactic| fail) => `(tactic| ((with_reducible refine Z.wp_exI ?_ ?_ ?_); omega; omega))
local macro_rules | `(tactic| fail) => `(tactic| with_reducible refine Z.wp_exO ?_)
local macro_rules | `(tactic| fail) => `(tactic| with_reducible refine Z.wp_exT ?_)
local macro_rules | `(tactic| fail) => `(tactic| with_reducible refine Z.wp_exL ?_)
local macro_rules | `(tactic| fail) => `(tactic| ((with_reducible refine Z.wp_rngq ?_ ?_ ?_); omega; omega))
local macro_rules | `(tactic| fail) => `(tactic| ((with_reducible refine Z.wp_len ?_ ?_); exact rfl))
local macro_rules | `(tactic| fail) => `(tactic| ((with_reducible refine Z.wp_sz ?_ ?_); first | exact Nat.le_of_ble_eq_true rfl | (simp only [List.length_map, List.length_cons, List.length_nil, List.length_append]; omega)))
local macro_rules | `(tactic| fail) => `(tactic| with_reducible refine Z.wp_brNF ?_)
local macro_rules | `(tactic| fail) => `(tactic| with_reducible refine Z.wp_brNT ?_)
local macro_rules | `(tactic| fail) => `(tactic| with_reducible refine Z.wp_brF ?_)
local macro_rules | `(tactic| fail) => `(tactic| with_reducible refine Z.wp_brT ?_)
local macro_rules | `(tactic| fail) => `(tactic| ((with_reducible apply Z.wp_gk); exact rfl))
local macro_rules | `(tactic| fail) => `(tactic| ((with_reducible refine Z.wp_mk ?_ ?_); exact rfl))
local macro_rules | `(tactic| fail) => `(tactic| with_reducible refine Z.wp_exStr ?_)
local macro_rules | `(tactic| fail) => `(tactic| ((with_reducible refine Z.is_On ?_); first
      | with_reducible refine Z.wp_onone ?_
      | with_reducible refine Z.wp_osome ?_
      | with_reducible refine Z.wp_gnm ?_
      | with_reducible refine Z.wp_gscons ?_
      | with_reducible refine Z.wp_gsnil ?_
      | with_reducible refine Z.wp_gseqT ?_
      | with_reducible refine Z.wp_gseqL ?_
      | with_reducible refine Z.wp_xnil ?_
      | with_reducible refine Z.wp_xval ?_
      | with_reducible refine Z.wp_xown ?_
      | with_reducible refine Z.wp_nnil ?_
      | with_reducible refine Z.wp_nseq ?_
      | with_reducible refine Z.wp_nexpr ?_
      | with_reducible refine Z.wp_nnot ?_
      | ((with_reducible refine Z.wp_nfld ?_ ?_); exact Nat.le_of_ble_eq_true rfl)))
local macro_rules | `(tactic| fail) => `(tactic| ((with_reducible refine Z.is_On1 ?_); symm))
local macro_rules | `(tactic| fail) => `(tactic| ((with_reducible refine Z.is_OnB ?_); first
      | with_reducible refine Z.wp_t ?_
      | with_reducible refine Z.wp_tand ?_
      | with_reducible refine Z.wp_tor ?_
      | with_reducible refine Z.wp_tnot ?_
      | with_reducible refine Z.wp_tbor ?_
      | with_reducible refine Z.wp_yes ?_))
local macro_rules | `(tactic| fail) => `(tactic| ((with_reducible refine Z.is_OnL ?_); first
      | with_reducible refine Z.wp_acons ?_
      | with_reducible refine Z.wp_anil ?_
      | with_reducible refine Z.wp_none ?_
      | with_reducible refine Z.wp_astar ?_
      | with_reducible refine Z.wp_rng ?_
      | with_reducible refine Z.wp_seq' ?_
      | with_reducible refine Z.wp_enum ?_
      | with_reducible refine Z.wp_zip ?_))
local macro_rules | `(tactic| fail) => `(tactic| ((with_reducible refine Z.is_OnD ?_); infer_instance))
local macro_rules | `(tactic| fail) => `(tactic| ((with_reducible refine Z.is_OnS ?_); eq_refl))
local macro_rules | `(tactic| fail) => `(tactic| ((with_reducible apply Z.nrm7); (simp only [Z.startE, Z.startI, Z.setX, Z.setD, Z.wipeE, Z.frzE, Z.zset0, Z.zsets, Z.zmap_cons, Z.zmap_nil, Z.zrep0, Z.zreps, Z.zapp_cons, Z.zapp_nil, Z.zapp_nil', Z.zget0, Z.zgets, Nat.sub_self, Nat.reduceSub]; exact rfl)))
local macro_rules | `(tactic| fail) => `(tactic| ((with_reducible apply Z.nrm6); (simp only [Z.startE, Z.startI, Z.setX, Z.setD, Z.wipeE, Z.frzE, Z.zset0, Z.zsets, Z.zmap_cons, Z.zmap_nil, Z.zrep0, Z.zreps, Z.zapp_cons, Z.zapp_nil, Z.zapp_nil', Z.zget0, Z.zgets, Nat.sub_self, Nat.reduceSub]; exact rfl)))
local macro_rules | `(tactic| fail) => `(tactic| ((with_reducible apply Z.nrm5); (simp only [Z.startE, Z.startI, Z.setX, Z.setD, Z.wipeE, Z.frzE, Z.zset0, Z.zsets, Z.zmap_cons, Z.zmap_nil, Z.zrep0, Z.zreps, Z.zapp_cons, Z.zapp_nil, Z.zapp_nil', Z.zget0, Z.zgets, Nat.sub_self, Nat.reduceSub]; exact rfl)))
local macro_rules | `(tactic| fail) => `(tactic| ((with_reducible apply Z.nrm4); (simp only [Z.startE, Z.startI, Z.setX, Z.setD, Z.wipeE, Z.frzE, Z.zset0, Z.zsets, Z.zmap_cons, Z.zmap_nil, Z.zrep0, Z.zreps, Z.zapp_cons, Z.zapp_nil, Z.zapp_nil', Z.zget0, Z.zgets, Nat.sub_self, Nat.reduceSub]; exact rfl)))
local macro_rules | `(tactic| fail) => `(tactic| ((with_reducible apply Z.nrm1); (simp only [Z.startE, Z.startI, Z.setX, Z.setD, Z.wipeE, Z.frzE, Z.zset0, Z.zsets, Z.zmap_cons, Z.zmap_nil, Z.zrep0, Z.zreps, Z.zapp_cons, Z.zapp_nil, Z.zapp_nil', Z.zget0, Z.zgets, Nat.sub_self, Nat.reduceSub]; exact rfl)))
local macro_rules | `(tactic| fail) => `(tactic| ((with_reducible apply Z.nrmS4); (simp only [Z.startE, Z.startI, Z.setX, Z.setD, Z.wipeE, Z.frzE, Z.zset0, Z.zsets, Z.zmap_cons, Z.zmap_nil, Z.zrep0, Z.zreps, Z.zapp_cons, Z.zapp_nil, Z.zapp_nil', Z.zget0, Z.zgets, Nat.sub_self, Nat.reduceSub]; exact rfl)))
local macro_rules | `(tactic| fail) => `(tactic| ((with_reducible apply Z.nrmS3); (simp only [Z.startE, Z.startI, Z.setX, Z.setD, Z.wipeE, Z.frzE, Z.zset0, Z.zsets, Z.zmap_cons, Z.zmap_nil, Z.zrep0, Z.zreps, Z.zapp_cons, Z.zapp_nil, Z.zapp_nil', Z.zget0, Z.zgets, Nat.sub_self, Nat.reduceSub]; exact rfl)))
local macro_rules | `(tactic| fail) => `(tactic| ((with_reducible apply Z.nrmS2); (simp only [Z.startE, Z.startI, Z.setX, Z.setD, Z.wipeE, Z.frzE, Z.zset0, Z.zsets, Z.zmap_cons, Z.zmap_nil, Z.zrep0, Z.zreps, Z.zapp_cons, Z.zapp_nil, Z.zapp_nil', Z.zget0, Z.zgets, Nat.sub_self, Nat.reduceSub]; exact rfl)))
local macro_rules | `(tactic| fail) => `(tactic| ((with_reducible apply Z.nrmS1); (simp only [Z.startE, Z.startI, Z.setX, Z.setD, Z.wipeE, Z.frzE, Z.zset0, Z.zsets, Z.zmap_cons, Z.zmap_nil, Z.zrep0, Z.zreps, Z.zapp_cons, Z.zapp_nil, Z.zapp_nil', Z.zget0, Z.zgets, Nat.sub_self, Nat.reduceSub]; exact rfl)))
local macro_rules | `(tactic| fail) => `(tactic| with_reducible refine Z.wp_pick' ?_)
local macro_rules | `(tactic| fail) => `(tactic| with_reducible refine Z.wp_methK' ?_)
local macro_rules | `(tactic| fail) => `(tactic| with_reducible refine Z.wp_cmK' ?_)
local macro_rules | `(tactic| fail) => `(tactic| with_reducible refine Z.wp_rng2 ?_)
local macro_rules | `(tactic| fail) => `(tactic| with_reducible refine Z.wp_pk0 ?_)
local macro_rules | `(tactic| fail) => `(tactic| ((with_reducible apply Z.wp_pks); exact rfl))
local macro_rules | `(tactic| fail) => `(tactic| with_reducible refine Z.on1_some (by assumption) ?_)
local macro_rules | `(tactic| fail) => `(tactic| with_reducible refine Z.on_some (by assumption) ?_)
local macro_rules | `(tactic| fail) => `(tactic| (with_reducible refine Z.cut_end zhP ?_; clear zhP zP))
set_option hygiene true

namespace Z
namespace C
open PySem PySem.Spec PyProof.Rows L2
theorem Dr.on {md : MD} {ds : List D} {s : S} {n B k : Nat} {P : D → Prop} {Q : D → S → Prop} (h : Dr md ds s n B k P) (q : ∀ r s', P r → KG s' n (B + k) → s'.length = s.length → Q r s') : On (md ds s) Q :=
  let ⟨r, s', e, a, b, c⟩ := h; ⟨r, s', e, q r s' c a b⟩
theorem Dr.of {md : MD} {ds : List D} {s : S} {n B k : Nat} {P : D → Prop} (h : On (md ds s) fun r s' => KG s' n (B + k) ∧ s'.length = s.length ∧ P r) : Dr md ds s n B k P :=
  let ⟨r, s', e, a, b, c⟩ := h; ⟨r, s', e, a, b, c⟩
/-- a crew is drawn: K hosts, K at most M and z -/
theorem band_nn {s : S} {n B M E : Nat} {z : Int} (h : KG s n B) (hB : B + 10000 < 2 ^ 40) (hz : 1 ≤ z) (hM : 1 ≤ M) (hM2 : M ≤ 12) (hE : 1 ≤ E) (hE2 : E ≤ 16) : Dr u__law_band [.cel n, .int z, .int M, .int E] s n B 2000 fun r => ∃ hs, r = crewD hs ∧ HsOk z E hs ∧ 1 ≤ hs.length ∧ hs.length ≤ M ∧ ∀ h ∈ hs, NN h.nm := by
  refine Dr.of ?_
  unfold u__law_band
  refine wp_mkD rfl ?_
  repeat bv_omega
  refine (dip_ok (m := M) h (by omega) (by omega) (by omega)).on fun r s1 ⟨a, hr, a0, a1⟩ k1 l1 => ?_
  subst hr
  repeat bv_omega
  obtain ⟨K, hKd⟩ : ∃ K : Nat, (K : Int) = if z < 1 + a then z else 1 + a := ⟨(if z < 1 + a then z else 1 + a).toNat, by split <;> omega⟩
  have hK : 1 ≤ K ∧ K ≤ M ∧ (K : Int) ≤ z := by split at hKd <;> omega
  rw [← hKd]
  refine (titles_ok (k := K) k1 (by omega) (by omega)).on fun r s2 ⟨tags, hr, ht⟩ k2 l2 => ?_
  subst hr
  repeat bv_omega
  refine (yards_ok (k := K) k2 (by omega) (by omega)).on fun r s3 ⟨bays, hr, hb, hb2⟩ k3 l3 => ?_
  subst hr
  repeat bv_omega
  rw [← hKd, Int.toNat_natCast]
  obtain ⟨e', s4, hf, ⟨hs, tk, y9, y10, y11, y12, y13, he, I⟩, k4, l4⟩ := band_loop (most := M) (y9 := .unb) (y10 := .unb) (y11 := .unb) (y12 := .unb) (y13 := .unb) k3 (by omega) hz (by omega) hK.2.2 hE hE2 ht hb hb2
  have hlen : hs.length = K := by
    have e := congrArg List.length I.names
    rw [List.length_map, List.length_take, ht.len] at e
    omega
  subst he
  refine ons_nx hf ?_
  repeat bv_omega
  refine ⟨k4.le (by omega), by omega, hs, rfl, I.ok, by omega, by omega, fun h hh => ?_⟩
  have : h.nm ∈ tags.take K := by rw [← I.names]; exact List.mem_map_of_mem hh
  exact ht.nn _ (List.mem_of_mem_take this)
/-! ### a frame -/
structure Frame where
  z : Int
  w : Int
  x : Str
  a : Int
  b : Int
  y : Str
  hs : List Host
def Frame.D (f : Frame) : D := .lst [.int f.z, .int f.w, .str f.x, .int f.a, .int f.b, .str f.y, crewD f.hs]
structure FrOk (M E : Nat) (f : Frame) : Prop where
  z0 : 1 ≤ f.z
  z1 : f.z ≤ 1000000000000000000
  w0 : 1 ≤ f.w
  w1 : f.w ≤ 5
  a0 : 1 ≤ f.a
  a1 : f.a ≤ f.w
  b0 : 1 ≤ f.b
  b1 : f.b ≤ f.w
  x : f.x ∈ (["hosts", "racks"] : List Str)
  y : f.y ∈ (["plain", "with"] : List Str)
  hs : HsOk f.z E f.hs
  h0 : 1 ≤ f.hs.length
  h1 : f.hs.length ≤ M
theorem build_nn {s : S} {n B M E : Nat} {z : Int} (h : KG s n B) (hB : B + 20000 < 2 ^ 40) (hz : 1 ≤ z) (hz1 : z ≤ 1000000000000000000) (hM : 1 ≤ M) (hM2 : M ≤ 12) (hE : 1 ≤ E) (hE2 : E ≤ 16) :
    Dr u__law_build [.cel n, .int z, .int M, .int E] s n B 2010 fun r => ∃ f : Frame, r = f.D ∧ f.z = z ∧ FrOk M E f ∧ ∀ h ∈ f.hs, NN h.nm := by
  refine Dr.of ?_
  unfold u__law_build
  refine wp_mkD rfl ?_
  repeat bv_omega
  refine (rule_ok h (by omega)).on fun r s1 ⟨w, a, b, x, y, hr, w0, w1, a0, a1, b0, b1, hx, hy⟩ k1 l1 => ?_
  subst hr
  repeat bv_omega
  refine (band_nn k1 (by omega) hz hM hM2 hE hE2).on fun r s2 ⟨hs, hr, h2, h3, h4, h5⟩ k2 l2 => ?_
  subst hr
  repeat bv_omega
  exact ⟨k2.le (by omega), by omega, ⟨z, w, x, a, b, y, hs⟩, rfl, rfl, ⟨hz, hz1, w0, w1, a0, a1, b0, b1, hx, hy, h2, h3, h4⟩, h5⟩
theorem build_ok {s : S} {n B M E : Nat} {z : Int} (h : KG s n B) (hB : B + 20000 < 2 ^ 40) (hz : 1 ≤ z) (hz1 : z ≤ 1000000000000000000) (hM : 1 ≤ M) (hM2 : M ≤ 12) (hE : 1 ≤ E) (hE2 : E ≤ 16) :
    Dr u__law_build [.cel n, .int z, .int M, .int E] s n B 2010 fun r => ∃ f : Frame, r = f.D ∧ f.z = z ∧ FrOk M E f := (build_nn h hB hz hz1 hM hM2 hE hE2).le (Nat.le_refl _) fun r ⟨f, a, b, c, _⟩ => ⟨f, a, b, c⟩
end C
end Z

namespace Z
namespace C
open PySem PySem.Spec PyProof.Rows L2
/-! ### a ring is made -/
theorem isint_ok (v lo hi : Int) (s : S) : u_is_integer [.int v, .int lo, .int hi] s = some (.bl (decide (lo ≤ v) && decide (v ≤ hi)), s) := by
  refine eq_of_on ?_
  unfold u_is_integer
  refine wp_mkD rfl ?_
  repeat bv_omega
  exact ⟨rfl, rfl⟩
theorem chk_ok {v hi : Int} (s : S) (h0 : 1 ≤ v) (h1 : v ≤ hi) : u_check_number [.int v, .int hi] s = some (.non, s) := by
  refine eq_of_on ?_
  unfold u_check_number
  refine wp_mkD rfl ?_
  repeat bv_omega
  refine on_some (isint_ok _ _ _ _) ?_
  rw [decide_eq_true h0, decide_eq_true h1]
  repeat bv_omega
  exact ⟨rfl, rfl⟩

theorem nm_cons {x : Str} (h : Nm x) : ∃ c cs, x.cps.toList = c :: cs ∧ c ∈ cL ∧ (∀ d ∈ c :: cs, d ∈ cL ++ cD) ∧ x.length ≤ 8 := by
  obtain ⟨c, cs, e, h1, h2, h3⟩ := h
  refine ⟨c, cs, e, h1, fun d hd => ?_, by rw [len_cps, e]; simp; omega⟩
  rcases List.mem_cons.mp hd with rfl | hd
  · exact List.mem_append_left _ h1
  · exact h2 d hd
theorem isname_ok {x : Str} (s : S) (h : Nm x) : u_is_name [.str x] s = some (.bl true, s) := by
  obtain ⟨c, cs, e, h1, h2, h3⟩ := nm_cons h
  have l1 : 1 ≤ (x.length : Int) := by rw [len_cps, e]; simp; omega
  have l2 : (x.length : Int) ≤ 8 := by omega
  refine eq_of_on ?_
  unfold u_is_name
  refine wp_mkD rfl ?_
  repeat bv_omega
  rw [decide_eq_true l1, decide_eq_true l2]
  repeat bv_omega
  refine wp_ixS (c := c) (by rw [e]; rfl) (by omega) (by omega) ?_
  repeat bv_omega
  rw [sL_cps, decide_eq_true h1]
  repeat bv_omega
  unfold chD
  refine wp_lcM (fun c => D.str ⟨#[c]⟩) D.bl (fun d => decide (d ∈ (sL ++ sD).cps.toList)) _ (fun d hd => ?_) ?_
  · repeat bv_omega
    exact ⟨rfl, rfl⟩
  · refine wp_sz (by simp only [List.length_map]; rw [← len_cps]; omega) ?_
    repeat bv_omega
    have : (List.map (fun d => decide (d ∈ (sL ++ sD).cps.toList)) x.cps.toList).all id = true := by
      rw [List.all_map, List.all_eq_true]
      intro d hd
      rw [e] at hd
      simpa [sLD_cps] using h2 d hd
    rw [this]
    exact ⟨rfl, rfl⟩
theorem zip_tail_lt : ∀ {ms : List Int}, ms.Pairwise (· < ·) → ∀ p ∈ ms.zip (ms.drop 1), p.1 < p.2
  | [], _, p, hp => by simp at hp
  | [a], _, p, hp => by simp at hp
  | a :: b :: r, h, p, hp => by
    have h2 := List.pairwise_cons.mp h
    simp only [List.drop_succ_cons, List.drop_zero, List.zip_cons_cons] at hp
    rcases List.mem_cons.mp hp with rfl | hp
    · exact h2.1 b (by simp)
    · exact zip_tail_lt (ms := b :: r) h2.2 p (by simpa using hp)
theorem zipD_map (xs ys : List Int) : zipD (xs.map D.int) (ys.map D.int) = (xs.zip ys).map fun p => D.tup [.int p.1, .int p.2] := by
  unfold zipD
  rw [List.zip_map, List.map_map]
  rfl
theorem points_ok {ms : List Int} {z : Int} (s : S) (h : ms ≠ []) (hl : ms.length ≤ 16) (hz : ∀ m ∈ ms, 0 ≤ m ∧ m < z) (up : ms.Pairwise (· < ·)) : u_are_points [.tup (ms.map .int), .int z, .int 16] s = some (.bl true, s) := by
  have l0 := List.length_pos_iff.mpr h
  have l1 : 1 ≤ (((ms.map D.int).length : Nat) : Int) := by rw [List.length_map]; omega
  have l2 : (((ms.map D.int).length : Nat) : Int) ≤ 16 := by rw [List.length_map]; omega
  refine eq_of_on ?_
  unfold u_are_points
  refine wp_mkD rfl ?_
  repeat bv_omega
  rw [decide_eq_true l1, decide_eq_true l2]
  repeat bv_omega
  refine wp_lcM D.int D.bl (fun m => decide (0 ≤ m) && decide (m ≤ z - 1)) ms (fun m hm => ?_) ?_
  · repeat bv_omega
    refine on_some (isint_ok _ _ _ _) ?_
    exact ⟨rfl, rfl⟩
  · refine wp_sz (by simp; omega) ?_
    repeat bv_omega
    have : (List.map (fun m => decide (0 ≤ m) && decide (m ≤ z - 1)) ms).all id = true := by
      rw [List.all_map, List.all_eq_true]
      intro m hm
      have := hz m hm
      simp
      omega
    rw [this]
    repeat bv_omega
    rw [show (some (1 : Int)) = some ((1 : Nat) : Int) from rfl, cutL_drop, ← List.map_drop, zipD_map]
    refine wp_lcM (fun p : Int × Int => D.tup [.int p.1, .int p.2]) D.bl (fun p => decide (p.1 < p.2)) _ (fun p hp => ?_) ?_
    · repeat bv_omega
      exact ⟨rfl, rfl⟩
    · refine wp_sz (by simp; omega) ?_
      repeat bv_omega
      have : (List.map (fun p : Int × Int => decide (p.1 < p.2)) (ms.zip (ms.drop 1))).all id = true := by
        rw [List.all_map, List.all_eq_true]
        intro p hp
        simpa using zip_tail_lt up p hp
      rw [this]
      exact ⟨rfl, rfl⟩

theorem hsok_left {z : Int} {k : Nat} {xs ys : List Host} (H : HsOk z k (xs ++ ys)) : HsOk z k xs where
  nd := by have := H.nd; rw [List.map_append] at this; exact (List.nodup_append.mp this).1
  nm := fun h hh => H.nm h (List.mem_append_left _ hh)
  ne := fun h hh => H.ne h (List.mem_append_left _ hh)
  up := fun h hh => H.up h (List.mem_append_left _ hh)
  inz := fun h hh => H.inz h (List.mem_append_left _ hh)
  apart := by have := H.apart; rw [List.flatMap_append] at this; exact (List.nodup_append.mp this).1
theorem nodup_inl {l : List Int} (h : l.Nodup) : (l.map (Sum.inl : Int → Key)).Nodup := by
  rw [List.nodup_iff_pairwise_ne, List.pairwise_map]
  exact (List.nodup_iff_pairwise_ne.mp h).imp fun hne e => hne (Sum.inl.inj e)
theorem nodup_inr {l : List Str} (h : l.Nodup) : (l.map (Sum.inr : Str → Key)).Nodup := by
  rw [List.nodup_iff_pairwise_ne, List.pairwise_map]
  exact (List.nodup_iff_pairwise_ne.mp h).imp fun hne e => hne (Sum.inr.inj e)
theorem fm_len {k : Nat} : ∀ {xs : List Host}, (∀ h ∈ xs, h.ms.length ≤ k) → (xs.flatMap (·.ms)).length ≤ xs.length * k
  | [], _ => by simp
  | x :: xs, h => by
    have ih := fm_len (xs := xs) fun y hy => h y (by simp [hy])
    have := h x (by simp)
    rw [List.flatMap_cons, List.length_append, List.length_cons, Nat.succ_mul]
    omega
/-- a host beside those ahead of it -/
theorem ishost_ok {z : Int} {k : Nat} {ah : List Host} {h : Host} (s : S) (H : HsOk z k (ah ++ [h])) (hk : k ≤ 16) (hl : ah.length ≤ 12) : u_is_host [h.D, .int z, .tup (ah.map Host.D)] s = some (.bl true, s) := by
  have A := hsok_left H
  have n1 := H.nm h (by simp)
  have n2 := H.ne h (by simp)
  have n3 := H.up h (by simp)
  have n4 := H.inz h (by simp)
  have n5 : h.nm ∉ ah.map (·.nm) := by
    have := H.nd
    rw [List.map_append] at this
    exact fun e => (List.nodup_append.mp this).2.2 _ e _ (by simp) rfl
  have n6 : ∀ m ∈ h.ms, m ∉ ah.flatMap (·.ms) := fun m hm e => by
    have := H.apart
    rw [List.flatMap_append] at this
    exact (List.nodup_append.mp this).2.2 _ e _ (by simpa using hm) rfl
  have lf : (ah.flatMap Host.ms).length ≤ ah.length * 16 := fm_len (xs := ah) (k := 16) fun x hx => by have := (A.ne x hx).2; omega
  refine eq_of_on ?_
  unfold u_is_host
  refine wp_mkD rfl ?_
  unfold Host.D
  repeat bv_omega
  repeat bv_omega
  refine on_some (isname_ok _ n1.1) ?_
  repeat bv_omega
  repeat bv_omega
  refine on_some (isname_ok _ n1.2) ?_
  repeat bv_omega
  refine wp_lcM Host.D D.str Host.nm ah (fun x hx => ?_) ?_
  · repeat bv_omega
    exact ⟨rfl, rfl⟩
  · repeat bv_omega
    rw [decide_eq_false n5]
    repeat bv_omega
    refine on_some (points_ok _ n2.1 (by omega) n4 n3) ?_
    repeat bv_omega
    refine wp_dc2M Host.D D.int Host.ms (fun _ m => Sum.inl m) (fun _ _ => D.bl true) ah (fun x hx => ?_) ?_ ?_ ?_
    · repeat bv_omega
      repeat bv_omega
      refine ⟨rfl, rfl, fun m hm => ?_⟩
      repeat bv_omega
      refine ⟨rfl, rfl, ?_⟩
      repeat bv_omega
      exact ⟨rfl, rfl⟩
    · have := nodup_inl A.apart
      rw [List.map_flatMap] at this
      exact this
    · rw [← List.map_flatMap, List.length_map]
      omega
    · repeat bv_omega
      refine wp_lcM D.int D.bl (fun m => false) h.ms (fun m hm => ?_) ?_
      · repeat bv_omega
        refine ⟨?_, rfl⟩
        have e : (ah.flatMap fun x => x.ms.map fun y => ((Sum.inl y : Key), D.bl true)) = (ah.flatMap Host.ms).map fun y => (Sum.inl y, D.bl true) := by rw [List.map_flatMap]
        rw [e]
        dsimp only
        rw [lookD_map]
        congr 1
        rw [List.any_eq_false]
        intro y hy q
        exact n6 m hm (by rw [← Sum.inl.inj (of_decide_eq_true q)]; exact hy)
      · repeat bv_omega
        have e : (List.map (fun _ : Int => false) h.ms).any id = false := by
          rw [List.any_map, List.any_eq_false]
          simp
        rw [e]
        exact ⟨rfl, rfl⟩

theorem enumD_get {ds : List D} {j : Nat} {d : D} (h : (enumD ds)[j]? = some d) : ∃ x, ds[j]? = some x ∧ d = .tup [.int j, x] := by
  have hj : j < ds.length := by
    have := (List.getElem?_eq_some_iff.mp h).1
    simpa [enumD] using this
  refine ⟨ds[j], List.getElem?_eq_getElem hj, ?_⟩
  simp [enumD, hj] at h
  exact h.symm
theorem split_at {α : Type} {xs : List α} {j : Nat} {x : α} (h : xs[j]? = some x) : ∃ ys, xs = (xs.take j ++ [x]) ++ ys := by
  refine ⟨xs.drop (j + 1), ?_⟩
  have hj := (List.getElem?_eq_some_iff.mp h).1
  have hx : xs[j] = x := by rw [List.getElem?_eq_getElem hj] at h; exact Option.some.inj h
  rw [← hx, List.take_append_getElem, List.take_append_drop]
/-- the hosts are looked at -/
theorem chkhosts_ok {z : Int} {k : Nat} {hs : List Host} (s : S) (H : HsOk z k hs) (hk : k ≤ 16) (h0 : 1 ≤ hs.length) (h1 : hs.length ≤ 12) : u_check_hosts [crewD hs, .int z] s = some (.non, s) := by
  refine eq_of_on ?_
  unfold u_check_hosts crewD
  refine wp_mkD rfl ?_
  repeat bv_omega
  rw [decide_eq_false (by rw [List.length_map]; omega)]
  repeat bv_omega
  refine wp_forI (fun i e s1 => s1 = s ∧ ∃ a b, e = [.val (.tup (hs.map Host.D)), .val (.int z), a, b]) ⟨rfl, _, _, rfl⟩ (fun j e s1 d hd hI => ?_) (fun e s1 hI => ⟨rfl, hI.1⟩)
  obtain ⟨rfl, a, b, rfl⟩ := hI
  obtain ⟨x, hx, rfl⟩ := enumD_get hd
  rw [List.getElem?_map] at hx
  obtain ⟨h, hx2, rfl⟩ := Option.map_eq_some_iff.mp hx
  have hj := (List.getElem?_eq_some_iff.mp hx2).1
  repeat bv_omega
  rw [decide_eq_false (by omega)]
  repeat bv_omega
  rw [cutL_take, ← List.map_take]
  obtain ⟨ys, hy⟩ := split_at hx2
  rw [hy] at H
  refine on_some (ishost_ok _ (hsok_left H) hk (by simp; omega)) ?_
  repeat bv_omega
  exact ⟨rfl, _, _, rfl⟩

def markD (p : Int × Str) : D := .tup [.int p.1, .str p.2]
def pairsOf (hs : List Host) : List (Int × Str) := hs.flatMap fun h => h.ms.map fun m => (m, h.nm)
def racksD (hs : List Host) : D := .dic (hs.map fun h => (.inr h.nm, .str h.rk))
def ringF (f : Frame) : List (Str × D) := [("numbers", .tup [.int f.z, .int f.w, .int f.a, .int f.b]), ("words", .tup [.str f.x, .str f.y]), ("held_hosts", crewD f.hs), ("racks", racksD f.hs), ("marks", .lst (sortL ((pairsOf f.hs).map markD)))]
def ringD (f : Frame) : D := .obj "Ring" (ringF f)
theorem same_marks : ∀ ps : List (Int × Str), sameK (ps.map markD) = true
  | [] => rfl
  | p :: ps => by
    simp only [List.map_cons, markD, sameK]
    have : kD (.tup [.int p.1, .str p.2]) = some [0, 1] := rfl
    rw [this]
    show ((List.map markD ps).all fun e => decide (kD e = some [0, 1])) = true
    rw [List.all_map, List.all_eq_true]
    intro q hq
    rfl
theorem init_ok {f : Frame} (s : S) (F : FrOk 12 16 f) : u_Ring___init__ [.int f.z, .int f.w, .str f.x, .int f.a, .int f.b, .str f.y, crewD f.hs] s = some (ringF f, s) := by
  have hl := F.h1
  have lf : (f.hs.flatMap Host.ms).length ≤ f.hs.length * 16 := fm_len (xs := f.hs) (k := 16) fun x hx => (F.hs.ne x hx).2
  refine eq_of_on ?_
  unfold u_Ring___init__
  refine wp_mkI rfl ?_
  repeat bv_omega
  refine on_some (chk_ok _ F.z0 F.z1) ?_
  repeat bv_omega
  refine on_some (chk_ok _ F.w0 F.w1) ?_
  repeat bv_omega
  rw [decide_eq_true F.x]
  refine ⟨rfl, ?_⟩
  repeat bv_omega
  refine on_some (chk_ok _ F.a0 F.a1) ?_
  repeat bv_omega
  refine on_some (chk_ok _ F.b0 F.b1) ?_
  repeat bv_omega
  rw [decide_eq_true F.y]
  refine ⟨rfl, ?_⟩
  repeat bv_omega
  refine on_some (chkhosts_ok _ F.hs (by omega) F.h0 F.h1) ?_
  repeat bv_omega
  unfold crewD
  repeat bv_omega
  refine wp_dcM Host.D (fun h => Sum.inr h.nm) (fun h => D.str h.rk) f.hs (fun h hh => ?_) ?_ (by omega) ?_
  · unfold Host.D
    repeat bv_omega
    refine ⟨rfl, rfl, ?_⟩
    repeat bv_omega
    exact ⟨rfl, rfl⟩
  · have := nodup_inr F.hs.nd
    rw [List.map_map] at this
    exact this
  · repeat bv_omega
    refine wp_lc2M Host.D D.int markD Host.ms (fun h m => (m, h.nm)) f.hs (fun h hh => ?_) ?_
    · unfold Host.D
      repeat bv_omega
      refine ⟨rfl, rfl, fun m hm => ?_⟩
      repeat bv_omega
      exact ⟨rfl, rfl⟩
    · refine wp_sz (by rw [List.length_map]; have e : (f.hs.flatMap fun x => x.ms.map fun y => (y, x.nm)).length = (f.hs.flatMap Host.ms).length := by simp [List.length_flatMap]
                       rw [e]; omega) ?_
      repeat bv_omega
      refine on1_some (by unfold sortedD; exact if_pos (same_marks _)) ?_
      repeat bv_omega
      exact ⟨rfl, rfl⟩
end C
end Z

namespace Z
namespace C
open PySem PySem.Spec PyProof.Rows L2
/-! ### numbers as texts -/
abbrev numS (i : Int) : Str := ((toString i : String) : Str)
theorem numS_cps {i : Int} (h : 0 ≤ i) : (numS i).cps.toList = TL.numL i.toNat := by
  have e : i = ((i.toNat : Nat) : Int) := by omega
  rw [e]
  exact TL.tl_num _
example (i : Int) : strD [.int i] = (if i.natAbs.log2 < 1920 then some (.str (numS i)) else none) := rfl
theorem numL_head : ∀ n : Nat, 0 < n → ∃ c cs, TL.numL n = c :: cs ∧ 49 ≤ c ∧ c ≤ 57 := by
  intro n
  induction n using Nat.strongRecOn with
  | _ n ih =>
    intro h
    by_cases h10 : n < 10
    · exact ⟨48 + n, [], TL.numL_lt h10, by omega, by omega⟩
    · obtain ⟨c, cs, e, h1, h2⟩ := ih (n / 10) (by omega) (by omega)
      exact ⟨c, cs ++ [48 + n % 10], by rw [TL.numL_step (by omega), e]; rfl, h1, h2⟩
theorem numS_len {i : Int} (h : 0 ≤ i) (h1 : i ≤ 1000000000000000000) : 1 ≤ (numS i).length ∧ (numS i).length ≤ 19 := by
  rw [len_cps, numS_cps h]
  refine ⟨List.length_pos_iff.mpr (TL.numL_ne _), TL.numL_len (by omega) (by omega)⟩
theorem numS_digit {i : Int} (h : 0 ≤ i) : ∀ c ∈ (numS i).cps.toList, 48 ≤ c ∧ c ≤ 57 := by
  rw [numS_cps h]
  exact TL.numL_digits _
theorem numS_free {i : Int} (h : 0 ≤ i) {c : Nat} (hc : c < 48 ∨ 57 < c) : c ∉ (numS i).cps.toList := fun e => by
  have := numS_digit h c e
  omega
theorem log_small {i : Int} (h : i.natAbs ≤ 1000000000000000000) : i.natAbs.log2 < 1920 := by
  have := log_le (x := i) (k := 100) (by omega)
  omega
theorem str_num {Q : D → Prop} {i : Int} (h : i.natAbs ≤ 1000000000000000000) (q : Q (.str (numS i))) : On1 (strD [.int i]) Q := ⟨_, by unfold strD; exact if_pos (log_small h), q⟩
theorem wp_intS {Q : D → Prop} {x : Str} {i : Int} (h : x.length ≤ 640) (h2 : PySem.intText? x = some i) (q : Q (.int i)) : On1 (intD [.str x]) Q := ⟨_, by simp [intD, h, h2], q⟩
theorem int_num {i : Int} (h : 0 ≤ i) (h1 : i ≤ 1000000000000000000) : PySem.intText? (numS i) = some i := by
  have e : i = ((i.toNat : Nat) : Int) := by omega
  rw [e]
  exact TL.int_num (Nat.le_trans (TL.numL_len (k := 19) (by omega) (by omega)) (by omega))
/-- the number that a text tells -/
theorem written_ok {i : Int} (s : S) (h : 0 ≤ i) (h1 : i ≤ 1000000000000000000) : u_written [.str (numS i)] s = some (.int i, s) := by
  obtain ⟨l0, l1⟩ := numS_len h h1
  have l2 : 1 ≤ (((numS i).length : Nat) : Int) := by omega
  have l3 : (((numS i).length : Nat) : Int) ≤ 19 := by omega
  obtain ⟨c, cs, e⟩ : ∃ c cs, (numS i).cps.toList = c :: cs := by
    cases q : (numS i).cps.toList with
    | nil => rw [len_cps, q] at l0; simp at l0
    | cons c cs => exact ⟨c, cs, rfl⟩
  refine eq_of_on ?_
  unfold u_written
  refine wp_mkD rfl ?_
  repeat bv_omega
  rw [decide_eq_true l2, decide_eq_true l3]
  repeat bv_omega
  unfold chD
  refine wp_lcM (fun c => D.str ⟨#[c]⟩) D.bl (fun d => decide (d ∈ sD.cps.toList)) _ (fun d hd => ?_) ?_
  · repeat bv_omega
    exact ⟨rfl, rfl⟩
  · refine wp_sz (by simp only [List.length_map]; rw [← len_cps]; omega) ?_
    repeat bv_omega
    have : (List.map (fun d => decide (d ∈ sD.cps.toList)) (numS i).cps.toList).all id = true := by
      rw [List.all_map, List.all_eq_true]
      intro d hd
      have := numS_digit h d hd
      rw [sD_cps]
      have k : d ∈ cD := by
        have all : ∀ d, 48 ≤ d → d ≤ 57 → d ∈ cD := by
          intro d h1 h2
          have : d = 48 ∨ d = 49 ∨ d = 50 ∨ d = 51 ∨ d = 52 ∨ d = 53 ∨ d = 54 ∨ d = 55 ∨ d = 56 ∨ d = 57 := by omega
          rcases this with rfl | rfl | rfl | rfl | rfl | rfl | rfl | rfl | rfl | rfl <;> decide
        exact all d this.1 this.2
      simpa using k
    rw [this]
    repeat bv_omega
    refine wp_ixS (c := c) (by rw [e]; rfl) (by omega) (by omega) ?_
    repeat bv_omega
    by_cases hi : 0 < i
    · obtain ⟨c', cs', e', h2, h3⟩ := numL_head i.toNat (by omega)
      rw [numS_cps h, e'] at e
      have hc : c' = c := (List.cons.inj e).1
      have ne : ¬ (⟨#[c]⟩ : Str) = Str.ofString "0" := fun z => by
        have z1 := congrArg (fun x : Str => x.cps.toList) z
        have z2 : (Str.ofString "0").cps.toList = [48] := by decide +kernel
        simp only [z2] at z1
        have : c = 48 := by simpa using z1
        omega
      rw [decide_eq_false ne]
      repeat bv_omega
      exact wp_intS (by omega) (int_num h h1) (cut_end zhP ⟨rfl, rfl⟩)
    · obtain rfl : i = 0 := by omega
      have hl : (numS 0).length = 1 := by decide +kernel
      have h0 : (⟨#[c]⟩ : Str) = Str.ofString "0" := by
        have : (numS 0).cps.toList = [48] := by decide +kernel
        rw [this] at e
        rw [← (List.cons.inj e).1]
        rfl
      rw [decide_eq_true h0]
      repeat bv_omega
      exact wp_intS (by omega) (int_num h h1) (cut_end zhP ⟨rfl, rfl⟩)
end C
end Z

namespace Z
namespace C
open PySem PySem.Spec PyProof.Rows L2
/-! ### texts of rings -/
def rowOf (h : Host) : Str := Txt.join " " ([("host" : Str), h.nm, h.rk] ++ h.ms.map numS)
def headOf (f : Frame) : Str := Txt.join " " ["ring", numS f.z, numS f.w, f.x, numS f.a, numS f.b, f.y]
def textOf (f : Frame) : Str := Txt.join "\n" (headOf f :: f.hs.map rowOf)
theorem toSs_map : ∀ ys : List Str, toSs (ys.map .str) = some ys
  | [] => rfl
  | y :: ys => by simp [toSs, toSs_map ys]
theorem wp_join {Q : D → Prop} {z : Str} {ys : List Str} (h : (ys.map (·.length)).sum + ys.length * z.length ≤ 16777216) (q : Q (.str (Txt.join z ys))) : On1 (joinD (.str z) (.lst (ys.map .str))) Q :=
  ⟨_, by simp only [joinD, toSs_map, Option.bind_some, h, if_true], q⟩
theorem wp_join' {Q : D → Prop} {z : Str} {ys : List Str} {ds : List D} (hd : ds = ys.map .str) (h : (ys.map (·.length)).sum + ys.length * z.length ≤ 16777216) (q : Q (.str (Txt.join z ys))) : On1 (joinD (.str z) (.lst ds)) Q := by
  subst hd; exact wp_join h q
theorem sum_le {k : Nat} : ∀ {ys : List Str}, (∀ y ∈ ys, y.length ≤ k) → (ys.map (·.length)).sum ≤ ys.length * k
  | [], _ => by simp
  | y :: ys, h => by
    have h1 := h y (by simp)
    have h2 := sum_le (ys := ys) fun z hz => h z (by simp [hz])
    simp only [List.map_cons, List.sum_cons, List.length_cons, Nat.succ_mul]
    omega
theorem join_len {k : Nat} {z : Str} {ys : List Str} (h : ∀ y ∈ ys, y.length ≤ k) : (Txt.join z ys).length ≤ ys.length * k + ys.length * z.length := by
  rw [TL.join_eq]
  exact Nat.le_trans (PySem.StrLaws.join_length_le z ys) (Nat.add_le_add_right (sum_le h) _)
theorem mem_joinL {S : List Nat} {c : Nat} : ∀ {ps : List (List Nat)}, c ∈ TL.joinL S ps → c ∈ S ∨ ∃ p ∈ ps, c ∈ p
  | [], h => by simp [TL.joinL] at h
  | [p], h => .inr ⟨p, by simp, h⟩
  | p :: q :: r, h => by
    have h : c ∈ p ++ (S ++ TL.joinL S (q :: r)) := h
    rcases List.mem_append.mp h with h | h
    · exact .inr ⟨p, by simp, h⟩
    · rcases List.mem_append.mp h with h | h
      · exact .inl h
      · rcases mem_joinL h with h | ⟨x, hx, hc⟩
        · exact .inl h
        · exact .inr ⟨x, by simp [List.mem_cons.mp hx], hc⟩
theorem mem_join {z : Str} {c : Nat} {ps : List Str} (h : c ∈ (Txt.join z ps).cps.toList) : c ∈ z.cps.toList ∨ ∃ p ∈ ps, c ∈ p.cps.toList := by
  rw [TL.join_eq] at h
  have h : c ∈ TL.tl (Str.join z ps) := h
  rw [TL.tl_join] at h
  rcases mem_joinL h with h | ⟨x, hx, hc⟩
  · exact .inl h
  · obtain ⟨p, hp, rfl⟩ := List.mem_map.mp hx
    exact .inr ⟨p, hp, hc⟩
theorem sp_cps : (" " : Str).cps.toList = [32] := by decide +kernel
theorem nl_cps : ("\n" : Str).cps.toList = [10] := by decide +kernel
theorem sp_len : (" " : Str).length = 1 := by decide +kernel
theorem nl_len : ("\n" : Str).length = 1 := by decide +kernel
theorem split_sp {ps : List Str} (hne : ps ≠ []) (hp : ∀ p ∈ ps, 32 ∉ p.cps.toList) : Txt.split (Txt.join " " ps) " " = ps :=
  TL.split_join (s := 32) (S := []) sp_cps (by decide +kernel) hne hp
theorem split_nl {ps : List Str} (hne : ps ≠ []) (hp : ∀ p ∈ ps, 10 ∉ p.cps.toList) : Txt.split (Txt.join "\n" ps) "\n" = ps :=
  TL.split_join (s := 10) (S := []) nl_cps (by decide +kernel) hne hp
theorem nm_free {x : Str} (h : Nm x) {c : Nat} (hc : c < 48) : c ∉ x.cps.toList := fun e => by
  obtain ⟨a, cs, q, h1, h2, h3⟩ := nm_cons h
  rw [q] at e
  have all : ∀ d ∈ cL ++ cD, 48 ≤ d := by decide
  have := all c (h2 c e)
  omega
/-- what a row's words are like -/
theorem row_words {h : Host} {z : Int} (h1 : Nm h.nm ∧ Nm h.rk) (h2 : ∀ m ∈ h.ms, 0 ≤ m ∧ m < z) (hz : z ≤ 1000000000000000000) : ∀ p ∈ ([("host" : Str), h.nm, h.rk] ++ h.ms.map numS), p.length ≤ 19 ∧ ∀ c, c < 48 → c ∉ p.cps.toList := by
  intro p hp
  rcases List.mem_append.mp hp with hp | hp
  · simp only [List.mem_cons, List.mem_nil_iff, or_false] at hp
    rcases hp with rfl | rfl | rfl
    · have e : (Str.ofString "host").cps.toList = [104, 111, 115, 116] := by decide +kernel
      refine ⟨by rw [len_cps, e]; simp, fun c hc => ?_⟩
      rw [e]; simp; omega
    · exact ⟨by have := (nm_len h1.1).2; omega, fun c hc => nm_free h1.1 hc⟩
    · exact ⟨by have := (nm_len h1.2).2; omega, fun c hc => nm_free h1.2 hc⟩
  · obtain ⟨m, hm, rfl⟩ := List.mem_map.mp hp
    have := h2 m hm
    exact ⟨(numS_len this.1 (by omega)).2, fun c hc => numS_free this.1 (.inl hc)⟩
theorem head_words {f : Frame} {M E : Nat} (F : FrOk M E f) : ∀ p ∈ (["ring", numS f.z, numS f.w, f.x, numS f.a, numS f.b, f.y] : List Str), p.length ≤ 19 ∧ ∀ c, c < 48 → c ∉ p.cps.toList := by
  have h1 := F.z0; have h2 := F.z1; have h3 := F.w0; have h4 := F.w1; have h5 := F.a0; have h6 := F.a1; have h7 := F.b0; have h8 := F.b1
  have num : ∀ i : Int, 0 ≤ i → i ≤ 1000000000000000000 → (numS i).length ≤ 19 ∧ ∀ c, c < 48 → c ∉ (numS i).cps.toList := fun i h0 h1 => ⟨(numS_len h0 h1).2, fun c hc => numS_free h0 (.inl hc)⟩
  have wd : ∀ x ∈ (["ring", "hosts", "racks", "plain", "with"] : List Str), Nm x := by decide +kernel
  have nm : ∀ x : Str, Nm x → x.length ≤ 19 ∧ ∀ c, c < 48 → c ∉ x.cps.toList := fun x h => ⟨by have := (nm_len h).2; omega, fun c hc => nm_free h hc⟩
  intro p hp
  simp only [List.mem_cons, List.mem_nil_iff, or_false] at hp
  rcases hp with rfl | rfl | rfl | rfl | rfl | rfl | rfl
  · exact nm _ (wd _ (by simp))
  · exact num _ (by omega) (by omega)
  · exact num _ (by omega) (by omega)
  · refine nm _ (wd _ ?_)
    have := F.x
    simp only [List.mem_cons, List.mem_nil_iff, or_false] at this ⊢
    rcases this with h | h <;> simp [h]
  · exact num _ (by omega) (by omega)
  · exact num _ (by omega) (by omega)
  · refine nm _ (wd _ ?_)
    have := F.y
    simp only [List.mem_cons, List.mem_nil_iff, or_false] at this ⊢
    rcases this with h | h <;> simp [h]
theorem row_len {h : Host} {z : Int} (h1 : Nm h.nm ∧ Nm h.rk) (h2 : ∀ m ∈ h.ms, 0 ≤ m ∧ m < z) (hz : z ≤ 1000000000000000000) (hl : h.ms.length ≤ 16) : (rowOf h).length ≤ 400 := by
  have := join_len (z := " ") (k := 19) (ys := [("host" : Str), h.nm, h.rk] ++ h.ms.map numS) fun y hy => (row_words h1 h2 hz y hy).1
  rw [sp_len] at this
  unfold rowOf
  simp at this
  simp
  omega
theorem head_len {f : Frame} {M E : Nat} (F : FrOk M E f) : (headOf f).length ≤ 200 := by
  have := join_len (z := " ") (k := 19) (ys := ["ring", numS f.z, numS f.w, f.x, numS f.a, numS f.b, f.y]) fun y hy => (head_words F y hy).1
  rw [sp_len] at this
  unfold headOf
  simp at this
  simp
  omega
theorem rows_free {f : Frame} (F : FrOk 12 16 f) : ∀ p ∈ (headOf f :: f.hs.map rowOf), p.length ≤ 400 ∧ 10 ∉ p.cps.toList := by
  intro p hp
  rcases List.mem_cons.mp hp with rfl | hp
  · refine ⟨by have := head_len F; omega, fun e => ?_⟩
    rcases mem_join e with h | ⟨q, hq, hc⟩
    · rw [sp_cps] at h; simp at h
    · exact (head_words F q hq).2 10 (by omega) hc
  · obtain ⟨h, hh, rfl⟩ := List.mem_map.mp hp
    have n1 := F.hs.nm h hh
    have n2 := F.hs.inz h hh
    refine ⟨row_len n1 n2 F.z1 (F.hs.ne h hh).2, fun e => ?_⟩
    rcases mem_join e with h' | ⟨q, hq, hc⟩
    · rw [sp_cps] at h'; simp at h'
    · exact (row_words n1 n2 F.z1 q hq).2 10 (by omega) hc
theorem text_len {f : Frame} (F : FrOk 12 16 f) : (textOf f).length ≤ 6000 := by
  have := join_len (z := "\n") (k := 400) (ys := headOf f :: f.hs.map rowOf) fun y hy => (rows_free F y hy).1
  have h1 := F.h1
  rw [nl_len] at this
  unfold textOf
  simp at this
  omega
end C
end Z

namespace Z
namespace C
open PySem PySem.Spec PyProof.Rows L2
theorem abs_small {i : Int} (h : 0 ≤ i) (h1 : i ≤ 1000000000000000000) : i.natAbs ≤ 1000000000000000000 := by omega
theorem head_join {f : Frame} {M E : Nat} (F : FrOk M E f) : ((["ring", numS f.z, numS f.w, f.x, numS f.a, numS f.b, f.y] : List Str).map (·.length)).sum + (["ring", numS f.z, numS f.w, f.x, numS f.a, numS f.b, f.y] : List Str).length * (" " : Str).length ≤ 16777216 := by
  have := sum_le (k := 19) fun y hy => (head_words F y hy).1
  rw [sp_len]
  simp at this ⊢
  omega
theorem row_join {h : Host} {z : Int} (h1 : Nm h.nm ∧ Nm h.rk) (h2 : ∀ m ∈ h.ms, 0 ≤ m ∧ m < z) (hz : z ≤ 1000000000000000000) (hl : h.ms.length ≤ 16) :
    ((([("host" : Str), h.nm, h.rk] ++ h.ms.map numS).map (·.length)).sum + ([("host" : Str), h.nm, h.rk] ++ h.ms.map numS).length * (" " : Str).length) ≤ 16777216 := by
  have := sum_le (k := 19) fun y hy => (row_words h1 h2 hz y hy).1
  rw [sp_len]
  simp at this ⊢
  omega
theorem rows_join {f : Frame} (F : FrOk 12 16 f) : ((headOf f :: f.hs.map rowOf).map (·.length)).sum + (headOf f :: f.hs.map rowOf).length * ("\n" : Str).length ≤ 16777216 := by
  have := sum_le (k := 400) fun y hy => (rows_free F y hy).1
  have h1 := F.h1
  rw [nl_len]
  simp at this ⊢
  omega
/-- the law's own text of a ring -/
theorem sheet_ok {f : Frame} (s : S) (F : FrOk 12 16 f) : u__law_sheet [f.D] s = some (.str (textOf f), s) := by
  have b1 := F.z0; have b2 := F.z1; have b3 := F.w0; have b4 := F.w1; have b5 := F.a0; have b6 := F.a1; have b7 := F.b0; have b8 := F.b1
  have hl := F.h1
  refine eq_of_on ?_
  unfold u__law_sheet
  refine wp_mkD rfl ?_
  unfold Frame.D crewD
  repeat bv_omega
  refine str_num (abs_small (by omega) (by omega)) ?_
  repeat bv_omega
  refine str_num (abs_small (by omega) (by omega)) ?_
  repeat bv_omega
  refine str_num (abs_small (by omega) (by omega)) ?_
  repeat bv_omega
  refine str_num (abs_small (by omega) (by omega)) ?_
  repeat bv_omega
  refine wp_join' (ys := ["ring", numS f.z, numS f.w, f.x, numS f.a, numS f.b, f.y]) rfl (head_join F) ?_
  repeat bv_omega
  refine wp_forI (fun i e s1 => s1 = s ∧ ∃ a b c d, e = [.val f.D, .val (.int f.z), .val (.int f.w), .val (.str f.x), .val (.int f.a), .val (.int f.b), .val (.str f.y), .val (crewD f.hs), .own (.lst ((headOf f :: (f.hs.take i).map rowOf).map .str)), a, b, c, d])
    ⟨rfl, _, _, _, _, rfl⟩ (fun j e s1 d hd hI => ?_) (fun e s1 hI => ?_)
  · obtain ⟨rfl, a, b, c, d', rfl⟩ := hI
    rw [List.getElem?_map] at hd
    obtain ⟨h, hx, rfl⟩ := Option.map_eq_some_iff.mp hd
    have hj := (List.getElem?_eq_some_iff.mp hx).1
    have hh := List.mem_of_getElem? hx
    unfold Host.D
    repeat bv_omega
    refine wp_lcM D.int D.str numS h.ms (fun m hm => ?_) ?_
    · repeat bv_omega
      have := F.hs.inz h hh m hm
      refine str_num (abs_small (by omega) (by omega)) ?_
      exact ⟨rfl, rfl⟩
    · have := (F.hs.ne h hh).2
      refine wp_sz (by simp; omega) ?_
      refine wp_addL (by simp; omega) ?_
      refine wp_join' (ys := [("host" : Str), h.nm, h.rk] ++ h.ms.map numS) (by simp) (row_join (F.hs.nm h hh) (F.hs.inz h hh) F.z1 this) ?_
      refine wp_szl (by simp; omega) ?_
      refine ⟨rfl, .val (.str h.nm), .val (.str h.rk), .val (.tup (h.ms.map .int)), d', ?_⟩
      rw [List.take_succ, hx]
      simp [rowOf]
  · obtain ⟨rfl, a, b, c, d', rfl⟩ := hI
    rw [List.length_map, List.take_length]
    repeat bv_omega
    refine wp_join (rows_join F) ?_
    exact cut_end zhP ⟨rfl, rfl⟩

theorem spread_ok (f : Frame) (s : S) : u_Ring_spread [ringD f] s = some (.str f.x, s) := rfl
theorem pend_ok (f : Frame) (s : S) : u_Ring_pending [ringD f] s = some (.str f.y, s) := rfl
/-- str(ring) -/
theorem str_ok {f : Frame} (s : S) (F : FrOk 12 16 f) : u_Ring___str__ [ringD f] s = some (.str (textOf f), s) := by
  have b1 := F.z0; have b2 := F.z1; have b3 := F.w0; have b4 := F.w1; have b5 := F.a0; have b6 := F.a1; have b7 := F.b0; have b8 := F.b1
  have hl := F.h1
  refine eq_of_on ?_
  unfold u_Ring___str__
  refine wp_mkD rfl ?_
  have sp := spread_ok f s
  have pe := pend_ok f s
  unfold ringD ringF crewD at *
  repeat bv_omega
  refine str_num (abs_small (by omega) (by omega)) ?_
  repeat bv_omega
  refine str_num (abs_small (by omega) (by omega)) ?_
  repeat bv_omega
  refine on_some sp ?_
  repeat bv_omega
  refine str_num (abs_small (by omega) (by omega)) ?_
  repeat bv_omega
  refine str_num (abs_small (by omega) (by omega)) ?_
  repeat bv_omega
  refine on_some pe ?_
  repeat bv_omega
  refine wp_lcM Host.D D.str rowOf f.hs (fun h hh => ?_) ?_
  · unfold Host.D
    repeat bv_omega
    refine wp_lcM D.int D.str numS h.ms (fun m hm => ?_) ?_
    · repeat bv_omega
      have := F.hs.inz h hh m hm
      refine str_num (abs_small (by omega) (by omega)) ?_
      exact ⟨rfl, rfl⟩
    · have := (F.hs.ne h hh).2
      refine wp_sz (by simp; omega) ?_
      repeat bv_omega
      refine wp_join' (ys := [("host" : Str), h.nm, h.rk] ++ h.ms.map numS) (by simp) (row_join (F.hs.nm h hh) (F.hs.inz h hh) F.z1 this) ?_
      exact ⟨rfl, rfl⟩
  · refine wp_sz (by simp; omega) ?_
    repeat bv_omega
    refine wp_join' (ys := ["ring", numS f.z, numS f.w, f.x, numS f.a, numS f.b, f.y]) rfl (head_join F) ?_
    repeat bv_omega
    refine wp_join' (ys := headOf f :: f.hs.map rowOf) (by simp [headOf]) (rows_join F) ?_
    exact cut_end zhP ⟨rfl, rfl⟩
/-- a row read -/
theorem hostof_ok {h : Host} {z : Int} (s : S) (h1 : Nm h.nm ∧ Nm h.rk) (h2 : ∀ m ∈ h.ms, 0 ≤ m ∧ m < z) (hz : z ≤ 1000000000000000000) (hl : h.ms.length ≤ 16) (h0 : h.ms ≠ []) : u_host_of [.str (rowOf h)] s = some (h.D, s) := by
  have rl := row_len h1 h2 hz hl
  have l0 := List.length_pos_iff.mpr h0
  refine eq_of_on ?_
  unfold u_host_of
  refine wp_mkD rfl ?_
  repeat bv_omega
  refine ⟨_, _, rfl, rfl, by decide +kernel, by omega, ?_⟩
  rw [rowOf, split_sp (by simp) fun p hp => (row_words h1 h2 hz p hp).2 32 (by omega)]
  repeat bv_omega
  rw [decide_eq_false (by simp; omega)]
  repeat bv_omega
  have cu : cutL (List.map D.str ([("host" : Str), h.nm, h.rk] ++ List.map numS h.ms)) (some 3) none = (h.ms.map numS).map D.str := by
    rw [show (some (3 : Int)) = some ((3 : Nat) : Int) from rfl, cutL_drop]
    rfl
  rw [cu]
  rw [List.map_map]
  refine wp_lcM (D.str ∘ numS) D.int id h.ms (fun m hm => ?_) ?_
  · repeat bv_omega
    have := h2 m hm
    refine on_some (written_ok s this.1 (by omega)) ⟨rfl, rfl⟩
  · refine wp_sz (by simp; omega) ?_
    repeat bv_omega
    rw [List.map_id]
    exact ⟨rfl, rfl⟩
end C
end Z

namespace Z
namespace C
open PySem PySem.Spec PyProof.Rows L2
theorem toP_host (h : Host) : toP h.D = some (.tuple [.str h.nm, .str h.rk, .tuple (tpI h.ms)]) := by
  simp [Host.D, toP, toPL, toPL_ints]
theorem toPL_hosts : ∀ hs : List Host, toPL (hs.map Host.D) = some (hs.map fun h => .tuple [.str h.nm, .str h.rk, .tuple (tpI h.ms)])
  | [] => by simp [toPL]
  | h :: hs => by simp [toPL, toP_host, toPL_hosts hs]
theorem lay_hosts : ∀ hs : List Host, (∀ h ∈ hs, Nm h.nm ∧ Nm h.rk) → PyData.canLayAll0 (hs.map fun h => PyData.tuple [.str h.nm, .str h.rk, .tuple (tpI h.ms)]) = true
  | [], _ => rfl
  | h :: hs, H => by
    have h1 := H h (by simp)
    simp [PyData.canLayAll0, PyData.canLay0, lay_ints, nm_ok h1.1, nm_ok h1.2, lay_hosts hs fun x hx => H x (by simp [hx])]
/-- None is no host -/
theorem none_in {hs : List Host} (H : ∀ h ∈ hs, Nm h.nm ∧ Nm h.rk) : inAD .non (.tup (hs.map Host.D)) = some (.bl false) := by
  have h1 : inB .non (.tup (hs.map Host.D)) = none ∨ inB .non (.tup (hs.map Host.D)) = some false := by
    cases hs with
    | nil => right; rfl
    | cons h hs => left; rfl
  have h2 : inDp .non (.tup (hs.map Host.D)) = some false := by
    unfold inDp
    simp only [toPL_hosts, toP]
    rw [if_pos ⟨lay_hosts hs H, rfl, by decide⟩]
    congr 1
    rw [List.any_map, List.any_eq_false]
    intro x _
    simp [PyData.eqv]
  unfold inAD inA
  rcases h1 with h1 | h1
  · rw [h1]; dsimp only; rw [h2]; rfl
  · rw [h1]; rfl
/-- a ring is read off its text -/
theorem read_ok {f : Frame} (s : S) (F : FrOk 12 16 f) : u_Ring_read [.ty "Ring", .str (textOf f)] s = some (ringD f, s) := by
  have b1 := F.z0; have b2 := F.z1; have b3 := F.w0; have b4 := F.w1; have b5 := F.a0; have b6 := F.a1; have b7 := F.b0; have b8 := F.b1
  have hl := F.h1
  have tl := text_len F
  have hdl := head_len F
  refine eq_of_on ?_
  unfold u_Ring_read
  refine wp_mkD rfl ?_
  repeat bv_omega
  refine ⟨_, _, rfl, rfl, by decide +kernel, by omega, ?_⟩
  rw [textOf, split_nl (by simp) fun p hp => (rows_free F p hp).2, List.map_cons]
  refine cut_end zhP ?_
  refine wp_gstar12 (by simp; omega) ?_
  repeat bv_omega
  refine ⟨_, _, rfl, rfl, by decide +kernel, by omega, ?_⟩
  rw [headOf, split_sp (by simp) fun p hp => (head_words F p hp).2 32 (by omega)]
  refine cut_end zhP ?_
  simp only [List.map_cons (f := D.str), List.map_nil (f := D.str)]
  repeat bv_omega
  rw [List.map_map]
  refine wp_lcM (D.str ∘ rowOf) Host.D id f.hs (fun h hh => ?_) ?_
  · repeat bv_omega
    exact on_some (hostof_ok s (F.hs.nm h hh) (F.hs.inz h hh) F.z1 (F.hs.ne h hh).2 (F.hs.ne h hh).1) ⟨rfl, rfl⟩
  · rw [List.map_id]
    refine wp_sz (by simp; omega) ?_
    repeat bv_omega
    refine on1_some (none_in F.hs.nm) ?_
    repeat bv_omega
    refine on_some (written_ok s (by omega) (by omega)) ?_
    repeat bv_omega
    refine on_some (written_ok s (by omega) (by omega)) ?_
    repeat bv_omega
    refine on_some (written_ok s (by omega) (by omega)) ?_
    repeat bv_omega
    refine on_some (written_ok s (by omega) (by omega)) ?_
    repeat bv_omega
    refine on_some (init_ok s F) ?_
    repeat bv_omega
    exact ⟨rfl, rfl⟩
end C
end Z

namespace Z
open PySem PySem.Spec PyProof.Rows L2
/-! ### what repr can write -/
def Rp (d : D) (n k : Nat) : Prop := ∃ p, toP d = some p ∧ p.showable = true ∧ p.depth ≤ k ∧ p.weight ≤ n ∧ p.leavesShort 22 = true ∧ p.hasDict = false
def RpL (ds : List D) (n k : Nat) : Prop := ∃ ps, toPL ds = some ps ∧ PyData.showableAll ps = true ∧ PyData.depthAll ps ≤ k ∧ PyData.weightAll ps ≤ n ∧ PyData.leavesShortAll 22 ps = true ∧ PyData.hasDictAll ps = false
theorem Rp.le {d : D} {n k n' k' : Nat} (h : Rp d n k) (hn : n ≤ n') (hk : k ≤ k') : Rp d n' k' := let ⟨p, h1, h2, h3, h4, h5⟩ := h; ⟨p, h1, h2, by omega, by omega, h5⟩
theorem RpL.le {d : List D} {n k n' k' : Nat} (h : RpL d n k) (hn : n ≤ n') (hk : k ≤ k') : RpL d n' k' := let ⟨p, h1, h2, h3, h4, h5⟩ := h; ⟨p, h1, h2, by omega, by omega, h5⟩
theorem rp_bl (b : Bool) : Rp (.bl b) 0 0 := ⟨.bool b, rfl, by simp [PyData.showable], by simp [PyData.depth], by simp [PyData.weight], by simp [PyData.leavesShort], by simp [PyData.hasDict]⟩
theorem rpl_nil : RpL [] 0 0 := ⟨[], rfl, by simp [PyData.showableAll], by simp [PyData.depthAll], by simp [PyData.weightAll], by simp [PyData.leavesShortAll], by simp [PyData.hasDictAll]⟩
theorem rpl_cons {d : D} {ds : List D} {n m k : Nat} (h : Rp d n k) (t : RpL ds m k) : RpL (d :: ds) (n + 1 + m) k := by
  obtain ⟨p, h1, h2, h3, h4, h5, h6⟩ := h
  obtain ⟨ps, t1, t2, t3, t4, t5, t6⟩ := t
  refine ⟨p :: ps, by simp [toPL, h1, t1], by simp [PyData.showableAll, h2, t2], ?_, ?_, by simp [PyData.leavesShortAll, h5, t5], by simp [PyData.hasDictAll, h6, t6]⟩
  · simp only [PyData.depthAll]; omega
  · simp only [PyData.weightAll]; omega
theorem rp_lst {ds : List D} {n k : Nat} (h : RpL ds n k) : Rp (.lst ds) n (k + 1) := by
  obtain ⟨ps, h1, h2, h3, h4, h5, h6⟩ := h
  exact ⟨.list ps, by simp [toP, h1], by simp [PyData.showable, h2], by simp [PyData.depth]; omega, by simp [PyData.weight]; omega, by simp [PyData.leavesShort, h5], by simp [PyData.hasDict, h6]⟩
theorem repr_ok {d : D} {n k : Nat} (h : Rp d n k) (hn : n ≤ 600000) (hk : k ≤ 60) : ∃ x, ∀ s, reprM [d] s = some (.str x, s) := by
  obtain ⟨p, h1, h2, h3, h4, h5, h6⟩ := h
  have h7 : p.shown.length ≤ sizeLine := by
    have := PyData.shown_le 22 (by omega) p h5
    rw [sizeLine_eq]
    have : (22 + 2) * p.weight ≤ 24 * 600000 := Nat.mul_le_mul (by omega) (by omega)
    omega
  have e : reprD d = some (.str p.shown) := by
    unfold reprD
    rw [h1]
    exact if_pos ⟨h2, by omega, h7, h6⟩
  exact ⟨p.shown, fun s => by show lft (reprD d) s = _; rw [e]; rfl⟩
end Z

namespace Z
namespace C
open PySem PySem.Spec PyProof.Rows L2
/-! ### what a ring tells -/
def nmsOf (hs : List Host) : List Str := hs.map (·.nm)
def tagsD (hs : List Host) : List D := sortL ((nmsOf hs).map .str)
def itemD (h : Host) : D := .tup [.str h.rk, .tup (h.ms.map .int)]
def toldD (f : Frame) : D := .lst [.int f.z, .int f.w, .str f.x, .int f.a, .int f.b, .str f.y, crewD f.hs, .tup (tagsD f.hs), .int f.hs.length, .str (textOf f), .bl true, .lst (f.hs.map itemD)]
end C
end Z

namespace Z
namespace C
open PySem PySem.Spec PyProof.Rows L2
theorem FrOk.mono {M E M' E' : Nat} {f : Frame} (F : FrOk M E f) (hM : M ≤ M') (hE : E ≤ E') : FrOk M' E' f :=
  ⟨F.z0, F.z1, F.w0, F.w1, F.a0, F.a1, F.b0, F.b1, F.x, F.y, ⟨F.hs.nd, F.hs.nm, fun h hh => ⟨(F.hs.ne h hh).1, Nat.le_trans (F.hs.ne h hh).2 hE⟩, F.hs.up, F.hs.inz, F.hs.apart⟩, F.h0, Nat.le_trans F.h1 hM⟩
theorem made_ok {s : S} {n B : Nat} {f : Frame} (h : KG s n B) (hB : B < 2 ^ 40) (F : FrOk 12 16 f) : Dr u__law_made [.cel n, f.D] s n B 1 fun r => r = ringD f := by
  refine Dr.of ?_
  have ok : ∀ s', _ := fun s' => init_ok s' F
  have rd : ∀ s', _ := fun s' => read_ok s' F
  have sh : ∀ s', _ := fun s' => sheet_ok s' F
  unfold u__law_made
  refine wp_mkD rfl ?_
  unfold Frame.D at *
  repeat bv_omega
  refine (dip_ok (m := 3) h hB (by omega) (by omega)).on fun r s1 ⟨i, hr, i0, i1⟩ k1 l1 => ?_
  subst hr
  repeat bv_omega
  refine br (fun h0 => ?_) (fun h0 => ?_)
  · repeat bv_omega
    refine on_some (ok _) ?_
    exact (cut_end zhP ⟨k1, l1, rfl⟩)
  · repeat bv_omega
    refine br (fun h1 => ?_) (fun h1 => ?_)
    · repeat bv_omega
      refine on_some (ok _) ?_
      exact (cut_end zhP ⟨k1, l1, rfl⟩)
    · repeat bv_omega
      refine ⟨rfl, ?_⟩
      repeat bv_omega
      refine on_some (sh _) ?_
      repeat bv_omega
      refine on_some (rd _) ?_
      exact (cut_end zhP ⟨k1, l1, rfl⟩)
/-! ### the script -/
theorem bits_log {z : Int} (h : Builtin.Int.intBits z ≤ 1048576) : z.natAbs.log2 ≤ 1048576 := by
  unfold Builtin.Int.intBits at h
  split at h
  · rename_i h0
    have : z = 0 := by simpa using h0
    subst this
    decide
  · omega
theorem cmul_log {i j : Int} (h1 : i.natAbs.log2 ≤ 1048576) (h2 : j.natAbs.log2 ≤ 1048576) : CMulZ i j := by unfold CMulZ; omega
theorem log_100 {i : Int} (h : i.natAbs < 2 ^ 100) : i.natAbs.log2 ≤ 1048576 := by
  have := log_le (k := 99) h
  omega
theorem filled_ok {ns : List Int} (hb : ∀ z ∈ ns, Builtin.Int.intBits z ≤ 1048576) {t : Nat} (ht : t < 1000) (s : S) :
    ∃ a b : Int, u__law_filled [.lst (ns.map .int), .int t] s = some (.lst [.int a, .int b, .int 0], s) ∧ 0 ≤ b ∧ b < 2147483543 := by
  obtain ⟨o, ho⟩ : ∃ o : Int, o = if h : t < ns.length then ns[t] else 0 := ⟨_, rfl⟩
  have ob : o.natAbs.log2 ≤ 1048576 := by
    rw [ho]
    split
    · exact bits_log (hb _ (List.getElem_mem _))
    · simp
  have key : On (u__law_filled [.lst (ns.map .int), .int t] s) fun d s' => s' = s ∧ ∃ a b : Int, d = .lst [.int a, .int b, .int 0] ∧ 0 ≤ b ∧ b < 2147483543 := by
    unfold u__law_filled
    refine wp_mkF rfl ?_
    repeat bv_omega
    rw [List.length_map]
    have step : ∀ Q : D → S → Prop, Q (.int o) s → (decide ((t : Int) < (ns.length : Nat)) = true → On (mOp idxD (mVar 0) (mVar 1) [.val (.lst (ns.map .int)), .val (.int t), .unb, .unb, .unb] s) Q) ∧
        (decide ((t : Int) < (ns.length : Nat)) = false → On (mC (.int 0) [.val (.lst (ns.map .int)), .val (.int t), .unb, .unb, .unb] s) Q) := fun Q q => by
      refine br (fun h => ?_) (fun h => ?_)
      · have h' : t < ns.length := by omega
        rw [dif_pos h'] at ho
        repeat bv_omega
        refine wp_idxL (d := .int o) ?_ q
        rw [List.getElem?_map, List.getElem?_eq_getElem h', ho]
        rfl
      · have h' : ¬ t < ns.length := by omega
        rw [dif_neg h'] at ho
        subst ho
        exact wp_c q
    refine step _ ?_
    repeat bv_omega
    refine wp_mul (cmul_log (log_100 (by omega)) (log_100 (by omega))) ?_
    repeat bv_omega
    rw [show (some (6 : Int)) = some ((6 : Nat) : Int) from rfl, cutL_take, ← List.map_take]
    refine wp_forI (fun i e s1 => s1 = s ∧ ∃ m : Int, ∃ c, e = [.val (.lst (ns.map .int)), .val (.int t), .val (.int o), .val (.int m), c] ∧ 0 ≤ m ∧ m < 2147483543) ⟨rfl, _, _, rfl, by omega, by omega⟩ (fun j e s1 d hd hI => ?_) (fun e s1 hI => ?_)
    · obtain ⟨rfl, m, c, rfl, m0, m1⟩ := hI
      rw [List.getElem?_map] at hd
      obtain ⟨z, hz, rfl⟩ := Option.map_eq_some_iff.mp hd
      have hz := List.mem_of_mem_take (List.mem_of_getElem? hz)
      repeat bv_omega
      refine wp_mul (cmul_log (log_100 (by omega)) (log_100 (by omega))) ?_
      repeat bv_omega
      refine wp_mul (cmul_log (bits_log (hb z hz)) (log_100 (by omega))) ?_
      repeat bv_omega
      exact ⟨rfl, _, _, rfl, Int.emod_nonneg _ (by decide), Int.emod_lt_of_pos _ (by decide)⟩
    · obtain ⟨rfl, m, c, rfl, m0, m1⟩ := hI
      repeat bv_omega
      refine br (fun h => ?_) (fun h => ?_)
      · repeat bv_omega
        refine wp_mul (cmul_log (log_100 (by omega)) (log_100 (by omega))) ?_
        repeat bv_omega
        refine wp_mul (cmul_log ob ob) ?_
        repeat bv_omega
        refine wp_mul (cmul_log (log_100 (by omega)) (log_100 (by omega))) ?_
        repeat bv_omega
        exact ⟨rfl, _, _, rfl, Int.emod_nonneg _ (by decide), Int.emod_lt_of_pos _ (by decide)⟩
      · repeat bv_omega
        refine br (fun h => ?_) (fun h => ?_)
        · repeat bv_omega
          refine wp_mul (cmul_log (log_100 (by omega)) (log_100 (by omega))) ?_
          repeat bv_omega
          refine wp_mul (cmul_log ob ob) ?_
          repeat bv_omega
          refine wp_mul (cmul_log (log_100 (by omega)) (log_100 (by omega))) ?_
          repeat bv_omega
          exact ⟨rfl, _, _, rfl, Int.emod_nonneg _ (by decide), Int.emod_lt_of_pos _ (by decide)⟩
        · repeat bv_omega
          refine wp_mul (cmul_log (log_100 (by omega)) (log_100 (by omega))) ?_
          repeat bv_omega
          refine wp_mul (cmul_log ob ob) ?_
          repeat bv_omega
          refine wp_mul (cmul_log (log_100 (by omega)) (log_100 (by omega))) ?_
          repeat bv_omega
          exact ⟨rfl, _, _, rfl, Int.emod_nonneg _ (by decide), Int.emod_lt_of_pos _ (by decide)⟩
  obtain ⟨d, s', h1, rfl, a, b, rfl, h2, h3⟩ := key
  exact ⟨a, b, h1, h2, h3⟩
end C
end Z

namespace Z
namespace C
open PySem PySem.Spec PyProof.Rows L2
/-! ### laws of the first family: all cases right -/
abbrev lawA (ur : MD) : MD := mkD 1 2 (sRet (mCall allD (aCons (mLc [1] (rngI (aCons (mCall max2D (aCons (mC (.int 2)) (aCons (mCall min2D (aCons (mCall lenD (aCons (mVar 0) (aNil))) (aCons (mC (.int 5)) (aNil)))) (aNil)))) (aNil))) (cNm 1) (yesT) (mCallD ur (aCons (mCel (mCallD u__law_filled (aCons (mVar 0) (aCons (mVar 1) (aNil))))) (aNil)))) (aNil))))
theorem plainA {ur : MD} {k : Nat} (hr : ∀ (s : S) (n : Nat), KG s n 0 → Dr ur [.cel n] s n 0 k fun r => r = .bl true) (ns : List Int) (hb : ∀ z ∈ ns, Builtin.Int.intBits z ≤ 1048576) : ∃ s', lawA ur [.lst (ns.map .int)] [] = some (.bl true, s') := by
  have key : On (lawA ur [.lst (ns.map .int)] []) fun d _ => d = .bl true := by
    refine wp_mkD rfl ?_
    repeat bv_omega
    rw [List.length_map]
    generalize hK : (if (if (5 : Int) < (ns.length : Int) then 5 else (ns.length : Int)) > 2 then (if (5 : Int) < (ns.length : Int) then 5 else (ns.length : Int)) else 2).toNat = K
    have K5 : K ≤ 5 := by subst hK; split <;> split <;> omega
    refine wp_lcI (fun j s => Ks s) (fun j d => d = .bl true) (fun d hd => by cases hd) (fun j s d hd hI => ?_) (fun ys s' h1 h2 h3 => ?_)
    · obtain ⟨hj, rfl⟩ := rng_at hd
      obtain ⟨a, b, e, b0, b1⟩ := filled_ok hb (t := j) (by omega) s
      repeat bv_omega
      refine on_some e ?_
      repeat bv_omega
      have kg : KG (s ++ [.lst [.int a, .int b, .int 0]]) s.length 0 := ⟨fun d hd => by
        rcases List.mem_append.mp hd with h | h
        · exact hI d h
        · exact .inl ⟨[a, b, 0], List.mem_singleton.mp h⟩, a, b, 0, by simp, b0, by omega, by omega, by omega⟩
      exact (hr _ _ kg).on fun r s1 hr k1 l1 => ⟨hr, k1.all⟩
    · have hlen : ys.length ≤ 5 := by rw [h2]; simp [rngD]; omega
      have hys : ys = (ys.map fun _ => true).map .bl := by
        rw [List.map_map]
        refine List.ext_getElem (by simp) fun i hi1 hi2 => ?_
        have := h3 i ys[i] (List.getElem?_eq_getElem hi1)
        simp [this]
      refine wp_sz (by omega) ?_
      repeat bv_omega
      rw [hys]
      refine wp_all ?_
      refine cut_end zhP ?_
      congr 1
      rw [List.all_eq_true]
      intro x hx
      obtain ⟨_, _, rfl⟩ := List.mem_map.mp hx
      rfl
  obtain ⟨d, s', h1, rfl⟩ := key
  exact ⟨s', h1⟩
end C
end Z

set_option linter.all false
set_option maxRecDepth 100000
namespace Z
namespace C
open PySem
def u_with_hosts : MD := mkD 2 6 (sSeq (sAsg (gSeq (gsCons (gNm 2) (gsCons (gNm 3) (gsCons (gNm 4) (gsCons (gNm 5) (gsNil)))))) (mFld "Ring" "numbers" (mVar 0))) (sRet (mCallD (mdMake "Ring" u_Ring___init__) (aCons (mVar 2) (aCons (mVar 3) (aCons (mProp "Ring" u_Ring_spread (mVar 0)) (aCons (mVar 4) (aCons (mVar 5) (aCons (mProp "Ring" u_Ring_pending (mVar 0)) (aCons (mVar 1) (aNil)))))))))))
def u_Ring_joined : MD := mkD 4 4 (sSeq (sIf (tOrZ (tNotZ (mT (mCallD u_is_name (aCons (mVar 1) (aNil))))) (mT (mOpM (ownIn "Ring" u_Ring___contains__) (mVar 1) (mVar 0)))) (sDie) (sNil)) (sSeq (sIf (tNotZ (mT (mCallD u_is_name (aCons (mVar 2) (aNil))))) (sDie) (sNil)) (sSeq (sIf (tNotZ (mT (mCallD u_is_host (aCons (mTup (aCons (mVar 1) (aCons (mVar 2) (aCons (mVar 3) (aNil))))) (aCons (mProp "Ring" u_Ring_points (mVar 0)) (aCons (mFld "Ring" "held_hosts" (mVar 0)) (aNil))))))) (sDie) (sNil)) (sSeq (sIf (mT (mOp eqD (mCall lenD (aCons (mFld "Ring" "held_hosts" (mVar 0)) (aNil))) (mC (.int 12)))) (sDie) (sNil)) (sRet (mCallD u_with_hosts (aCons (mVar 0) (aCons (mTup (aStar (mFld "Ring" "held_hosts" (mVar 0)) (aCons (mTup (aCons (mVar 1) (aCons (mVar 2) (aCons (mVar 3) (aNil))))) (aNil)))) (aNil)))))))))
def u_Ring_left : MD := mkD 2 3 (sSeq (sExpr (mCallD u_check_host (aCons (mVar 0) (aCons (mVar 1) (aNil))))) (sSeq (sIf (mT (mOp eqD (mCall lenD (aCons (mFld "Ring" "held_hosts" (mVar 0)) (aNil))) (mC (.int 1)))) (sDie) (sNil)) (sRet (mCallD u_with_hosts (aCons (mVar 0) (aCons (mCall tupleD (aCons (mLc [2] (seqI (mFld "Ring" "held_hosts" (mVar 0))) (cNm 2) (mT (mOp neD (mOp idxD (mVar 2) (mC (.int 0))) (mVar 1))) (mVar 2)) (aNil))) (aNil)))))))
def u_Ring___eq__ : MD := mkD 2 2 (sRet (mAnd (mCall (isiD isiC isiT) (aCons (mVar 1) (aCons (mC (.ty "Ring")) (aNil)))) (mOp eqD (mCallD (ownD "Ring" u_Ring___str__ okStr) (aCons (mVar 0) (aNil))) (mCallD (ownD "Ring" u_Ring___str__ okStr) (aCons (mVar 1) (aNil))))))
def u__law_joins_right : MD := mkD 3 6 (sSeq (sPar [3, 4] (xVal (mCallD u__law_sheet (aCons (mVar 1) (aNil))) (xVal (mCallD u__law_sheet (aCons (mOp addAll (mSl slL (mVar 1) (oNone) (oSome (mC (.int 6)))) (mLst (aCons (mOp addD (mOp idxD (mVar 1) (mC (.int 6))) (mTup (aCons (mVar 2) (aNil)))) (aNil)))) (aNil))) (xNil)))) (sSeq (sSet 5 (mMeth "Ring" "joined" u_Ring_joined (mVar 0) (aCons (mOp idxD (mVar 2) (mC (.int 0))) (aCons (mOp idxD (mVar 2) (mC (.int 1))) (aCons (mOp idxD (mVar 2) (mC (.int 2))) (aNil)))))) (sSeq (sIf (tOrZ (mT (mOp neD (mCallD (ownD "Ring" u_Ring___str__ okStr) (aCons (mVar 5) (aNil))) (mVar 4))) (mT (mOp neD (mCallD (ownD "Ring" u_Ring___str__ okStr) (aCons (mMethK "Ring" "joined" [2, 1, 0] u_Ring_joined (mVar 0) (aCons (mOp idxD (mVar 2) (mC (.int 2))) (aCons (mOp idxD (mVar 2) (mC (.int 1))) (aCons (mOp idxD (mVar 2) (mC (.int 0))) (aNil))))) (aNil))) (mVar 4)))) (sRet (mC (.bl false))) (sNil)) (sSeq (sIf (tOrZ (mT (mOp neD (mCallD (ownD "Ring" u_Ring___str__ okStr) (aCons (mMeth "Ring" "left" u_Ring_left (mVar 5) (aCons (mOp idxD (mVar 2) (mC (.int 0))) (aNil))) (aNil))) (mVar 3))) (tNotZ (mT (mOpM (ownEq "Ring" u_Ring___eq__) (mMethK "Ring" "left" [0] u_Ring_left (mVar 5) (aCons (mOp idxD (mVar 2) (mC (.int 0))) (aNil))) (mVar 0))))) (sRet (mC (.bl false))) (sNil)) (sRet (mAnd (mOp eqD (mCallD (ownD "Ring" u_Ring___str__ okStr) (aCons (mVar 0) (aNil))) (mVar 3)) (mAnd (mOp eqD (mCallD (ownD "Ring" u_Ring___str__ okStr) (aCons (mVar 5) (aNil))) (mVar 4)) (mOp eqD (mCallD reprM (aCons (mProp "Ring" u_Ring_hosts (mVar 5)) (aNil))) (mCallD reprM (aCons (mOp addD (mOp idxD (mVar 1) (mC (.int 6))) (mTup (aCons (mVar 2) (aNil)))) (aNil)))))))))))
def u__law_new : MD := mkD 2 14 (sSeq (sPar [2, 3, 4, 5] (xVal (mOp idxD (mVar 1) (mC (.int 0))) (xVal (mLc [6] (seqI (mOp idxD (mVar 1) (mC (.int 6)))) (cNm 6) (yesT) (mOp idxD (mVar 6) (mC (.int 0)))) (xVal (mLst (aNil)) (xOwn (mLst (aNil)) (xNil)))))) (sSeq (sFor (seqI (mOp idxD (mVar 1) (mC (.int 6)))) (gSeq (gsCons (gNm 7) (gsCons (gNm 8) (gsCons (gNm 9) (gsNil))))) (sSet 4 (mOp addAll (mVar 4) (mCall listD (aCons (mVar 9) (aNil)))))) (sSeq (sFor (rngI (aCons (mCall min2D (aCons (mOp addD (mC (.int 1)) (mCallD u__law_dip (aCons (mVar 0) (aCons (mCallD u__law_of (aCons (mVar 0) (aCons (mLst (aCons (mC (.int 1)) (aCons (mC (.int 3)) (aCons (mC (.int 16)) (aNil))))) (aNil)))) (aNil))))) (aCons (mOp subD (mVar 2) (mCall lenD (aCons (mVar 4) (aNil)))) (aNil)))) (aNil))) (gNm 10) (sSeq (sSet 11 (mCallD u__law_free (aCons (mVar 2) (aCons (mVar 4) (aCons (mCallD u__law_place (aCons (mVar 0) (aCons (mVar 2) (aCons (mVar 4) (aNil))))) (aNil)))))) (sSeq (sApp 5 (mVar 11)) (sSet 4 (mOp addAll (mVar 4) (mLst (aCons (mVar 11) (aNil)))))))) (sSeq (sSet 8 (mCallD u__law_of (aCons (mVar 0) (aCons (mOp addAll (mLc [6] (seqI (mOp idxD (mVar 1) (mC (.int 6)))) (cNm 6) (yesT) (mOp idxD (mVar 6) (mC (.int 1)))) (mLst (aCons (mCallD u__law_title (aCons (mVar 0) (aNil))) (aNil)))) (aNil))))) (sSeq (sOwn 12 (mLc [7] (seqI (mOp addAll (mLst (aCons (mCallD u__law_title (aCons (mVar 0) (aNil))) (aCons (mC (.str "new")) (aCons (mC (.str "new1")) (aCons (mC (.str "n")) (aNil)))))) (mLc [13] (rngI (aCons (mC (.int 12)) (aNil))) (cNm 13) (yesT) (mOp addD (mC (.str "n")) (mCall strD (aCons (mVar 13) (aNil))))))) (cNm 7) (mT (mOp notInAD (mVar 7) (mVar 3))) (mVar 7))) (sFrz 5 (sFrz 12 (sRet (mTup (aCons (mOp idxD (mVar 12) (mC (.int 0))) (aCons (mVar 8) (aCons (mCall tupleD (aCons (mCallD (fun ds s => lft (sortedD ds) s) (aCons (mVar 5) (aNil))) (aNil))) (aNil)))))))))))))
def u_Ring_ruled : MD := mkD 4 4 (sRet (mCallD (mdMake "Ring" u_Ring___init__) (aCons (mProp "Ring" u_Ring_points (mVar 0)) (aCons (mProp "Ring" u_Ring_factor (mVar 0)) (aCons (mProp "Ring" u_Ring_spread (mVar 0)) (aCons (mVar 1) (aCons (mVar 2) (aCons (mVar 3) (aCons (mFld "Ring" "held_hosts" (mVar 0)) (aNil))))))))))
def u__law_rules_right : MD := mkD 3 8 (sSeq (sPar [3, 4] (xVal (mOp addD (mC (.int 1)) (mCallD u__law_dip (aCons (mVar 0) (aCons (mOp idxD (mVar 2) (mC (.int 1))) (aNil))))) (xVal (mOp addD (mC (.int 1)) (mCallD u__law_dip (aCons (mVar 0) (aCons (mOp idxD (mVar 2) (mC (.int 1))) (aNil))))) (xNil)))) (sSeq (sSet 5 (mCallD u__law_of (aCons (mVar 0) (aCons (mLst (aCons (mC (.str "plain")) (aCons (mC (.str "with")) (aNil)))) (aNil))))) (sSeq (sSet 6 (mCallD u__law_sheet (aCons (mOp addAll (mSl slL (mVar 2) (oNone) (oSome (mC (.int 3)))) (mLst (aCons (mVar 3) (aCons (mVar 4) (aCons (mVar 5) (aCons (mOp idxD (mVar 2) (mC (.int 6))) (aNil))))))) (aNil)))) (sSeq (sIf (tOrZ (mT (mOp neD (mCallD (ownD "Ring" u_Ring___str__ okStr) (aCons (mMeth "Ring" "ruled" u_Ring_ruled (mVar 1) (aCons (mVar 3) (aCons (mVar 4) (aCons (mVar 5) (aNil))))) (aNil))) (mVar 6))) (mT (mOp neD (mCallD (ownD "Ring" u_Ring___str__ okStr) (aCons (mMethK "Ring" "ruled" [2, 1, 0] u_Ring_ruled (mVar 1) (aCons (mVar 5) (aCons (mVar 4) (aCons (mVar 3) (aNil))))) (aNil))) (mVar 6)))) (sRet (mC (.bl false))) (sNil)) (sSeq (sSet 7 (mMeth "Ring" "ruled" u_Ring_ruled (mMeth "Ring" "ruled" u_Ring_ruled (mVar 1) (aCons (mVar 3) (aCons (mVar 4) (aCons (mVar 5) (aNil))))) (aCons (mOp idxD (mVar 2) (mC (.int 3))) (aCons (mOp idxD (mVar 2) (mC (.int 4))) (aCons (mOp idxD (mVar 2) (mC (.int 5))) (aNil)))))) (sRet (mAnd (mOp eqD (mCallD (ownD "Ring" u_Ring___str__ okStr) (aCons (mVar 1) (aNil))) (mCallD u__law_sheet (aCons (mVar 2) (aNil)))) (mOpM (ownEq "Ring" u_Ring___eq__) (mVar 7) (mVar 1)))))))))
def u__law_leaves_right : MD := mkD 3 9 (sSeq (sAsg (gSeq (gsCons (gNm 3) (gsCons (gNm 4) (gsCons (gNm 5) (gsNil))))) (mOp idxD (mOp idxD (mVar 1) (mC (.int 6))) (mVar 2))) (sSeq (sSet 6 (mOp addD (mSl slD (mOp idxD (mVar 1) (mC (.int 6))) (oNone) (oSome (mVar 2))) (mSl slD (mOp idxD (mVar 1) (mC (.int 6))) (oSome (mOp addD (mVar 2) (mC (.int 1)))) (oNone)))) (sSeq (sSet 7 (mMeth "Ring" "left" u_Ring_left (mVar 0) (aCons (mVar 3) (aNil)))) (sSeq (sIf (tOrZ (mT (mOp neD (mCallD (ownD "Ring" u_Ring___str__ okStr) (aCons (mVar 7) (aNil))) (mCallD u__law_sheet (aCons (mOp addAll (mSl slL (mVar 1) (oNone) (oSome (mC (.int 6)))) (mLst (aCons (mVar 6) (aNil)))) (aNil))))) (mT (mOp neD (mCallD reprM (aCons (mProp "Ring" u_Ring_hosts (mVar 7)) (aNil))) (mCallD reprM (aCons (mVar 6) (aNil)))))) (sRet (mC (.bl false))) (sNil)) (sSeq (sSet 8 (mMeth "Ring" "joined" u_Ring_joined (mVar 7) (aCons (mVar 3) (aCons (mVar 4) (aCons (mVar 5) (aNil)))))) (sRet (mAnd (mOp eqD (mCallD (ownD "Ring" u_Ring___str__ okStr) (aCons (mVar 8) (aNil))) (mCallD u__law_sheet (aCons (mOp addAll (mSl slL (mVar 1) (oNone) (oSome (mC (.int 6)))) (mLst (aCons (mOp addD (mVar 6) (mTup (aCons (mTup (aCons (mVar 3) (aCons (mVar 4) (aCons (mVar 5) (aNil))))) (aNil)))) (aNil)))) (aNil)))) (mOp eqD (mCallD (ownD "Ring" u_Ring___str__ okStr) (aCons (mVar 0) (aNil))) (mCallD u__law_sheet (aCons (mVar 1) (aNil)))))))))))
def u__law_whose : MD := mkD 1 6 (sSeq (sOwn 1 (mDic0)) (sSeq (sFor (seqI (mVar 0)) (gSeq (gsCons (gNm 2) (gsCons (gNm 3) (gsCons (gNm 4) (gsNil))))) (sFor (seqI (mVar 4)) (gNm 5) (sPutK 1 (mVar 5) (mVar 2)))) (sFrz 1 (sRet (mVar 1)))))
def u__law_round : MD := mkD 3 6 (sSeq (sOwn 3 (mLst (aNil))) (sSeq (sFor (rngI (aCons (mVar 0) (aNil))) (gNm 4) (sSeq (sSet 5 (mGet (mVar 1) (mOp modD (mCall intD (aCons (mOp addD (mVar 2) (mVar 4)) (aNil))) (mVar 0)) (mC (.str "")))) (sIf (tBor 3 (tAndZ (mT (mOp neD (mVar 5) (mC (.str "")))) (mT (mOp notInAD (mVar 5) (mVar 3))))) (sApp 3 (mVar 5)) (sNil)))) (sFrz 3 (sRet (mVar 3)))))
def u_check_point : MD := mkD 2 2 (sIf (tNotZ (mT (mCallD u_is_integer (aCons (mVar 1) (aCons (mC (.int 0)) (aCons (mOp subD (mProp "Ring" u_Ring_points (mVar 0)) (mC (.int 1))) (aNil))))))) (sDie) (sNil))
def u_walk_of : MD := mkD 2 6 (sSeq (sOwn 2 (mLc [3, 4] (seqI (mFld "Ring" "marks" (mVar 0))) (cTup [3, 4]) (mT (mOp ltD (mVar 3) (mVar 1))) (mVar 4))) (sSeq (sOwn 5 (mLc [3, 4] (seqI (mFld "Ring" "marks" (mVar 0))) (cTup [3, 4]) (mT (mOp geD (mVar 3) (mVar 1))) (mVar 4))) (sFrz 5 (sFrz 2 (sRet (mCallD (fun ds s => lft (tupleDicD ds) s) (aCons (mDc [4] (seqI (mLst (aStar (mVar 5) (aStar (mVar 2) (aNil))))) (cNm 4) (yesT) (mVar 4) (mC (.bl true))) (aNil))))))))
def u_Ring_walk : MD := mkD 2 2 (sSeq (sExpr (mCallD u_check_point (aCons (mVar 0) (aCons (mVar 1) (aNil))))) (sRet (mCallD u_walk_of (aCons (mVar 0) (aCons (mVar 1) (aNil))))))
def u__law_walks_right : MD := mkD 2 9 (sSeq (sPar [2, 3] (xVal (mOp idxD (mVar 1) (mC (.int 0))) (xVal (mCallD u__law_whose (aCons (mOp idxD (mVar 1) (mC (.int 6))) (aNil))) (xNil)))) (sSeq (sFor (rngI (aCons (mVar 2) (aNil))) (gNm 4) (sSeq (sSet 5 (mCallD reprM (aCons (mCall tupleD (aCons (mCallD u__law_round (aCons (mVar 2) (aCons (mVar 3) (aCons (mVar 4) (aNil))))) (aNil))) (aNil)))) (sIf (tOrZ (mT (mOp neD (mCallD reprM (aCons (mMeth "Ring" "walk" u_Ring_walk (mVar 0) (aCons (mVar 4) (aNil))) (aNil))) (mVar 5))) (mT (mOp neD (mCallD reprM (aCons (mMethK "Ring" "walk" [0] u_Ring_walk (mVar 0) (aCons (mVar 4) (aNil))) (aNil))) (mVar 5)))) (sRet (mC (.bl false))) (sNil)))) (sRet (mOp eqD (mCallD (fun ds s => lft (sortedD ds) s) (aCons (mMeth "Ring" "walk" u_Ring_walk (mVar 0) (aCons (mOp fdivD (mVar 2) (mC (.int 2))) (aNil))) (aNil))) (mCallD (fun ds s => lft (sortedD ds) s) (aCons (mLc [6, 7, 8] (seqI (mOp idxD (mVar 1) (mC (.int 6)))) (cTup [6, 7, 8]) (yesT) (mVar 6)) (aNil)))))))
end C
end Z

set_option linter.all false
set_option maxRecDepth 100000
namespace Z
namespace C
open PySem
def u__law_plain : MD := mkD 1 8 (sSeq (sAsg (gSeq (gsCons (gNm 1) (gsCons (gNm 2) (gsCons (gNm 3) (gsCons (gNm 4) (gsCons (gNm 5) (gsCons (gNm 6) (gsCons (gNm 7) (gsNil))))))))) (mVar 0)) (sRet (mCallD (mdMake "Ring" u_Ring___init__) (aCons (mVar 1) (aCons (mVar 2) (aCons (mVar 3) (aCons (mVar 4) (aCons (mVar 5) (aCons (mVar 6) (aCons (mVar 7) (aNil)))))))))))
def u__law_keep : MD := mkD 2 9 (sSeq (sIf (mT (mOp eqD (mOp idxD (mVar 0) (mC (.int 2))) (mC (.str "hosts")))) (sRet (mSl slL (mVar 1) (oNone) (oSome (mOp idxD (mVar 0) (mC (.int 1)))))) (sNil)) (sSeq (sSet 2 (mCallD (fun ds s => lft (dictPD ds) s) (aCons (mLc [3, 4, 5] (seqI (mOp idxD (mVar 0) (mC (.int 6)))) (cTup [3, 4, 5]) (yesT) (mTup (aCons (mVar 3) (aCons (mVar 4) (aNil))))) (aNil)))) (sSeq (sOwn 6 (mLst (aNil))) (sSeq (sFor (rngI (aCons (mCall lenD (aCons (mVar 1) (aNil))) (aNil))) (gNm 7) (sIf (mT (mOp notInAD (mOp idxDic (mVar 2) (mOp idxD (mVar 1) (mVar 7))) (mLc [8] (seqI (mSl slL (mVar 1) (oNone) (oSome (mVar 7)))) (cNm 8) (yesT) (mOp idxDic (mVar 2) (mVar 8))))) (sApp 6 (mOp idxD (mVar 1) (mVar 7))) (sNil))) (sSeq (sFrz 6 (sOwn 6 (mSl slL (mVar 6) (oNone) (oSome (mOp idxD (mVar 0) (mC (.int 1))))))) (sFrz 6 (sRet (mSl slL (mOp addAll (mVar 6) (mLc [8] (seqI (mVar 1)) (cNm 8) (mT (mOp notInAD (mVar 8) (mVar 6))) (mVar 8))) (oNone) (oSome (mOp idxD (mVar 0) (mC (.int 1))))))))))))
def u_chosen : MD := mkD 2 6 (sSeq (sIf (mT (mOp eqD (mProp "Ring" u_Ring_spread (mVar 0)) (mC (.str "hosts")))) (sRet (mSl slD (mVar 1) (oNone) (oSome (mProp "Ring" u_Ring_factor (mVar 0))))) (sNil)) (sSeq (sOwn 2 (mDic0)) (sSeq (sFor (seqI (mVar 1)) (gNm 3) (sSetd 2 (mOp idxDic (mFld "Ring" "racks" (mVar 0)) (mVar 3)) (mVar 3))) (sSeq (sFrz 2 (sSet 4 (mSl slD (mUn tupleValsD (mVar 2)) (oNone) (oSome (mProp "Ring" u_Ring_factor (mVar 0)))))) (sSeq (sOwn 5 (mLc [3] (seqI (mVar 1)) (cNm 3) (mT (mOp notInAD (mVar 3) (mVar 4))) (mVar 3))) (sFrz 5 (sRet (mTup (aStar (mVar 4) (aStar (mSl slL (mVar 5) (oNone) (oSome (mOp subD (mProp "Ring" u_Ring_factor (mVar 0)) (mCall lenD (aCons (mVar 4) (aNil)))))) (aNil)))))))))))
def u_keepers_of : MD := mkD 2 2 (sRet (mCallD u_chosen (aCons (mVar 0) (aCons (mCallD u_walk_of (aCons (mVar 0) (aCons (mVar 1) (aNil)))) (aNil)))))
def u_Ring_keepers : MD := mkD 2 2 (sSeq (sExpr (mCallD u_check_point (aCons (mVar 0) (aCons (mVar 1) (aNil))))) (sRet (mCallD u_keepers_of (aCons (mVar 0) (aCons (mVar 1) (aNil))))))
def u__law_one_right : MD := mkD 2 5 (sSeq (sSet 2 (mCallD u__law_plain (aCons (mVar 0) (aNil)))) (sSeq (sFor (rngI (aCons (mOp idxD (mVar 0) (mC (.int 0))) (aNil))) (gNm 3) (sSeq (sSet 4 (mCallD reprM (aCons (mCall tupleD (aCons (mCallD u__law_keep (aCons (mVar 0) (aCons (mOp idxD (mVar 1) (mVar 3)) (aNil)))) (aNil))) (aNil)))) (sIf (tOrZ (mT (mOp neD (mCallD reprM (aCons (mMeth "Ring" "keepers" u_Ring_keepers (mVar 2) (aCons (mVar 3) (aNil))) (aNil))) (mVar 4))) (mT (mOp neD (mCallD reprM (aCons (mMethK "Ring" "keepers" [0] u_Ring_keepers (mVar 2) (aCons (mVar 3) (aNil))) (aNil))) (mVar 4)))) (sRet (mC (.bl false))) (sNil)))) (sRet (mC (.bl true)))))
end C
end Z

set_option linter.all false
set_option maxRecDepth 100000
namespace Z
namespace C
open PySem
def u__law_borders : MD := mkD 1 5 (sSeq (sSet 1 (mLst (aNil))) (sSeq (sFor (seqI (mVar 0)) (gSeq (gsCons (gNm 2) (gsCons (gNm 3) (gsCons (gNm 4) (gsNil))))) (sSet 1 (mOp addAll (mVar 1) (mCall listD (aCons (mVar 4) (aNil)))))) (sRet (mCallD (fun ds s => lft (sortedD ds) s) (aCons (mVar 1) (aNil))))))
def u__law_far : MD := mkD 2 8 (sSeq (sOwn 2 (mLst (aNil))) (sSeq (sFor (seqI (mOp idxD (mVar 0) (mC (.int 6)))) (gSeq (gsCons (gNm 3) (gsCons (gNm 4) (gsCons (gNm 5) (gsNil))))) (sApp 2 (mTup (aCons (mCall minLD (aCons (mLc [6] (seqI (mVar 5)) (cNm 6) (yesT) (mOp modD (mCall intD (aCons (mOp subD (mVar 6) (mVar 1)) (aNil))) (mOp idxD (mVar 0) (mC (.int 0))))) (aNil))) (aCons (mVar 3) (aNil)))))) (sFrz 2 (sRet (mLc [7, 3] (seqI (mCallD (fun ds s => lft (sortedD ds) s) (aCons (mVar 2) (aNil)))) (cTup [7, 3]) (yesT) (mVar 3))))))
def u_check_ring : MD := mkD 1 1 (sIf (tNotZ (mT (mCall (isiD isiC isiT) (aCons (mVar 0) (aCons (mC (.ty "Ring")) (aNil)))))) (sDie) (sNil))
def u_Cell___init__ : MI0 := mkI 3 4 (nSeq (nFld "first" (mVar 1)) (nSeq (nFld "many" (mVar 2)) (nSeq (nFld "last" (mVar 3)) (nNil))))
def u_cut : MD := mkD 2 6 (sSeq (sOwn 2 (mLst (aNil))) (sSeq (sFor (enum2I (aCons (mVar 1) (aNil))) (gSeq (gsCons (gNm 3) (gsCons (gNm 4) (gsNil)))) (sSeq (sSet 5 (mOp idxD (mVar 1) (mOp subD (mVar 3) (mC (.int 1))))) (sApp 2 (mCallD (mdMake "Cell" u_Cell___init__) (aCons (mOp modD (mOp addD (mVar 5) (mC (.int 1))) (mVar 0)) (aCons (mOp addD (mOp modD (mOp subD (mOp subD (mVar 4) (mVar 5)) (mC (.int 1))) (mVar 0)) (mC (.int 1))) (aCons (mVar 4) (aNil)))))))) (sFrz 2 (sRet (mVar 2)))))
def u_marks_of : MD := mkD 1 4 (sRet (mCallD (fun ds s => lft (sortedDicA ds) s) (aCons (mDc2 [1, 2, 3] (seqI (mVar 0)) (cNm 1) (yesT) (seqI (mFld "Ring" "marks" (mVar 1))) [2, 3] (cTup [2, 3]) (yesT) (mVar 2) (mC (.bl true))) (aNil))))
def u_own_cells : MD := mkD 1 1 (sRet (mCallD u_cut (aCons (mProp "Ring" u_Ring_points (mVar 0)) (aCons (mCallD u_marks_of (aCons (mLst (aCons (mVar 0) (aNil))) (aNil))) (aNil)))))
def u_cells : MD := mkD 1 2 (sSeq (sExpr (mCallD u_check_ring (aCons (mVar 0) (aNil)))) (sRet (mCall tupleD (aCons (mLc [1] (seqI (mCallD u_own_cells (aCons (mVar 0) (aNil)))) (cNm 1) (yesT) (mTup (aCons (mFld "Cell" "first" (mVar 1)) (aCons (mFld "Cell" "many" (mVar 1)) (aCons (mCallD u_keepers_of (aCons (mVar 0) (aCons (mFld "Cell" "last" (mVar 1)) (aNil)))) (aNil)))))) (aNil)))))
def u__law_parted : MD := mkD 2 5 (sSeq (sOwn 2 (mLst (aNil))) (sSeq (sFor (rngI (aCons (mCall lenD (aCons (mVar 1) (aNil))) (aNil))) (gNm 3) (sSeq (sSet 4 (mOp idxD (mVar 1) (mOp subD (mVar 3) (mC (.int 1))))) (sApp 2 (mTup (aCons (mOp modD (mCall intD (aCons (mOp addD (mVar 4) (mC (.int 1))) (aNil))) (mVar 0)) (aCons (mOp addD (mOp modD (mCall intD (aCons (mOp subD (mOp subD (mOp idxD (mVar 1) (mVar 3)) (mVar 4)) (mC (.int 1))) (aNil))) (mVar 0)) (mC (.int 1))) (aCons (mOp idxD (mVar 1) (mVar 3)) (aNil)))))))) (sFrz 2 (sRet (mVar 2)))))
def u__law_keys_right : MD := mkD 2 9 (sSeq (sPar [2, 3] (xVal (mOp idxD (mVar 0) (mC (.int 0))) (xVal (mCallD u__law_whose (aCons (mOp idxD (mVar 0) (mC (.int 6))) (aNil))) (xNil)))) (sSeq (sFor (rngI (aCons (mVar 2) (aNil))) (gNm 4) (sSeq (sOwn 5 (mLc [6, 7, 8] (seqI (mVar 1)) (cTup [6, 7, 8]) (mT (mOp ltD (mOp modD (mCall intD (aCons (mOp subD (mVar 4) (mVar 6)) (aNil))) (mVar 2)) (mVar 7))) (mVar 8))) (sFrz 5 (sIf (mT (mOp neD (mCallD reprM (aCons (mVar 5) (aNil))) (mCallD reprM (aCons (mLst (aCons (mCall tupleD (aCons (mCallD u__law_keep (aCons (mVar 0) (aCons (mCallD u__law_round (aCons (mVar 2) (aCons (mVar 3) (aCons (mVar 4) (aNil))))) (aNil)))) (aNil))) (aNil))) (aNil))))) (sRet (mC (.bl false))) (sNil))))) (sRet (mC (.bl true)))))
end C
end Z

set_option linter.all false
set_option maxRecDepth 100000
namespace Z
namespace C
open PySem
def u__law_moved : MD := mkD 2 7 (sSeq (sOwn 2 (mLc [4, 5, 6] (seqI (mOp idxD (mVar 0) (mC (.int 6)))) (cTup [4, 5, 6]) (yesT) (mTup (aCons (mVar 4) (aCons (mVar 5) (aCons (mCall tupleD (aCons (mCallD (fun ds s => lft (sortedD ds) s) (aCons (mLc [3] (seqI (mVar 6)) (cNm 3) (yesT) (mOp modD (mCall intD (aCons (mOp addD (mVar 3) (mVar 1)) (aNil))) (mOp idxD (mVar 0) (mC (.int 0))))) (aNil))) (aNil))) (aNil))))))) (sFrz 2 (sRet (mOp addAll (mSl slL (mVar 0) (oNone) (oSome (mC (.int 6)))) (mLst (aCons (mCall tupleD (aCons (mVar 2) (aNil))) (aNil)))))))
def u__law_stretched : MD := mkD 2 7 (sSeq (sOwn 2 (mLc [4, 5, 6] (seqI (mOp idxD (mVar 0) (mC (.int 6)))) (cTup [4, 5, 6]) (yesT) (mTup (aCons (mVar 4) (aCons (mVar 5) (aCons (mCall tupleD (aCons (mLc [3] (seqI (mVar 6)) (cNm 3) (yesT) (mOp subD (mOp addD (mOp mulD (mVar 3) (mVar 1)) (mVar 1)) (mC (.int 1)))) (aNil))) (aNil))))))) (sFrz 2 (sRet (mOp addAll (mOp addAll (mLst (aCons (mOp mulD (mOp idxD (mVar 0) (mC (.int 0))) (mVar 1)) (aNil))) (mSl slL (mVar 0) (oSome (mC (.int 1))) (oSome (mC (.int 6))))) (mLst (aCons (mCall tupleD (aCons (mVar 2) (aNil))) (aNil)))))))
def u__law_renamed : MD := mkD 2 11 (sSeq (sPar [2, 3] (xVal (mOp idxD (mVar 1) (mC (.int 6))) (xOwn (mLst (aNil)) (xNil)))) (sSeq (sFor (seqI (mVar 2)) (gSeq (gsCons (gNm 4) (gsCons (gNm 5) (gsCons (gNm 6) (gsNil))))) (sIf (tBor 3 (mT (mOp notInAD (mVar 5) (mVar 3)))) (sApp 3 (mVar 5)) (sNil))) (sSeq (sFrz 3 (sPar [7, 8] (xVal (mCallD u__law_titles (aCons (mVar 0) (aCons (mCall lenD (aCons (mVar 2) (aNil))) (aNil)))) (xVal (mCallD u__law_titles (aCons (mVar 0) (aCons (mCall lenD (aCons (mVar 3) (aNil))) (aNil)))) (xNil))))) (sSeq (sOwn 9 (mLc [10] (rngI (aCons (mCall lenD (aCons (mVar 2) (aNil))) (aNil))) (cNm 10) (yesT) (mTup (aCons (mOp idxD (mVar 7) (mVar 10)) (aCons (mOp idxD (mVar 8) (mOp indexD (mVar 3) (mOp idxD (mOp idxD (mVar 2) (mVar 10)) (mC (.int 1))))) (aCons (mOp idxD (mOp idxD (mVar 2) (mVar 10)) (mC (.int 2))) (aNil))))))) (sFrz 9 (sRet (mTup (aCons (mOp addAll (mSl slL (mVar 1) (oNone) (oSome (mC (.int 6)))) (mLst (aCons (mCall tupleD (aCons (mVar 9) (aNil))) (aNil)))) (aCons (mCallD (fun ds s => lft (dictPD ds) s) (aCons (mLc [10] (rngI (aCons (mCall lenD (aCons (mVar 2) (aNil))) (aNil))) (cNm 10) (yesT) (mTup (aCons (mOp idxD (mOp idxD (mVar 2) (mVar 10)) (mC (.int 0))) (aCons (mOp idxD (mVar 7) (mVar 10)) (aNil))))) (aNil))) (aNil))))))))))
def u__law_both : MD := mkD 2 2 (sRet (mLst (aCons (mMeth "Ring" "walk" u_Ring_walk (mVar 0) (aCons (mVar 1) (aNil))) (aCons (mMeth "Ring" "keepers" u_Ring_keepers (mVar 0) (aCons (mVar 1) (aNil))) (aNil)))))
end C
end Z

set_option linter.all false
set_option maxRecDepth 100000
namespace Z
namespace C
open PySem
def u__law_key_right : MD := mkD 5 11 (sSeq (sPar [5, 6] (xVal (mMeth "Ring" "keepers" u_Ring_keepers (mVar 0) (aCons (mVar 3) (aNil))) (xVal (mMeth "Ring" "keepers" u_Ring_keepers (mVar 1) (aCons (mVar 3) (aNil))) (xNil)))) (sSeq (sPar [7, 8] (xVal (mLc [9] (seqI (mVar 6)) (cNm 9) (mT (mOp notInAD (mVar 9) (mVar 5))) (mVar 9)) (xVal (mLc [9] (seqI (mVar 5)) (cNm 9) (mT (mOp notInAD (mVar 9) (mVar 6))) (mVar 9)) (xNil)))) (sSeq (sIf (tOrZ (mT (mOp notInAD (mVar 7) (mLst (aCons (mLst (aNil)) (aCons (mLst (aCons (mC (.str "newer")) (aNil))) (aNil)))))) (tOrZ (mT (mOp gtD (mCall lenD (aCons (mVar 8) (aNil))) (mC (.int 1)))) (tAndZ (mT (mOp neD (mVar 8) (mLst (aNil)))) (mT (mOp eqD (mVar 7) (mLst (aNil))))))) (sRet (mC (.bl false))) (sNil)) (sSeq (sIf (tOrZ (tAndZ (mT (mOp notInAD (mC (.str "newer")) (mVar 6))) (mT (mOp neD (mVar 6) (mVar 5)))) (tAndZ (mT (mOp neD (mVar 7) (mLst (aNil)))) (tAndZ (mT (mVar 4)) (mT (mOp eqD (mVar 8) (mLst (aNil))))))) (sRet (mC (.bl false))) (sNil)) (sSeq (sIf (tOrZ (tAndZ (tNotZ (mT (mVar 4))) (mT (mOp neD (mVar 8) (mLst (aNil))))) (mT (mOp neD (mMeth "Ring" "keepers" u_Ring_keepers (mVar 2) (aCons (mVar 3) (aNil))) (mVar 5)))) (sRet (mC (.bl false))) (sNil)) (sSeq (sSet 10 (mMeth "Ring" "walk" u_Ring_walk (mVar 1) (aCons (mVar 3) (aNil)))) (sSeq (sIf (mT (mOp neD (mCall tupleD (aCons (mLc [9] (seqI (mVar 10)) (cNm 9) (mT (mOp neD (mVar 9) (mC (.str "newer")))) (mVar 9)) (aNil))) (mMeth "Ring" "walk" u_Ring_walk (mVar 0) (aCons (mVar 3) (aNil))))) (sRet (mC (.bl false))) (sNil)) (sRet (mOp eqD (mMeth "Ring" "walk" u_Ring_walk (mVar 2) (aCons (mVar 3) (aNil))) (mMeth "Ring" "walk" u_Ring_walk (mVar 0) (aCons (mVar 3) (aNil))))))))))))
end C
end Z

set_option linter.all false
set_option maxRecDepth 100000
namespace Z
namespace C
open PySem
def u__law_mate : MD := mkD 2 10 (sSeq (sPar [2, 3] (xVal (mOp idxD (mVar 1) (mC (.int 0))) (xVal (mOp idxD (mVar 1) (mC (.int 6))) (xNil)))) (sSeq (sPar [4, 5] (xVal (mCallD u__law_dip (aCons (mVar 0) (aCons (mC (.int 4)) (aNil)))) (xVal (mCallD u__law_borders (aCons (mOp idxD (mVar 1) (mC (.int 6))) (aNil))) (xNil)))) (sSeq (sIf (tOrZ (mT (mOp ltD (mVar 4) (mC (.int 2)))) (tOrZ (mT (mOp eqD (mCall lenD (aCons (mVar 5) (aNil))) (mVar 2))) (mT (mOp eqD (mCall lenD (aCons (mVar 3) (aNil))) (mC (.int 12)))))) (sRet (mCallD u__law_build (aCons (mVar 0) (aCons (mVar 2) (aCons (mC (.int 6)) (aCons (mC (.int 4)) (aNil))))))) (sNil)) (sSeq (sSet 6 (mCallD u__law_free (aCons (mVar 2) (aCons (mVar 5) (aCons (mCallD u__law_place (aCons (mVar 0) (aCons (mVar 2) (aCons (mVar 5) (aNil))))) (aNil)))))) (sSeq (sIf (mT (mOp eqD (mVar 4) (mC (.int 2)))) (sRet (mOp addAll (mOp addAll (mLst (aCons (mVar 2) (aNil))) (mCallD u__law_rule (aCons (mVar 0) (aNil)))) (mLst (aCons (mOp addD (mVar 3) (mTup (aCons (mTup (aCons (mC (.str "newer")) (aCons (mCallD u__law_of (aCons (mVar 0) (aCons (mLst (aCons (mC (.str "r")) (aCons (mOp idxD (mOp idxD (mVar 3) (mC (.int 0))) (mC (.int 1))) (aNil)))) (aNil)))) (aCons (mTup (aCons (mVar 6) (aNil))) (aNil))))) (aNil)))) (aNil))))) (sNil)) (sSeq (sAsg (gSeq (gsCons (gNm 7) (gsCons (gNm 8) (gsCons (gNm 9) (gsNil))))) (mOp idxD (mVar 3) (mC (.int 0)))) (sRet (mOp addAll (mSl slL (mVar 1) (oNone) (oSome (mC (.int 6)))) (mLst (aCons (mOp addD (mTup (aCons (mTup (aCons (mVar 7) (aCons (mVar 8) (aCons (mCall tupleD (aCons (mCallD (fun ds s => lft (sortedTD ds) s) (aCons (mOp addD (mSl slD (mVar 9) (oSome (mC (.int 1))) (oNone)) (mTup (aCons (mVar 6) (aNil)))) (aNil))) (aNil))) (aNil))))) (aNil))) (mSl slD (mVar 3) (oSome (mC (.int 1))) (oNone))) (aNil)))))))))))
def u_check_both : MD := mkD 2 2 (sSeq (sExpr (mCallD u_check_ring (aCons (mVar 0) (aNil)))) (sSeq (sExpr (mCallD u_check_ring (aCons (mVar 1) (aNil)))) (sIf (mT (mOp neD (mProp "Ring" u_Ring_points (mVar 0)) (mProp "Ring" u_Ring_points (mVar 1)))) (sDie) (sNil))))
def u_common_of : MD := mkD 2 4 (sSeq (sSet 2 (mCallD u_cut (aCons (mProp "Ring" u_Ring_points (mVar 0)) (aCons (mCallD u_marks_of (aCons (mLst (aCons (mVar 0) (aCons (mVar 1) (aNil)))) (aNil))) (aNil))))) (sRet (mCall tupleD (aCons (mLc [3] (seqI (mVar 2)) (cNm 3) (yesT) (mTup (aCons (mFld "Cell" "first" (mVar 3)) (aCons (mFld "Cell" "many" (mVar 3)) (aCons (mCallD u_keepers_of (aCons (mVar 0) (aCons (mFld "Cell" "last" (mVar 3)) (aNil)))) (aCons (mCallD u_keepers_of (aCons (mVar 1) (aCons (mFld "Cell" "last" (mVar 3)) (aNil)))) (aNil))))))) (aNil)))))
def u_common_cells : MD := mkD 2 2 (sSeq (sExpr (mCallD u_check_both (aCons (mVar 0) (aCons (mVar 1) (aNil))))) (sRet (mCallD u_common_of (aCons (mVar 0) (aCons (mVar 1) (aNil))))))
end C
end Z

set_option linter.all false
set_option maxRecDepth 100000
namespace Z
namespace C
open PySem
def u__law_draw : MD := mkD 2 5 (sSeq (sPar [2, 3] (xVal (mOpM idxCel (mVar 0) (mC (.int 1))) (xVal (mOp addD (mOp modD (mCall intD (aCons (mOpM idxCel (mVar 0) (mC (.int 1))) (aNil))) (mC (.int 40009))) (mC (.int 20021))) (xNil)))) (sSeq (sAsg (gCel (mVar 0) (mC (.int 2))) (mOp addD (mOpM idxCel (mVar 0) (mC (.int 2))) (mC (.int 1)))) (sSeq (sAsg (gCel (mVar 0) (mC (.int 1))) (mOp modD (mCall intD (aCons (mOp addD (mOp addD (mOp mulD (mVar 2) (mVar 3)) (mOp mulD (mC (.int 60013)) (mOpM idxCel (mVar 0) (mC (.int 2))))) (mC (.int 11))) (aNil))) (mC (.int 2147483629)))) (sSeq (sIf (mT (mOp gtD (mOpM idxCel (mVar 0) (mC (.int 0))) (mC (.int 0)))) (sSeq (sAsg (gSeq (gsCons (gCel (mVar 0) (mC (.int 0))) (gsCons (gNm 4) (gsNil)))) (mCall divmodD (aCons (mOpM idxCel (mVar 0) (mC (.int 0))) (aCons (mVar 1) (aNil))))) (sRet (mVar 4))) (sNil)) (sRet (mOp modD (mCall intD (aCons (mOp fdivD (mOpM idxCel (mVar 0) (mC (.int 1))) (mC (.int 89))) (aNil))) (mVar 1)))))))
def u__law_pick : MD := mkD 2 2 (sRet (mOp idxD (mVar 1) (mCallD u__law_draw (aCons (mVar 0) (aCons (mCall lenD (aCons (mVar 1) (aNil))) (aNil))))))
def u__law_marks : MD := mkD 4 9 (sSeq (sOwn 4 (mLst (aNil))) (sSeq (sFor (rngI (aCons (mVar 3) (aNil))) (gNm 5) (sSeq (sSet 6 (mCallD u__law_draw (aCons (mVar 0) (aCons (mVar 1) (aNil))))) (sIf (tBor 4 (mT (mOp notInAD (mVar 6) (mOp addAll (mVar 2) (mVar 4))))) (sApp 4 (mVar 6)) (sNil)))) (sSeq (sOwn 7 (mLc [8] (rngI (aCons (mOp addD (mCall lenD (aCons (mVar 2) (aNil))) (mC (.int 1))) (aNil))) (cNm 8) (mT (mOp notInAD (mVar 8) (mVar 2))) (mVar 8))) (sFrz 7 (sFrz 4 (sRet (mCall tupleD (aCons (mCallD (fun ds s => lft (sortedD ds) s) (aCons (mIf (mT (mOp neD (mVar 4) (mLst (aNil)))) (mVar 4) (mSl slL (mVar 7) (oNone) (oSome (mC (.int 1))))) (aNil))) (aNil)))))))))
def u__law_ring : MD := mkD 3 10 (sSeq (sPar [3, 4, 5] (xVal (mOp addD (mC (.int 1)) (mCallD u__law_draw (aCons (mVar 0) (aCons (mC (.int 5)) (aNil))))) (xVal (mLst (aNil)) (xOwn (mLst (aNil)) (xNil))))) (sSeq (sFor (rngI (aCons (mCall min2D (aCons (mVar 3) (aCons (mVar 1) (aNil)))) (aNil))) (gNm 6) (sSeq (sSet 7 (mCallD u__law_marks (aCons (mVar 0) (aCons (mVar 1) (aCons (mVar 4) (aCons (mOp addD (mC (.int 1)) (mCallD u__law_draw (aCons (mVar 0) (aCons (mVar 2) (aNil))))) (aNil))))))) (sSeq (sSet 4 (mOp addAll (mVar 4) (mCall listD (aCons (mVar 7) (aNil))))) (sSeq (sApp 5 (mTup (aCons (mOp idxD (mC (.str "abcdefgh")) (mVar 6)) (aCons (mCallD u__law_pick (aCons (mVar 0) (aCons (mLst (aCons (mC (.str "r1")) (aCons (mC (.str "r1")) (aCons (mC (.str "r2")) (aCons (mC (.str "r3")) (aNil)))))) (aNil)))) (aCons (mVar 7) (aNil)))))) (sIf (mT (mOp geD (mCall lenD (aCons (mVar 4) (aNil))) (mVar 1))) (sBrk) (sNil)))))) (sSeq (sSet 3 (mOp addD (mC (.int 1)) (mCallD u__law_draw (aCons (mVar 0) (aCons (mC (.int 4)) (aNil)))))) (sSeq (sOwn 8 (mLc [6] (rngI (aCons (mC (.int 2)) (aNil))) (cNm 6) (yesT) (mOp addD (mC (.int 1)) (mCallD u__law_draw (aCons (mVar 0) (aCons (mVar 3) (aNil))))))) (sSeq (sSet 9 (mLst (aCons (mCallD u__law_pick (aCons (mVar 0) (aCons (mLst (aCons (mC (.str "hosts")) (aCons (mC (.str "racks")) (aNil)))) (aNil)))) (aCons (mCallD u__law_pick (aCons (mVar 0) (aCons (mLst (aCons (mC (.str "plain")) (aCons (mC (.str "with")) (aNil)))) (aNil)))) (aNil))))) (sFrz 8 (sFrz 5 (sRet (mLst (aCons (mVar 1) (aCons (mVar 3) (aCons (mOp idxD (mVar 9) (mC (.int 0))) (aCons (mOp idxD (mVar 8) (mC (.int 0))) (aCons (mOp idxD (mVar 8) (mC (.int 1))) (aCons (mOp idxD (mVar 9) (mC (.int 1))) (aCons (mCall tupleD (aCons (mVar 5) (aNil))) (aNil)))))))))))))))))
def u__law_taken : MD := mkD 1 3 (sSeq (sSet 1 (mLst (aNil))) (sSeq (sFor (seqI (mVar 0)) (gNm 2) (sSet 1 (mOp addAll (mVar 1) (mCall listD (aCons (mOp idxD (mVar 2) (mC (.int 2))) (aNil)))))) (sRet (mVar 1))))
def u__law_second : MD := mkD 2 11 (sSeq (sPar [2, 3, 4] (xVal (mOp idxD (mVar 1) (mC (.int 0))) (xVal (mOp idxD (mVar 1) (mC (.int 6))) (xVal (mCallD u__law_draw (aCons (mVar 0) (aCons (mC (.int 5)) (aNil)))) (xNil))))) (sSeq (sSet 5 (mCallD u__law_taken (aCons (mVar 3) (aNil)))) (sSeq (sSet 6 (mCallD u__law_ring (aCons (mVar 0) (aCons (mVar 2) (aCons (mC (.int 3)) (aNil)))))) (sSeq (sIf (mT (mOp eqD (mVar 4) (mC (.int 0)))) (sRet (mVar 6)) (sNil)) (sSeq (sIf (tAndZ (mT (mOp eqD (mVar 4) (mC (.int 1)))) (mT (mOp ltD (mCall lenD (aCons (mVar 5) (aNil))) (mVar 2)))) (sSeq (sSet 7 (mTup (aCons (mC (.str "n")) (aCons (mCallD u__law_pick (aCons (mVar 0) (aCons (mLst (aCons (mC (.str "r1")) (aCons (mC (.str "r2")) (aCons (mC (.str "r4")) (aNil))))) (aNil)))) (aCons (mCallD u__law_marks (aCons (mVar 0) (aCons (mVar 2) (aCons (mVar 5) (aCons (mC (.int 2)) (aNil)))))) (aNil)))))) (sRet (mOp addAll (mSl slL (mVar 1) (oNone) (oSome (mC (.int 6)))) (mLst (aCons (mOp addD (mVar 3) (mTup (aCons (mVar 7) (aNil)))) (aNil)))))) (sNil)) (sSeq (sIf (tAndZ (mT (mOp eqD (mVar 4) (mC (.int 2)))) (mT (mOp gtD (mCall lenD (aCons (mVar 3) (aNil))) (mC (.int 1))))) (sSeq (sSet 8 (mCallD u__law_draw (aCons (mVar 0) (aCons (mCall lenD (aCons (mVar 3) (aNil))) (aNil))))) (sRet (mOp addAll (mSl slL (mVar 1) (oNone) (oSome (mC (.int 6)))) (mLst (aCons (mOp addD (mSl slD (mVar 3) (oNone) (oSome (mVar 8))) (mSl slD (mVar 3) (oSome (mOp addD (mVar 8) (mC (.int 1)))) (oNone))) (aNil)))))) (sNil)) (sSeq (sIf (mT (mOp eqD (mVar 4) (mC (.int 3)))) (sRet (mOp addAll (mOp addAll (mSl slL (mVar 1) (oNone) (oSome (mC (.int 1)))) (mSl slL (mVar 6) (oSome (mC (.int 1))) (oSome (mC (.int 6))))) (mLst (aCons (mRev revT (mVar 3)) (aNil))))) (sNil)) (sSeq (sSet 9 (mOp idxD (mVar 3) (mUn negD (mC (.int 1))))) (sSeq (sSet 10 (mCallD u__law_taken (aCons (mSl slD (mVar 3) (oNone) (oSome (mUn negD (mC (.int 1))))) (aNil)))) (sRet (mOp addAll (mSl slL (mVar 1) (oNone) (oSome (mC (.int 6)))) (mLst (aCons (mOp addD (mSl slD (mVar 3) (oNone) (oSome (mUn negD (mC (.int 1))))) (mTup (aCons (mTup (aCons (mOp idxD (mVar 9) (mC (.int 0))) (aCons (mOp idxD (mVar 9) (mC (.int 1))) (aCons (mCallD u__law_marks (aCons (mVar 0) (aCons (mVar 2) (aCons (mVar 10) (aCons (mC (.int 3)) (aNil)))))) (aNil))))) (aNil)))) (aNil))))))))))))))
def u__law_walk : MD := mkD 2 8 (sSeq (sOwn 2 (mLst (aNil))) (sSeq (sFor (seqI (mOp idxD (mVar 0) (mC (.int 6)))) (gSeq (gsCons (gNm 3) (gsCons (gNm 4) (gsCons (gNm 5) (gsNil))))) (sApp 2 (mTup (aCons (mCall minLD (aCons (mLc [6] (seqI (mVar 5)) (cNm 6) (yesT) (mOp modD (mCall intD (aCons (mOp subD (mVar 6) (mVar 1)) (aNil))) (mOp idxD (mVar 0) (mC (.int 0))))) (aNil))) (aCons (mVar 3) (aNil)))))) (sFrz 2 (sRet (mLc [7, 3] (seqI (mCallD (fun ds s => lft (sortedD ds) s) (aCons (mVar 2) (aNil)))) (cTup [7, 3]) (yesT) (mVar 3))))))
def u__law_keepers : MD := mkD 2 9 (sSeq (sPar [2, 3] (xVal (mCallD u__law_walk (aCons (mVar 0) (aCons (mVar 1) (aNil)))) (xVal (mOp idxD (mVar 0) (mC (.int 1))) (xNil)))) (sSeq (sIf (mT (mOp eqD (mOp idxD (mVar 0) (mC (.int 2))) (mC (.str "hosts")))) (sRet (mCall tupleD (aCons (mSl slL (mVar 2) (oNone) (oSome (mVar 3))) (aNil)))) (sNil)) (sSeq (sPar [4, 5, 6] (xVal (mCallD (fun ds s => lft (dictPD ds) s) (aCons (mLc [7] (seqI (mOp idxD (mVar 0) (mC (.int 6)))) (cNm 7) (yesT) (mTup (aCons (mOp idxD (mVar 7) (mC (.int 0))) (aCons (mOp idxD (mVar 7) (mC (.int 1))) (aNil))))) (aNil))) (xOwn (mLst (aNil)) (xOwn (mLst (aNil)) (xNil))))) (sSeq (sFor (seqI (mVar 2)) (gNm 7) (sSeq (sIf (tBor 5 (tBor 6 (tAndZ (mT (mOp notInAD (mOp idxDic (mVar 4) (mVar 7)) (mVar 5))) (mT (mOp ltD (mCall lenD (aCons (mVar 6) (aNil))) (mVar 3)))))) (sApp 6 (mVar 7)) (sNil)) (sApp 5 (mOp idxDic (mVar 4) (mVar 7))))) (sSeq (sFrz 6 (sOwn 8 (mLc [7] (seqI (mVar 2)) (cNm 7) (mT (mOp notInAD (mVar 7) (mVar 6))) (mVar 7)))) (sFrz 8 (sRet (mCall tupleD (aCons (mOp addAll (mVar 6) (mSl slL (mVar 8) (oNone) (oSome (mOp subD (mVar 3) (mCall lenD (aCons (mVar 6) (aNil))))))) (aNil))))))))))
def u__law_arcs : MD := mkD 2 6 (sSeq (sIf (mT (mOp eqD (mCall lenD (aCons (mVar 1) (aNil))) (mVar 0))) (sRet (mTup (aCons (mTup (aCons (mC (.int 0)) (aCons (mVar 0) (aNil)))) (aNil)))) (sNil)) (sSeq (sOwn 2 (mLst (aNil))) (sSeq (sFor (seqI (mVar 1)) (gNm 3) (sIf (mT (mOp notInAD (mOp modD (mCall intD (aCons (mOp subD (mVar 3) (mC (.int 1))) (aNil))) (mVar 0)) (mVar 1))) (sSeq (sOwn 4 (mLc [5] (rng2I (aCons (mC (.int 1)) (aCons (mVar 0) (aNil)))) (cNm 5) (mT (mOp notInAD (mOp modD (mCall intD (aCons (mOp addD (mVar 3) (mVar 5)) (aNil))) (mVar 0)) (mVar 1))) (mVar 5))) (sFrz 4 (sApp 2 (mTup (aCons (mVar 3) (aCons (mOp idxD (mVar 4) (mC (.int 0))) (aNil))))))) (sNil))) (sFrz 2 (sRet (mCall tupleD (aCons (mVar 2) (aNil))))))))
def u_arcs_of : MD := mkD 3 8 (sSeq (sIf (mT (mCall allD (aCons (mVar 2) (aNil)))) (sRet (mTup (aCons (mTup (aCons (mC (.int 0)) (aCons (mVar 0) (aNil)))) (aNil)))) (sNil)) (sSeq (sOwn 3 (mLst (aNil))) (sSeq (sSet 4 (mOp indexB (mVar 2) (mC (.bl false)))) (sSeq (sFor (seqI (mLst (aStarR2 (mVar 4) (mCall lenD (aCons (mVar 1) (aNil))) (aStarR1 (mVar 4) (aNil))))) (gNm 5) (sSeq (sAsg (gSeq (gsCons (gNm 6) (gsCons (gNm 7) (gsNil)))) (mSl slD (mOp idxD (mVar 1) (mVar 5)) (oNone) (oSome (mC (.int 2))))) (sIf (tAndZ (mT (mOp idxD (mVar 2) (mVar 5))) (mT (mOp idxD (mVar 2) (mOp subD (mVar 5) (mC (.int 1)))))) (sPutL 3 (mUn negD (mC (.int 1))) (mBor 3 (mTup (aCons (mOp idxD (mOp idxD (mVar 3) (mUn negD (mC (.int 1)))) (mC (.int 0))) (aCons (mOp addD (mOp idxD (mOp idxD (mVar 3) (mUn negD (mC (.int 1)))) (mC (.int 1))) (mVar 7)) (aNil)))))) (sIf (mT (mOp idxD (mVar 2) (mVar 5))) (sApp 3 (mTup (aCons (mVar 6) (aCons (mVar 7) (aNil))))) (sNil))))) (sFrz 3 (sRet (mCall tupleD (aCons (mCallD (fun ds s => lft (sortedD ds) s) (aCons (mVar 3) (aNil))) (aNil)))))))))
def u_unlike_of : MD := mkD 2 4 (sSeq (sSet 2 (mCallD u_common_of (aCons (mVar 0) (aCons (mVar 1) (aNil))))) (sRet (mCallD u_arcs_of (aCons (mProp "Ring" u_Ring_points (mVar 0)) (aCons (mVar 2) (aCons (mLc [3] (seqI (mVar 2)) (cNm 3) (yesT) (mOp neD (mOp idxD (mVar 3) (mC (.int 2))) (mOp idxD (mVar 3) (mC (.int 3))))) (aNil)))))))
def u_unlike_arcs : MD := mkD 2 2 (sSeq (sExpr (mCallD u_check_both (aCons (mVar 0) (aCons (mVar 1) (aNil))))) (sRet (mCallD u_unlike_of (aCons (mVar 0) (aCons (mVar 1) (aNil))))))
def u_alien_of : MD := mkD 2 4 (sSeq (sSet 2 (mCallD u_common_of (aCons (mVar 0) (aCons (mVar 1) (aNil))))) (sRet (mCallD u_arcs_of (aCons (mProp "Ring" u_Ring_points (mVar 0)) (aCons (mVar 2) (aCons (mLc [3] (seqI (mVar 2)) (cNm 3) (yesT) (mOp neD (mCallD (fun ds s => lft (sortedTD ds) s) (aCons (mOp idxD (mVar 3) (mC (.int 2))) (aNil))) (mCallD (fun ds s => lft (sortedTD ds) s) (aCons (mOp idxD (mVar 3) (mC (.int 3))) (aNil))))) (aNil)))))))
def u_alien_arcs : MD := mkD 2 2 (sSeq (sExpr (mCallD u_check_both (aCons (mVar 0) (aCons (mVar 1) (aNil))))) (sRet (mCallD u_alien_of (aCons (mVar 0) (aCons (mVar 1) (aNil))))))
def u_alike : MD := mkD 2 2 (sRet (mOp eqD (mCallD u_unlike_arcs (aCons (mVar 0) (aCons (mVar 1) (aNil)))) (mTup (aNil))))
def u_kin : MD := mkD 2 2 (sRet (mOp eqD (mCallD u_alien_arcs (aCons (mVar 0) (aCons (mVar 1) (aNil)))) (mTup (aNil))))
def u__law_purse : MD := mkF 2 5 (sSeq (sIf (mT (mOp ltD (mVar 1) (mCall lenD (aCons (mVar 0) (aNil))))) (sSeq (sSet 2 (mOp idxD (mVar 0) (mVar 1))) (sSeq (sSet 3 (mIf (tOrZ (mT (mOp ltD (mVar 2) (mC (.int 0)))) (mT (mOp geD (mVar 2) (mOp powD (mC (.int 10)) (mC (.int 18)))))) (mCall absD (aCons (mVar 2) (aNil))) (mC (.int 0)))) (sRto (mLst (aCons (mVar 3) (aCons (mOp modD (mCall intD (aCons (mOp addD (mOp addD (mOp mulD (mVar 2) (mC (.int 39373))) (mOp mulD (mC (.int 104723)) (mVar 1))) (mC (.int 17))) (aNil))) (mC (.int 2147483629))) (aCons (mC (.int 0)) (aNil)))))))) (sNil)) (sSeq (sSet 4 (mOp addD (mOp mulD (mC (.int 86243)) (mVar 1)) (mC (.int 131)))) (sSeq (sFor (seqI (mSl slL (mVar 0) (oNone) (oSome (mC (.int 4))))) (gNm 2) (sSet 4 (mOp modD (mCall intD (aCons (mOp addD (mOp mulD (mVar 4) (mC (.int 48271))) (mVar 2)) (aNil))) (mC (.int 2147483587))))) (sRto (mLst (aCons (mC (.int 0)) (aCons (mVar 4) (aCons (mC (.int 0)) (aNil)))))))))
def u__law_is_apart : MD := mkD 2 7 (sSeq (sIf (mT (mOp eqD (mVar 1) (mTup (aCons (mTup (aCons (mC (.int 0)) (aCons (mVar 0) (aNil)))) (aNil))))) (sRet (mC (.bl true))) (sNil)) (sSeq (sFor (rngI (aCons (mCall lenD (aCons (mVar 1) (aNil))) (aNil))) (gNm 2) (sSeq (sAsg (gSeq (gsCons (gNm 3) (gsCons (gNm 4) (gsNil)))) (mOp idxD (mVar 1) (mVar 2))) (sSeq (sSet 5 (mOp idxD (mVar 1) (mOp subD (mVar 2) (mC (.int 1))))) (sSeq (sSet 6 (mIf (mT (mOp eqD (mCall lenD (aCons (mVar 1) (aNil))) (mC (.int 1)))) (mOp subD (mVar 0) (mVar 4)) (mOp modD (mCall intD (aCons (mOp subD (mOp subD (mVar 3) (mOp idxD (mVar 5) (mC (.int 0)))) (mOp idxD (mVar 5) (mC (.int 1)))) (aNil))) (mVar 0)))) (sIf (tOrZ (tNotZ (mT (mChain leD ltD (mC (.int 0)) (mVar 3) (mVar 0)))) (tOrZ (mT (mOp ltD (mVar 4) (mC (.int 1)))) (tOrZ (mT (mOp ltD (mVar 6) (mC (.int 1)))) (tAndZ (mT (mOp gtD (mVar 2) (mC (.int 0)))) (mT (mOp leD (mVar 3) (mOp idxD (mVar 5) (mC (.int 0))))))))) (sRet (mC (.bl false))) (sNil)))))) (sRet (mOp ltD (mCall sumD (aCons (mLc [3, 4] (seqI (mVar 1)) (cTup [3, 4]) (yesT) (mVar 4)) (aNil))) (mVar 0)))))
def u__law_spots : MD := mkD 3 9 (sSeq (sSet 3 (mLst (aNil))) (sSeq (sFor (seqI (mVar 1)) (gNm 4) (sSet 3 (mOp addAll (mOp addAll (mVar 3) (mCall listD (aCons (mOp idxD (mVar 4) (mC (.int 2))) (aNil)))) (mLc [5] (seqI (mOp idxD (mVar 4) (mC (.int 2)))) (cNm 5) (yesT) (mOp modD (mCall intD (aCons (mOp addD (mVar 5) (mC (.int 1))) (aNil))) (mVar 0)))))) (sSeq (sFor (seqI (mVar 2)) (gSeq (gsCons (gNm 6) (gsCons (gNm 7) (gsNil)))) (sSet 3 (mOp addAll (mVar 3) (mLc [8] (seqI (mLst (aCons (mUn negD (mC (.int 1))) (aCons (mC (.int 0)) (aCons (mOp subD (mVar 7) (mC (.int 1))) (aCons (mVar 7) (aNil))))))) (cNm 8) (yesT) (mOp modD (mCall intD (aCons (mOp addD (mVar 6) (mVar 8)) (aNil))) (mVar 0)))))) (sRet (mVar 3)))))
def u__law_is_in : MD := mkD 3 3 (sRet (mOp ltD (mOp modD (mCall intD (aCons (mOp subD (mVar 2) (mOp idxD (mVar 0) (mC (.int 0)))) (aNil))) (mVar 1)) (mOp idxD (mVar 0) (mC (.int 1)))))
end C
end Z

set_option linter.all false
set_option maxRecDepth 100000
namespace Z
namespace C
open PySem
def u_P_law_made : MD := mkD 1 8 (sSeq (sAsg (gSeq (gsCons (gNm 1) (gsCons (gNm 2) (gsCons (gNm 3) (gsCons (gNm 4) (gsCons (gNm 5) (gsCons (gNm 6) (gsCons (gNm 7) (gsNil))))))))) (mVar 0)) (sRet (mCallD (mdMake "Ring" u_Ring___init__) (aCons (mVar 1) (aCons (mVar 2) (aCons (mVar 3) (aCons (mVar 4) (aCons (mVar 5) (aCons (mVar 6) (aCons (mVar 7) (aNil)))))))))))
def u_P_law_far : MD := mkD 2 4 (sSeq (sSet 2 (mC (.int 0))) (sSeq (sFor (rngI (aCons (mC (.int 3)) (aNil))) (gNm 3) (sSet 2 (mOp addD (mOp mulD (mVar 2) (mOp powD (mC (.int 10)) (mC (.int 6)))) (mCallD u__law_draw (aCons (mVar 0) (aCons (mOp powD (mC (.int 10)) (mC (.int 6))) (aNil))))))) (sRet (mOp modD (mCall intD (aCons (mVar 2) (aNil))) (mVar 1)))))
def u__law_great : MD := mkD 1 11 (sSeq (sSet 1 (mCallD u__law_pick (aCons (mVar 0) (aCons (mLst (aCons (mOp powD (mC (.int 10)) (mC (.int 18))) (aCons (mOp powD (mC (.int 10)) (mC (.int 18))) (aCons (mOp addD (mOp powD (mC (.int 10)) (mC (.int 6))) (mC (.int 3))) (aCons (mC (.int 97)) (aNil)))))) (aNil))))) (sSeq (sPar [2, 3] (xVal (mLst (aNil)) (xOwn (mLst (aNil)) (xNil)))) (sSeq (sFor (rngI (aCons (mOp addD (mC (.int 1)) (mCallD u__law_draw (aCons (mVar 0) (aCons (mC (.int 6)) (aNil))))) (aNil))) (gNm 4) (sSeq (sOwn 5 (mLst (aNil))) (sSeq (sFor (rngI (aCons (mOp addD (mC (.int 1)) (mCallD u__law_draw (aCons (mVar 0) (aCons (mC (.int 4)) (aNil))))) (aNil))) (gNm 6) (sSeq (sSet 7 (mCallD u__law_pick (aCons (mVar 0) (aCons (mLst (aCons (mCallD u_P_law_far (aCons (mVar 0) (aCons (mVar 1) (aNil)))) (aCons (mCallD u__law_draw (aCons (mVar 0) (aCons (mC (.int 40)) (aNil)))) (aCons (mOp subD (mVar 1) (mC (.int 1))) (aNil))))) (aNil))))) (sIf (tBor 5 (mT (mOp notInAD (mVar 7) (mOp addAll (mVar 2) (mVar 5))))) (sApp 5 (mVar 7)) (sNil)))) (sFrz 5 (sIf (mT (mOp neD (mVar 5) (mLst (aNil)))) (sSeq (sApp 3 (mTup (aCons (mOp idxD (mC (.str "abcdefgh")) (mVar 4)) (aCons (mCallD u__law_pick (aCons (mVar 0) (aCons (mLst (aCons (mC (.str "r1")) (aCons (mC (.str "r2")) (aCons (mC (.str "r3")) (aNil))))) (aNil)))) (aCons (mCall tupleD (aCons (mCallD (fun ds s => lft (sortedD ds) s) (aCons (mVar 5) (aNil))) (aNil))) (aNil)))))) (sSet 2 (mOp addAll (mVar 2) (mVar 5)))) (sNil)))))) (sSeq (sFrz 3 (sIf (mT (mOp eqD (mVar 3) (mLst (aNil)))) (sOwn 3 (mLst (aCons (mTup (aCons (mC (.str "a")) (aCons (mC (.str "r1")) (aCons (mTup (aCons (mC (.int 5)) (aNil))) (aNil))))) (aNil)))) (sNil))) (sSeq (sSet 8 (mOp addD (mC (.int 1)) (mCallD u__law_draw (aCons (mVar 0) (aCons (mC (.int 5)) (aNil)))))) (sSeq (sOwn 9 (mLc [4] (rngI (aCons (mC (.int 2)) (aNil))) (cNm 4) (yesT) (mOp addD (mC (.int 1)) (mCallD u__law_draw (aCons (mVar 0) (aCons (mVar 8) (aNil))))))) (sSeq (sSet 10 (mLst (aCons (mCallD u__law_pick (aCons (mVar 0) (aCons (mLst (aCons (mC (.str "hosts")) (aCons (mC (.str "racks")) (aNil)))) (aNil)))) (aCons (mCallD u__law_pick (aCons (mVar 0) (aCons (mLst (aCons (mC (.str "plain")) (aCons (mC (.str "with")) (aNil)))) (aNil)))) (aNil))))) (sFrz 9 (sFrz 3 (sRet (mLst (aCons (mVar 1) (aCons (mVar 8) (aCons (mOp idxD (mVar 10) (mC (.int 0))) (aCons (mOp idxD (mVar 9) (mC (.int 0))) (aCons (mOp idxD (mVar 9) (mC (.int 1))) (aCons (mOp idxD (mVar 10) (mC (.int 1))) (aCons (mCall tupleD (aCons (mVar 3) (aNil))) (aNil)))))))))))))))))))
def u__law_due : MD := mkD 2 9 (sSeq (sSet 2 (mSos (mLc [3] (seqI (mOp addD (mOp idxD (mVar 0) (mC (.int 6))) (mOp idxD (mVar 1) (mC (.int 6))))) (cNm 3) (yesT) (mOp idxD (mVar 3) (mC (.int 0)))))) (sSeq (sPar [4, 5] (xOwn (mCallD (fun ds s => lft (dictPD ds) s) (aCons (mLc [3] (seqI (mVar 2)) (cNm 3) (yesT) (mTup (aCons (mVar 3) (aCons (mC (.int 0)) (aNil))))) (aNil))) (xOwn (mCallD (fun ds s => lft (dictPD ds) s) (aCons (mLc [3] (seqI (mVar 2)) (cNm 3) (yesT) (mTup (aCons (mVar 3) (aCons (mC (.int 0)) (aNil))))) (aNil))) (xNil)))) (sSeq (sFor (rngI (aCons (mOp idxD (mVar 0) (mC (.int 0))) (aNil))) (gNm 6) (sSeq (sPar [7, 8] (xVal (mCallD u__law_keepers (aCons (mVar 0) (aCons (mVar 6) (aNil)))) (xVal (mCallD u__law_keepers (aCons (mVar 1) (aCons (mVar 6) (aNil)))) (xNil)))) (sFor (seqI (mVar 2)) (gNm 3) (sSeq (sPutK 4 (mVar 3) (mBor 4 (mOp addD (mOp idxDic (mVar 4) (mVar 3)) (mIf (tAndZ (mT (mOp inAD (mVar 3) (mVar 8))) (mT (mOp notInAD (mVar 3) (mVar 7)))) (mC (.int 1)) (mC (.int 0)))))) (sPutK 5 (mVar 3) (mBor 5 (mOp addD (mOp idxDic (mVar 5) (mVar 3)) (mIf (tAndZ (mT (mOp inAD (mVar 3) (mVar 7))) (mT (mOp notInAD (mVar 3) (mVar 8)))) (mC (.int 1)) (mC (.int 0)))))))))) (sFrz 5 (sFrz 4 (sRet (mCall tupleD (aCons (mLc [3] (seqI (mVar 2)) (cNm 3) (yesT) (mTup (aCons (mVar 3) (aCons (mOp idxDic (mVar 4) (mVar 3)) (aCons (mOp idxDic (mVar 5) (mVar 3)) (aNil)))))) (aNil)))))))))
end C
end Z

set_option Elab.async false
set_option linter.all false
set_option maxRecDepth 100000
set_option maxHeartbeats 4000000
namespace Z
open PySem PySem.Spec PyProof.Rows L2
/-! ### objects that stand as cells: read, written -/
def mFldC (c f : Str) (mo : ME) : ME := fun e s => bnd (mo e s) fun d s => match d with
  | .cel n => match s[n]? with
    | some (.obj c' fs) => if c' = c then lft (lookF fs f) s else none
    | _ => none
  | _ => none
section
variable {X : Cx} {o a : Expr} {f : Str} {pos pos' apos cpos : Pos} {mo me : ME}
/-- o.f = value, o an object that stands as a cell -/
def sFldC (c f : Str) (mo m : ME) : MS := fun e s => bndS (m e s) fun d s => bndS (mo e s) fun o s => match o with
  | .cel n => match s[n]? with
    | some (.obj c' fs) => if c' = c ∧ fs.length < 1000 then some (.nx, e, s.set n (.obj c (putFD f d fs))) else none
    | _ => none
  | _ => none
/-- o.append(value), o a list that stands as a cell -/
def sAppC (mo m : ME) : MS := fun e s => bndS (mo e s) fun o s1 => match o with
  | .cel n => match s1[n]? with
    | some (.lst _) => bndS (m e s1) fun d s2 => match s2[n]? with
      | some (.lst ds) => if ds.length < sizeLine then some (.nx, e, s2.set n (.lst (ds ++ [d]))) else none
      | _ => none
    | _ => none
  | _ => none
end
/-! ### an __init__ whose self stands as a cell, with at most one list of its own -/
mutual
def bel (k : Nat) : D → Bool
  | .cel n => decide (n < k)
  | .tup ds => bels k ds
  | .lst ds => bels k ds
  | .dic kvs => belK k kvs
  | .obj _ fs => belF k fs
  | _ => true
def bels (k : Nat) : List D → Bool
  | [] => true
  | d :: ds => bel k d && bels k ds
def belK (k : Nat) : List (Key × D) → Bool
  | [] => true
  | (_, d) :: r => bel k d && belK k r
def belF (k : Nat) : List (Str × D) → Bool
  | [] => true
  | (_, d) :: r => bel k d && belF k r
end
section
variable {K : PySem.W.Frag} {g g' : G} {k : Nat}
/-- a field's list that stood as the cell k + 1 -/
def thawD (k : Nat) (l : D) : D → D
  | .cel n => if n = k then l else .cel n
  | d => d
def belC (k : Nat) (d : D) : Bool := match d with
  | .cel n => decide (n < k) || decide (n = k + 1)
  | d => bel k d
end
/-- the object and its list, taken off the store again -/
def popO (k : Nat) (c : Str) (r : Option (Fl × EnvD × S)) : Option (List (Str × D) × S) := match r with
  | some (.nx, _, s) => match (s.take k).all (bel k) with
    | true => match s.drop k with
      | [.obj c' fs] => if c' = c ∧ belF k fs = true then some (fs, s.take k) else none
      | [.obj c' fs, .lst ds] => if c' = c ∧ bels k ds = true ∧ fs.all (fun p => belC k p.2) = true then some (fs.map fun p => (p.1, thawD (k + 1) (.lst ds) p.2), s.take k) else none
      | _ => none
    | false => none
  | _ => none
def startO (n m k : Nat) (ds : List D) : EnvD := .val (.cel k) :: startE n (m - 1) ds
def mkO (c : Str) (n m : Nat) (b : MS) : MI0 := fun ds s => if ds.length = n then popO s.length c (b (startO n m s.length ds) (s ++ [.obj c []])) else none
section
variable {K : PySem.W.Frag} {g g' : G} {H H' : Hp} {s s2 : Z.S} {x : Addr} {c : Str} {fs : List (Str × D)} {ds : List D}
end
section
variable {P : Program} {w : World} {K : PySem.W.Frag} {mg : Str → Option Value} {base : Heap} {d : DefZ} {N ps : List Str} {k n m : Nat} {b : MS} {c : Str}
end
end Z

set_option Elab.async false
set_option linter.all false
set_option maxRecDepth 100000
set_option maxHeartbeats 4000000
namespace Z
open PySem PySem.Spec PyProof.Rows L2
/-! ### a dict of the module, text to number: d.get(key) -/
def lookSI (kvs : List (Str × Int)) (z : Str) : Option Int := (kvs.find? fun p => p.1 == z).map (·.2)
def mGetK (kvs : List (Str × Int)) (m : ME) : ME := fun e s => bnd (m e s) fun d s => match d with
  | .str z => some (match lookSI kvs z with | some i => .int i | none => .non, s)
  | _ => none
section
variable {X : Cx} {e : Expr} {x : Str} {p apos cpos : Pos} {m : ME} {kvs : List (Str × Int)}
end
/-! ### f(e, .., *t) -/
section
variable {X : Cx} {d : DefZ} {ps : List Str} {k j : Nat} {x : Str} {p pos : Pos} {e : Expr} {es : List Expr} {t : TA} {md : MD} {ma : MA}
end
/-! ### a dict display -/
inductive RepPs (K : PySem.W.Frag) (g : G) : List (V × V) → List (D × D) → Prop
  | nil : RepPs K g [] []
  | cons {x y a b ps ds} : Rep K g x a → Rep K g y b → RepPs K g ps ds → RepPs K g ((x, y) :: ps) ((a, b) :: ds)
theorem RepPs.mono {K : PySem.W.Frag} {g g' : G} (L : GLe g g') : ∀ {ps ds}, RepPs K g ps ds → RepPs K g' ps ds
  | _, _, .nil => .nil
  | _, _, .cons h1 h2 r => .cons (h1.mono L) (h2.mono L) (RepPs.mono L r)
def mPairs : List (ME × ME) → EnvD → S → Option (List (D × D) × S)
  | [], _, s => some ([], s)
  | (mk, mv) :: r, e, s => bnd (mk e s) fun a s => bnd (mv e s) fun b s => bnd (mPairs r e s) fun ps s => some ((a, b) :: ps, s)
def keysD : List (D × D) → Option (List (Key × D))
  | [] => some []
  | (a, b) :: r => match keyD a with
    | some k => (keysD r).map ((k, b) :: ·)
    | none => none
def dispD (acc : List (Key × D)) (more : List (Key × D)) : List (Key × D) := more.foldl (fun acc kv => putD acc kv.1 kv.2) acc
theorem RepK.merge {K : PySem.W.Frag} {g : G} : ∀ {ms : List (Key × V)} {md : List (Key × D)} {vs : List (Key × V)} {ds : List (Key × D)}, RepK K g ms md → RepK K g vs ds → RepK K g (mergeK vs ms) (dispD ds md)
  | _, _, _, _, .nil, h => h
  | _, _, _, _, .cons h r, q => RepK.merge (vs := putK _ _ _) (ds := putD _ _ _) r (q.put h)
theorem keysD_ok {K : PySem.W.Frag} {g : G} : ∀ {ps : List (V × V)} {ds : List (D × D)} {kd : List (Key × D)}, RepPs K g ps ds → keysD ds = some kd → ∃ kvs, ps = kvs.map (fun kv => (kV kv.1, kv.2)) ∧ RepK K g kvs kd ∧ kvs.length = ds.length
  | _, _, _, .nil, h => by cases h; exact ⟨[], rfl, .nil, rfl⟩
  | _, _, _, .cons (y := y) h1 h2 r, h => by
    unfold keysD at h
    split at h
    · rename_i k hk
      obtain ⟨q, h3, rfl⟩ := Option.map_eq_some_iff.mp h
      obtain ⟨kvs, e1, e2, e3⟩ := keysD_ok r h3
      refine ⟨(k, y) :: kvs, ?_, .cons h2 e2, by simp [e3]⟩
      rw [e1, rep_key h1 hk]; rfl
    · cases h
theorem tPairs_of {K : PySem.W.Frag} : ∀ (ms : List (ME × ME)) {σ : L2.St} {H : Hp} {Q : List (V × V) → Hp → Prop} {g : G} {e : EnvD} {s s' : Z.S} {ds : List (D × D)}, SRel K g H s → EnvRel K g H σ e → mPairs ms e s = some (ds, s') →
    (∀ ps g' H', Step K g H g' H' s' → RepPs K g' ps ds → Q ps H') → tPairs (ms.map fun m => (trE K m.1, trE K m.2)) σ H Q
  | [], σ, H, Q, g, e, s, s', ds, R, E, hm, k => by
    cases hm
    exact k [] g H (.refl R) .nil
  | (mk, mv) :: r, σ, H, Q, g, e, s, s', ds, R, E, hm, k => by
    obtain ⟨a, s1, h1, hm1⟩ := bnd_some hm
    obtain ⟨b, s2, h2, hm2⟩ := bnd_some hm1
    obtain ⟨ps, s3, h3, hm3⟩ := bnd_some hm2
    cases hm3
    refine ⟨g, e, s, a, s1, R, E, h1, fun x g1 H1 st1 rx => ⟨g1, e, s1, b, s2, st1.rel, E.step st1, h2, fun y g2 H2 st2 ry => ?_⟩⟩
    refine tPairs_of r st2.rel ((E.step st1).step st2) h3 fun qs g3 H3 st3 rq => ?_
    exact k _ g3 H3 ((st1.trans st2).trans st3) (.cons ((rx.mono st2.le).mono st3.le) (ry.mono st3.le) rq)
def mDisp (ms : List (ME × ME)) : ME := fun e s => bnd (mPairs ms e s) fun ps s => match keysD ps with
  | some kvs => if ps.length ≤ 15 then some (.dic (dispD [] kvs), s) else none
  | none => none
theorem f_disp {X : Cx} {pos : Pos} {keys : List (Option Expr)} {values : List Expr} {ms : List (ME × ME)} (h : PPs X pos keys values (ms.map fun m => (trE X.K m.1, trE X.K m.2))) (hall : keys.all (·.isSome) = true := by rfl) (hl : keys.length = values.length := by rfl) (h0 : keys ≠ [] := by decide)
    (h15 : keys.length ≤ 15 := by decide) : PE X (.Dict keys values pos) (trF X.K (mDisp ms)) := PE.imp (pe_disp h hall hl h0 h15) fun σ H Q ⟨g, e, s, d, s', R, E, hm, k⟩ => by
  intro p hp
  obtain ⟨ps, s1, h1, hm1⟩ := bnd_some hm
  split at hm1
  · rename_i kd hk
    split at hm1
    · rename_i hlen
      cases hm1
      obtain ⟨st0, z1, z2, z3⟩ := (Step.refl R).new1 (u := .dK []) hp
      refine tPairs_of ms st0.rel (E.step st0) h1 fun qs g' H' st rq => ?_
      obtain ⟨w1, w2, w3⟩ := st.apart upd_same z3 z2
      obtain ⟨kvs, e1, e2, e3⟩ := keysD_ok rq hk
      refine ⟨w1, kvs, e1, by omega, ?_⟩
      exact k p g' _ ((st0.trans st).put z1 w2 w3) z1 w3 w2 ⟨_, upd_same, e2.merge .nil⟩
    · cases hm1
  · cases hm1
/-! ### all parameters written, though there are defaults -/
section
variable {ex : PySem.W.Frag → Bool} {fn : List DefZ} {ts : List TabZ} {w : World} {K : PySem.W.Frag}
theorem SaysG.z (c : SaysG ex fn ts w K) : SaysZ ex fn K := congrArg (fun z : AlG => z.1) c
theorem SaysG.tab (c : SaysG ex fn ts w K) (i : Nat) {t : TabZ} (h : ts[i]? = some t := by rfl) : ∃ es n, KDict K w (He.ga K t.1) es n := by
  have e : ts.map (fun t => He.dicW K (He.ga K t.1)) = ts.map fun t => some (He.keysIn w.params t.2) := congrArg (fun z : AlG => z.2) c
  have e2 : (ts.map fun t => He.dicW K (He.ga K t.1))[i]? = (ts.map fun t => some (He.keysIn w.params t.2))[i]? := by rw [e]
  rw [List.getElem?_map, List.getElem?_map, h] at e2
  exact He.dicW_ok (Option.some.inj e2)
end
/-- what a law's text knows, tables too -/
structure TxG (ex : List (PySem.W.Frag → Bool)) (fn : List DefZ) (ts : List TabZ) (w : World) (K : PySem.W.Frag) (mg : Str → Option Value) : Prop extends TxOf ex fn K mg where
  tab : ∀ (i : Nat) (t : TabZ), ts[i]? = some t → ∃ es n, KDict K w (He.ga K t.1) es n
end Z

set_option Elab.async false
set_option linter.all false
set_option maxRecDepth 100000
set_option maxHeartbeats 4000000
namespace Z
open PySem PySem.Spec PyProof.Rows L2
/-! ### an item of a list of one's own, read -/
def mIxO (i : Nat) (mb : ME) : ME := fun e s => bnd (mb e s) fun k s1 => match e[i]?, k with
  | some (.own (.lst ds)), .int j => (atI ds j).map fun d => (d, s1)
  | _, _ => none
section
variable {X : Cx} {b : Expr} {x : Str} {mb : ME} {p pos : Pos}
end
end Z

set_option Elab.async false
set_option linter.all false
set_option maxRecDepth 100000
set_option maxHeartbeats 4000000
namespace Z
open PySem PySem.Spec PyProof.Rows L2
/-! ### a dict whose keys are nested tuples: filled by setdefault in a loop, its values listed -/
mutual
def toNK : D → Option NestedKey
  | .non => some .none
  | .bl b => some (.num (if b = true then 1 else 0))
  | .int i => some (.num i)
  | .str x => some (.text x)
  | .tup ds => (toNKs ds).map .tup
  | _ => none
def toNKs : List D → Option (List NestedKey)
  | [] => some []
  | d :: ds => match toNK d with
    | some k => (toNKs ds).map (k :: ·)
    | none => none
end
section
variable {K : PySem.W.Frag} {g g' : G} {H H' : Hp} {s : S} {P : Program} {w : World} {h : Heap}
inductive RepN (K : PySem.W.Frag) (g : G) : List (NestedKey × Addr × V) → List (NestedKey × D) → Prop
  | nil : RepN K g [] []
  | cons {k a v dk d xs es} : toNK dk = some k → k.depth ≤ 8 → Rep K g (.ref a) dk → Rep K g v d → RepN K g xs es → RepN K g ((k, a, v) :: xs) ((k, d) :: es)
theorem RepN.mono (L : GLe g g') : ∀ {xs es}, RepN K g xs es → RepN K g' xs es
  | _, _, .nil => .nil
  | _, _, .cons h1 h2 h3 h4 r => .cons h1 h2 (h3.mono L) (h4.mono L) (RepN.mono L r)
theorem RepN.length : ∀ {xs es}, RepN K g xs es → xs.length = es.length
  | _, _, .nil => rfl
  | _, _, .cons _ _ _ _ r => by simp [RepN.length r]
theorem RepN.keys : ∀ {xs es}, RepN K g xs es → xs.map (·.1) = es.map (·.1)
  | _, _, .nil => rfl
  | _, _, .cons _ _ _ _ r => by simp [RepN.keys r]
abbrev KN : List (NestedKey × Addr × V) → List (NestedKey × Addr × Value) → Prop := Paired fun p q => p.1 = q.1 ∧ p.2.1 = q.2.1 ∧ RelV p.2.2 q.2.2
def KdO (P : Program) (w : World) (a : Addr) (xs : List (NestedKey × Addr × V)) : HO := .ext fun h => (a == sysModules) = false ∧ xs.length ≤ sizeLine ∧ ∃ us, KN xs us ∧
  ∃ o es ep, h.get? a = some o ∧ o.ExactDict ∧ o.data = .dict es ep ∧ es.toList = us.map (entryOfKey (nestedKind P w)) ∧ (us.map (·.1)).Nodup
end
section
variable {X : Cx} {pins : List (Addr × Obj)} {σ : L2.St} {H : Hp} {st : Shared} {a : Addr} {xs : List (NestedKey × Addr × V)} {es : List (NestedKey × D)} {g : G} {s : S}
def rKds (X : Cx) (i : Nat) (tk tz : TE) : TE := fun σ H Q => ∃ a, σ[i]? = some (some (.ref a)) ∧ (∃ xs, H a = some (KdO X.prog X.w a xs)) ∧ tk σ H fun y H1 => tz σ H1 fun zv H2 =>
  ∃ (xs : List (NestedKey × Addr × V)) (k : NestedKey) (b : Addr) (dk : D) (es : List (NestedKey × D)) (s : S) (g : G), y = .ref b ∧ SRel X.K g H2 s ∧ H2 a = some (KdO X.prog X.w a xs) ∧ RepN X.K g xs es ∧ Rep X.K g (.ref b) dk ∧ toNK dk = some k ∧ k.depth ≤ 8 ∧ xs.length < sizeLine ∧
  (k ∈ xs.map (·.1) → ∀ v, Q v H2) ∧ (k ∉ xs.map (·.1) → Q zv (upd H2 a (KdO X.prog X.w a (xs ++ [(k, b, zv)]))))
variable {x : Str} {i : Nat} {e f : Expr} {tk tz : TE} {p pos apos cpos : Pos}
end
section
variable {X : Cx} {x : Str} {i : Nat} {p p0 pos apos cpos : Pos}
def rKdv (X : Cx) (i : Nat) : TE := fun σ H Q => ∃ (a : Addr) (xs : List (NestedKey × Addr × V)) (es : List (NestedKey × D)) (g : G) (s : S), σ[i]? = some (some (.ref a)) ∧ SRel X.K g H s ∧ H a = some (KdO X.prog X.w a xs) ∧ RepN X.K g xs es ∧
  ∀ l, H l = none → Q (.ref l) (upd H l (.lst (xs.map (·.2.2))))
end
end Z

set_option Elab.async false
set_option linter.all false
set_option maxRecDepth 100000
set_option maxHeartbeats 4000000
namespace Z
open PySem PySem.Spec PyProof.Rows L2
section
variable {K : PySem.W.Frag} {g g0 g1 : G} {H H0 H1 : Hp} {σ σ0 : L2.St} {e e0 : EnvD} {s s0 s1 : S} {a : Addr} {u : HO}
/-- what is known of the dict's place -/
structure AtA (K : PySem.W.Frag) (P : Program) (w : World) (g : G) (H : Hp) (σ : L2.St) (e : EnvD) (a : Addr) (xs : List (NestedKey × Addr × V)) (es : List (NestedKey × D)) : Prop where
  at' : H a = some (KdO P w a xs)
  f : g.F a = none
  c : a ∉ g.ad
  o : ¬ OwnA σ e a
  r : RepN K g xs es
variable {P : Program} {w : World} {xs : List (NestedKey × Addr × V)} {es : List (NestedKey × D)}
theorem AtA.put {ys : List (NestedKey × Addr × V)} {fs : List (NestedKey × D)} (x : AtA K P w g H σ e a xs es) (r : RepN K g ys fs) : AtA K P w g (upd H a (KdO P w a ys)) σ e a ys fs := ⟨upd_same, x.f, x.c, x.o, r⟩
end
/-! ### the block -/
def keyIn (acc : List (NestedKey × D)) (k : NestedKey) : Bool := decide (k ∈ acc.map (·.1))
def keyL (m1 mk : ME) (j l : Nat) : List D → EnvD → S → List (NestedKey × D) → Option (List (NestedKey × D) × S)
  | [], _, s, acc => some (acc, s)
  | d :: ds, e, s, acc => match m1 (e.set j (.val d)) s with
    | none => none
    | some (r, s1) => match mk ((e.set j (.val d)).set l (.val r)) s1 with
      | none => none
      | some (kd, s2) => match toNK kd with
        | some (.tup ks) => if (NestedKey.tup ks).depth ≤ 8 ∧ acc.length < sizeLine then keyL m1 mk j l ds ((e.set j (.val d)).set l (.val r)) s2 (if keyIn acc (.tup ks) then acc else acc ++ [(.tup ks, r)]) else none
        | _ => none
def runK (mi : MI) (m1 mk : ME) (j l : Nat) (e : EnvD) (s : S) : Option (List D × S) := match mi e s with
  | none => none
  | some (ds, s1) => if l < e.length then (keyL m1 mk j l ds e s1 []).map fun p => (p.1.map (·.2), p.2) else none
open Classical in
noncomputable def sKeyed (i j l : Nat) (mi : MI) (m1 mk : ME) : MS := fun e s => if h : i < e.length ∧ ∃ r : List D × S, ∀ v : V, runK mi m1 mk j l (e.set i (.val (.opq v))) s = some r then some (.ret (.lst h.2.choose.1), e.map (fun _ => Sl.unb), h.2.choose.2) else none
section
variable {X : Cx} {i j l : Nat} {x y z : Str} {it e1 ek : Expr} {mi : MI} {m1 mk : ME} {q1 q2 q3 q4 q5 q6 q7 q8 q9 qa qb qc qd qe qf qg : Pos}
end
section
variable {X : Cx} {x y z : Str} {it e1 ek : Expr} {mi : MI} {m1 mk : ME} {q1 q2 q3 q4 q5 q6 q7 q8 q9 qa qb qc qd qe qf qg qh qi : Pos} {k : Nat}
end
end Z

set_option Elab.async false
set_option linter.all false
set_option maxRecDepth 100000
set_option maxHeartbeats 4000000
namespace Z
open PySem PySem.Spec PyProof.Rows L2
/-! ### a op1 b op2 c op3 d as a test -/
def tChain3 (r1 r2 r3 : R2) (ta tb tc td : TE) : TT := fun σ H Q => ta σ H fun x H1 => tb σ H1 fun y H2 => r1 x y H2 fun z H3 => ∃ k, z = .bl k ∧
  (if k = true then tc σ H3 fun w H4 => r2 y w H4 fun z2 H5 => ∃ k2, z2 = .bl k2 ∧ (if k2 = true then td σ H5 fun v H6 => r3 w v H6 fun z3 H7 => ∃ k3, z3 = .bl k3 ∧ Q k3 H7 else Q false H5) else Q false H3)
section
variable {X : Cx} {a b c d : Expr} {ta tb tc td : TE} {ma mb mc md : ME} {pos : Pos}
def mCh3 (f1 f2 f3 : D → D → Option D) (ma mb mc md : ME) : MT := fun e s => bnd (ma e s) fun a s => bnd (mb e s) fun b s => bnd (lft (f1 a b) s) fun k s => match k with
  | .bl true => bnd (mc e s) fun c s => bnd (lft (f2 b c) s) fun k s => match k with
    | .bl true => bnd (md e s) fun d s => bnd (lft (f3 c d) s) fun k s => match k with
      | .bl t => some (t, s)
      | _ => none
    | .bl false => some (false, s)
    | _ => none
  | .bl false => some (false, s)
  | _ => none
end
end Z

set_option Elab.async false
set_option linter.all false
set_option maxRecDepth 100000
set_option maxHeartbeats 4000000
namespace Z
open PySem PySem.Spec PyProof.Rows L2
/-! ### C(x), the last parameter of __init__ left to its default () -/
def nilTB (K : PySem.W.Frag) (a : Addr) : Bool := match K.lookup a with
  | some o => (o.cls == .type "tuple") && (match o.data with
    | .seq its _ => its.isEmpty
    | _ => false)
  | none => false
def miD (mi : MI0) : MI0 := fun ds s => mi (ds ++ [.tup []]) s
section
variable {X : Cx} {d : DefZ} {ps : List Str} {j k : Nat} {mi : MI0} {c x : Str} {p pos : Pos} {e : Expr} {es : List Expr} {ma : MA} {a : Addr}
end
end Z

set_option Elab.async false
set_option linter.all false
set_option maxRecDepth 100000
set_option maxHeartbeats 4000000
namespace Z
open PySem PySem.Spec PyProof.Rows L2 PySem.W
/-! ### a dict of tuple keys, its values all True: a cell -/
def unKy : D → Option Key
  | .int i => some (.inl i)
  | .str x => some (.inr x)
  | _ => none
def unKs : List D → Option (List Key)
  | [] => some []
  | d :: ds => match unKy d with
    | some k => (unKs ds).map (k :: ·)
    | none => none
def unKT : D → Option (List Key)
  | .tup ds => unKs ds
  | _ => none
section
variable {K : PySem.W.Frag} {g g1 : G} {H H1 : Hp} {s s1 : S} {a : Addr}
/-- tuples that stand are frozen -/
def G.addT (g : G) (H : Hp) (bs : List Addr) : G := ⟨fun a => match g.F a with
  | some u => some u
  | none => if a ∈ bs then H a else none, g.ad⟩
end
section
variable {X : Cx} {pos : Pos}
/-- {} -/
def mKtNew : ME := fun _ s => some (.cel s.length, s ++ [.tup []])
/-- d[(..)] = True -/
def ktPut (ts : List D) (k : List Key) : List D := if ts.any (fun t => decide (unKT t = some k)) then ts else ts ++ [kTupD k]
def sKtPut (i : Nat) (ma : MA) : MS := fun e s => match ma e s with
  | none => none
  | some (ds, s1) => match e[i]? with
    | some (.val (.cel n)) => match unKs ds, s1[n]? with
      | some k, some (.tup ts) => if ts.length < sizeLine ∧ ds.length ≤ 16 then some (.nx, e, s1.set n (.tup (ktPut ts k))) else none
      | _, _ => none
    | _ => none
def listKtD : MD := fun ds s => match ds with
  | [.cel n] => match s[n]? with
    | some (.tup ts) => some (.lst ts, s)
    | _ => none
  | _ => none
def sortKtD : MD := fun ds s => match ds with
  | [.cel n] => match s[n]? with
    | some (.tup ts) => if sameK ts then some (.lst (sortL ts), s) else none
    | _ => none
  | _ => none
/-- x[k] = v as one of several targets, x an owned list -/
def gPutL (i : Nat) (m1 : ME) : MG := fun d e s => match m1 e s with
  | some (.int k, s) => match e[i]? with
    | some (.own (.lst ds)) => match ixN ds.length k with
      | some j => some (e.set i (.own (.lst (ds.set j d))), s)
      | none => none
    | _ => none
  | _ => none
end
end Z

set_option Elab.async false
set_option linter.all false
set_option maxRecDepth 100000
set_option maxHeartbeats 4000000
namespace Z
open PySem PySem.Spec PyProof.Rows L2
/-! ### x is True, x is False -/
section
variable {X : Cx} {K : PySem.W.Frag} {a b : Expr} {ma mb : ME} {pos : Pos}
def plainV : V → Bool
  | .non | .bl _ | .int _ | .str _ | .ref _ => true
  | _ => false
def rIsB (n : Bool) : R2 := fun x y H Q => ∃ k, y = .bl k ∧ plainV x = true ∧ Q (.bl (n != decide (x = .bl k))) H
def isBB (n : Bool) (a b : D) : Option D := match b with
  | .bl k => match a with
    | .bl c => some (.bl (n != decide (c = k)))
    | .non | .int _ | .str _ | .tup _ | .lst _ | .dic _ | .obj _ _ | .cel _ => some (.bl n)
    | _ => none
  | _ => none
abbrev isBD := isBB false
abbrev isnBD := isBB true
/-! ### len of a dict -/
def lenDicD : List D → Option D
  | [.dic kvs] => some (.int kvs.length)
  | _ => none
/-! ### len(set(xs)), xs a list of texts -/
def lenSetD : D → Option D
  | .lst ds => match strsD ds with
    | some xs => if xs.length < 64 then some (.int (dedT xs).length) else none
    | none => none
  | _ => none
def tLenTx (K : PySem.W.Frag) (ta : TE) : TE := fun σ H Q => ta σ H fun x H1 => ∃ (l : Addr) (xs : List Str), x = .ref l ∧ SqL K H1 l (xs.map V.str) ∧ xs.length < 64 ∧ Q (.int (dedT xs).length) H1
def mLenSet (ma : ME) : ME := mUn lenSetD ma
end
end Z

set_option Elab.async false
set_option linter.all false
set_option maxRecDepth 100000
set_option maxHeartbeats 4000000
namespace Z
open PySem PySem.Spec PyProof.Rows L2
/-! ### borrowed for an expression that leaves the store alone: cells may hold lists -/
open Classical in
noncomputable def mBorP (i : Nat) (m : ME) : ME := fun e s => if h : ∃ d, noL d = true ∧ ∀ sx, m (frzE i e) sx = some (d, sx) then some (Classical.choose h, s) else none
open Classical in
noncomputable def tBorP (i : Nat) (m : MT) : MT := fun e s => if h : ∃ b, ∀ sx, m (frzE i e) sx = some (b, sx) then some (Classical.choose h, s) else none
section
variable {K : PySem.W.Frag} {g g' : G} {H H' : Hp} {s : Z.S}
/-- a cell's content with its values told as they stand -/
def Msk (K : PySem.W.Frag) (g : G) (H : Hp) (a : Addr) (c c' : D) : Prop := (c' = c ∧ noC c = true) ∨ ((∀ g1, OwnC K g1 H a c') ∧ ∀ g1 H1 g2, GLe g g2 → OwnC K g1 H1 a c' → OwnC K g2 H1 a c)
end
section
variable {X : Cx} {K : PySem.W.Frag} {m : ME} {mt : MT} {a : Expr}
end
end Z

set_option Elab.async false
set_option linter.all false
set_option maxRecDepth 100000
set_option maxHeartbeats 4000000
namespace Z
open PySem PySem.Spec PyProof.Rows L2
/-! ### a part of a list of one's own, read -/
def mSlO (i : Nat) (ml mh : MO) : ME := fun e s => bnd (ml e s) fun lo s => bnd (mh e s) fun hi s => match e[i]? with
  | some (.own (.lst ds)) => some (.lst (cutL ds lo hi), s)
  | _ => none
section
variable {X : Cx} {x : Str} {p p2 pos : Pos} {lo hi : Option Expr} {ml mh : MO}
end
end Z

set_option Elab.async false
set_option linter.all false
set_option maxRecDepth 100000
set_option maxHeartbeats 4000000
namespace Z
open PySem PySem.Spec PyProof.Rows L2
section
variable {X : Cx} {a b c d : Expr} {ma mb mc md : ME} {pos : Pos}
end
end Z

set_option Elab.async false
set_option linter.all false
set_option maxRecDepth 100000
set_option maxHeartbeats 4000000
namespace Z
open PySem PySem.Spec PyProof.Rows L2
/-! ### == and != of an own object and values of built-in kinds -/
namespace Oe
open PySem.W
/-- an instance of a class of the text at x, which is no T -/
def OwnI (prog : Program) (w : World) (x : Addr) (T : String) (s : Shared) : Prop := ∃ C dx, s.heap.get? x = some (instObj C dx) ∧ Looks (model prog w) s.heap (isSubtype (.ref C) (.type T)) false
section
variable {prog : Program} {w : World}
theorem int_eq_i (a : Int) (t : Tok) (x : Addr) : MeetsIn prog w (Builtin.«int.__eq__» ⟨[.int a t, .ref x], []⟩) (fun _ R s => OwnI prog w x "int" s ∧ R (.ok (.ret .notImplemented)) s) :=
  .of_wp fun A R s h => by obtain ⟨hp, g, d, tk, os⟩ := s; obtain ⟨⟨C, dx, hl, lk⟩, h⟩ := h; unfold instObj at hl; wp_walk using wpAny_loadPart' hl, wpAny_load hl; exact ⟨_, rfl, h⟩
theorem int_ne_i (a : Int) (t : Tok) (x : Addr) : MeetsIn prog w (Builtin.«int.__ne__» ⟨[.int a t, .ref x], []⟩) (fun _ R s => OwnI prog w x "int" s ∧ R (.ok (.ret .notImplemented)) s) :=
  .of_wp fun A R s h => by obtain ⟨hp, g, d, tk, os⟩ := s; obtain ⟨⟨C, dx, hl, lk⟩, h⟩ := h; unfold instObj at hl; wp_walk using wpAny_loadPart' hl, wpAny_load hl; exact ⟨_, rfl, h⟩
theorem int_eq_b (a : Bool) (x : Addr) : MeetsIn prog w (Builtin.«int.__eq__» ⟨[.bool a, .ref x], []⟩) (fun _ R s => OwnI prog w x "bool" s ∧ R (.ok (.ret .notImplemented)) s) :=
  .of_wp fun A R s h => by obtain ⟨hp, g, d, tk, os⟩ := s; obtain ⟨⟨C, dx, hl, lk⟩, h⟩ := h; unfold instObj at hl; wp_walk using wpAny_loadPart' hl, wpAny_load hl; exact ⟨_, rfl, h⟩
theorem int_ne_b (a : Bool) (x : Addr) : MeetsIn prog w (Builtin.«int.__ne__» ⟨[.bool a, .ref x], []⟩) (fun _ R s => OwnI prog w x "bool" s ∧ R (.ok (.ret .notImplemented)) s) :=
  .of_wp fun A R s h => by obtain ⟨hp, g, d, tk, os⟩ := s; obtain ⟨⟨C, dx, hl, lk⟩, h⟩ := h; unfold instObj at hl; wp_walk using wpAny_loadPart' hl, wpAny_load hl; exact ⟨_, rfl, h⟩
theorem str_eq_s (a : Str) (t : Tok) (x : Addr) : MeetsIn prog w (Builtin.«str.__eq__» ⟨[.str a t, .ref x], []⟩) (fun _ R s => OwnI prog w x "str" s ∧ R (.ok (.ret .notImplemented)) s) :=
  .of_wp fun A R s h => by obtain ⟨hp, g, d, tk, os⟩ := s; obtain ⟨⟨C, dx, hl, lk⟩, h⟩ := h; unfold instObj at hl; wp_walk using wpAny_loadPart' hl, wpAny_load hl; exact ⟨_, rfl, h⟩
theorem str_ne_s (a : Str) (t : Tok) (x : Addr) : MeetsIn prog w (Builtin.«str.__ne__» ⟨[.str a t, .ref x], []⟩) (fun _ R s => OwnI prog w x "str" s ∧ R (.ok (.ret .notImplemented)) s) :=
  .of_wp fun A R s h => by obtain ⟨hp, g, d, tk, os⟩ := s; obtain ⟨⟨C, dx, hl, lk⟩, h⟩ := h; unfold instObj at hl; wp_walk using wpAny_loadPart' hl, wpAny_load hl; exact ⟨_, rfl, h⟩
theorem list_eq_l (l x : Addr) (items : Array Value) (n : Nat) (dd : Option Addr) (sl : Array (Option Value)) : MeetsIn prog w (Builtin.«list.__eq__» ⟨[.ref l, .ref x], []⟩) (fun _ R s => s.heap.get? l = some { cls := .type "list", dict := dd, data := .seq items n, slots := sl } ∧ OwnI prog w x "list" s ∧ R (.ok (.ret .notImplemented)) s) :=
  .of_wp fun A R s h => by obtain ⟨hp, g, d, tk, os⟩ := s; obtain ⟨hl, ⟨C, dx, hx, lk⟩, h⟩ := h; unfold instObj at hx; wp_walk using wpAny_loadPart' hl, wpAny_loadPart' hx; refine lk.here ?_; wp_walk; exact ⟨_, rfl, h⟩
theorem list_ne_l (l x : Addr) (items : Array Value) (n : Nat) (dd : Option Addr) (sl : Array (Option Value)) : MeetsIn prog w (Builtin.«list.__ne__» ⟨[.ref l, .ref x], []⟩) (fun _ R s => s.heap.get? l = some { cls := .type "list", dict := dd, data := .seq items n, slots := sl } ∧ OwnI prog w x "list" s ∧ R (.ok (.ret .notImplemented)) s) :=
  .of_wp fun A R s h => by obtain ⟨hp, g, d, tk, os⟩ := s; obtain ⟨hl, ⟨C, dx, hx, lk⟩, h⟩ := h; unfold instObj at hx; wp_walk using wpAny_loadPart' hl, wpAny_loadPart' hx; refine lk.here ?_; wp_walk; exact ⟨_, rfl, h⟩
theorem tuple_eq_l (l x : Addr) (items : Array Value) (n : Nat) (dd : Option Addr) (sl : Array (Option Value)) : MeetsIn prog w (Builtin.«tuple.__eq__» ⟨[.ref l, .ref x], []⟩) (fun _ R s => s.heap.get? l = some { cls := .type "tuple", dict := dd, data := .seq items n, slots := sl } ∧ OwnI prog w x "tuple" s ∧ R (.ok (.ret .notImplemented)) s) :=
  .of_wp fun A R s h => by obtain ⟨hp, g, d, tk, os⟩ := s; obtain ⟨hl, ⟨C, dx, hx, lk⟩, h⟩ := h; unfold instObj at hx; wp_walk using wpAny_loadPart' hl, wpAny_loadPart' hx; refine lk.here ?_; wp_walk; exact ⟨_, rfl, h⟩
theorem tuple_ne_l (l x : Addr) (items : Array Value) (n : Nat) (dd : Option Addr) (sl : Array (Option Value)) : MeetsIn prog w (Builtin.«tuple.__ne__» ⟨[.ref l, .ref x], []⟩) (fun _ R s => s.heap.get? l = some { cls := .type "tuple", dict := dd, data := .seq items n, slots := sl } ∧ OwnI prog w x "tuple" s ∧ R (.ok (.ret .notImplemented)) s) :=
  .of_wp fun A R s h => by obtain ⟨hp, g, d, tk, os⟩ := s; obtain ⟨hl, ⟨C, dx, hx, lk⟩, h⟩ := h; unfold instObj at hx; wp_walk using wpAny_loadPart' hl, wpAny_loadPart' hx; refine lk.here ?_; wp_walk; exact ⟨_, rfl, h⟩
theorem dict_eq_l (l x : Addr) (es : Array DictEntry) (n : Nat) (dd : Option Addr) (sl : Array (Option Value)) : MeetsIn prog w (Builtin.«dict.__eq__» ⟨[.ref l, .ref x], []⟩) (fun _ R s => s.heap.get? l = some { cls := .type "dict", dict := dd, data := .dict es n, slots := sl } ∧ OwnI prog w x "dict" s ∧ R (.ok (.ret .notImplemented)) s) :=
  .of_wp fun A R s h => by obtain ⟨hp, g, d, tk, os⟩ := s; obtain ⟨hl, ⟨C, dx, hx, lk⟩, h⟩ := h; unfold instObj at hx; wp_walk using wpAny_loadPart' hl, wpAny_loadPart' hx; refine lk.here ?_; wp_walk; exact ⟨_, rfl, h⟩
theorem dict_ne_l (l x : Addr) (es : Array DictEntry) (n : Nat) (dd : Option Addr) (sl : Array (Option Value)) : MeetsIn prog w (Builtin.«dict.__ne__» ⟨[.ref l, .ref x], []⟩) (fun _ R s => s.heap.get? l = some { cls := .type "dict", dict := dd, data := .dict es n, slots := sl } ∧ OwnI prog w x "dict" s ∧ R (.ok (.ret .notImplemented)) s) :=
  .of_wp fun A R s h => by obtain ⟨hp, g, d, tk, os⟩ := s; obtain ⟨hl, ⟨C, dx, hx, lk⟩, h⟩ := h; unfold instObj at hx; wp_walk using wpAny_loadPart' hl, wpAny_loadPart' hx; refine lk.here ?_; wp_walk; exact ⟨_, rfl, h⟩
end
/-! ### the operators -/
section
variable {prog : Program} {w : World} {A : Around} {E : Value → Shared → Prop} {s : Shared} {K : Frag} {x C f : Addr} {ox : Obj} {od : Option Obj} {v : Value} {T id : String}
theorem tryEq_K {Q : Value → Shared → Prop} (X : K.In s.heap) (I : InstAt s.heap x ox C od) (hs : findIn K (.ref C) "__eq__" = some (some (.ref f))) (hf : isFn K (.ref f) = true)
    (h : wpAny (model prog w) A (call (.ref f) [.ref x, v]) (fun u s' => ∃ t, u = .bool t ∧ Q (.bool t) s') E s) : wpAny (model prog w) A (tryCompare (.ref x) "__eq__" v) (fun r s' => ∃ u, r = some u ∧ Q u s') E s := by
  unfold tryCompare
  refine wpAny_bind (ifBound_K X I hs hf (wpAny_mono h (fun v s' hv => ?_) fun _ _ e => e))
  obtain ⟨t, rfl, q⟩ := hv
  exact wpAny_pure ⟨_, rfl, q⟩
theorem tryNe_K {Q : Value → Shared → Prop} (hu : A.units + 1 < cLine) (X : K.In s.heap) (I : InstAt s.heap x ox C od)
    (hne : findIn K (.ref C) "__ne__" = some (some (.builtin "object.__ne__"))) (hm : mroIn K C (.type "object") = some true)
    (hs : findIn K (.ref C) "__eq__" = some (some (.ref f))) (hf : isFn K (.ref f) = true)
    (h : wpAny (model prog w) A.in1 (call (.ref f) [.ref x, v]) (fun v s' => ∃ t, v = .bool t ∧ Q (.bool (!t)) s') E s) : wpAny (model prog w) A (tryCompare (.ref x) "__ne__" v) (fun r s' => ∃ u, r = some u ∧ Q u s') E s := by
  have chk : ∀ {Q' : Unit → Shared → Prop}, Q' () s → wpAny (model prog w) A.in1 (checkBuiltinCall "object.__ne__" ⟨[.ref x, v], []⟩) Q' E s := fun {Q'} hq => by
    simp only [checkBuiltinCall, F.cmpKind_ne, F.cmpSplit_ne]
    refine wpAny_bind ?_
    unfold isInstance
    refine wpAny_bind (I.type.here ((looks_mroIn X hm).here ?_))
    have ha := F.cmpArgs_ne (.ref x) v
    cases hsig : Manifest.signature? "object.__ne__" with
    | none => exact wpAny_pure hq
    | some sig =>
      simp only [argsOk, hsig] at ha
      have h2 : Bind.checkArgs "object.__ne__" sig ⟨[.ref x, v], []⟩ = pure () := ha
      show wpAny _ _ (Bind.checkArgs "object.__ne__" sig ⟨[.ref x, v], []⟩) Q' E _
      rw [h2]; exact wpAny_pure hq
  unfold tryCompare
  have S := F.cmp_object.ne
  have hcall : wpAny (model prog w) A (call (.builtin "object.__ne__") [.ref x, v]) (fun v s' => ∃ t, v = .bool t ∧ Q v s') E s :=
    wpAny_call (codeAny_call_builtin S.plain F.cmpEntry_ne (chk (objNe_K (A := A.in1) hu X I hs hf (wpAny_mono h (fun v s' hv => by
      obtain ⟨t, rfl, hq⟩ := hv
      exact ⟨t, rfl, _, rfl, hq⟩) fun _ _ e => e))))
  have two : wpAny (model prog w) A (callSpecialIfBound? (.ref x) "__ne__" [v]) (fun r s' => ∃ t, r = some (.bool t) ∧ Q (.bool t) s') E s := by
    simp only [callSpecialIfBound?, bindSpecialIfBound?]
    refine wpAny_holding (wpAny_bind (wpAny_bind (wpAny_bind (I.type.here ((looks_findIn X hne).here ?_)))))
    simp only [S.bind]
    refine wpAny_bind (wpAny_askSetting (wpAny_ite ?_))
    have fin : wpAny (model prog w) A (call (.builtin "object.__ne__") ([.ref x] ++ [v]) >>= fun v => Pure.pure (some v)) (fun r s' => ∃ t, r = some (.bool t) ∧ Q (.bool t) s') E s :=
      wpAny_bind (wpAny_mono hcall (fun v s' h' => by
        obtain ⟨t, rfl, hq⟩ := h'
        exact wpAny_pure ⟨_, rfl, hq⟩) fun _ _ h' => h')
    split
    · exact wpAny_bind (wpAny_pure (wpAny_pure fin))
    · exact wpAny_tryCatch (wpAny_bind (wpAny_pure (wpAny_pure fin)))
  refine wpAny_bind (wpAny_mono two (fun r s' h' => ?_) fun _ _ e => e)
  obtain ⟨t, rfl, hq⟩ := h'
  exact wpAny_pure ⟨_, rfl, hq⟩
/-- an own object on the left -/
theorem left_K {op : CmpOp} {n : Str} {Q : Value → Shared → Prop} (ho : (cmpInfo op).2.1 = n) (hu : A.units < cLine) (X : K.In s.heap) (I : InstAt s.heap x ox C od) (ht : s.TypeIs v T) (hns : subIn K (.type T) (.ref C) = some false)
    (h : wpAny (model prog w) A (tryCompare (.ref x) n v) (fun r s' => ∃ u, r = some u ∧ Q u s') E s) : wpAny (model prog w) A (richCompare op (.ref x) v) Q E s := by
  subst ho
  unfold richCompare
  simp only [oneThing_ref]
  refine wpAny_holding (wpAny_bind (wpAny_cRoomFor hu ?_))
  refine wpAny_bind (I.type.here (wpAny_bind (wpAny_typeOf ht ?_)))
  split
  · refine wpAny_bind ((looks_subIn X hns).here ?_)
    simp only [Bool.false_eq_true, if_false]
    refine wpAny_bind (wpAny_mono h (fun r s' z => ?_) fun _ _ e => e)
    obtain ⟨v, rfl, hq⟩ := z
    exact wpAny_pure hq
  · refine wpAny_bind (wpAny_pure ?_)
    simp only [Bool.false_eq_true, if_false]
    refine wpAny_bind (wpAny_mono h (fun r s' z => ?_) fun _ _ e => e)
    obtain ⟨v, rfl, hq⟩ := z
    exact wpAny_pure hq
/-- an own object on the right: what stands left declines -/
theorem right_K {op : CmpOp} {n : Str} {Q : Value → Shared → Prop} (ho : (cmpInfo op).2.2 = n) (hu : A.units < cLine) (X : K.In s.heap) (I : InstAt s.heap x ox C od) (ht : s.TypeIs v T) (hns : subIn K (.ref C) (.type T) = some false) (h1 : Slot T (cmpInfo op).2.1 id)
    (hc : ∀ Q' : Value → Shared → Prop, Q' .notImplemented s → wpAny (model prog w) A (call (.builtin id) [v, .ref x]) Q' E s)
    (h : wpAny (model prog w) A (tryCompare (.ref x) n v) (fun r s' => ∃ u, r = some u ∧ Q u s') E s) : wpAny (model prog w) A (richCompare op v (.ref x)) Q E s := by
  subst ho
  unfold richCompare
  simp only [ht.oneThing_none]
  refine wpAny_holding (wpAny_bind (wpAny_cRoomFor hu ?_))
  refine wpAny_bind (wpAny_typeOf ht (wpAny_bind (I.type.here ?_)))
  rw [show (Value.type T != Value.ref C) = true from rfl]
  simp only [if_true]
  refine wpAny_bind ((looks_subIn X hns).here ?_)
  simp only [Bool.false_eq_true, if_false, Bool.not_false, if_true]
  refine wpAny_bind (wpAny_tryCompare_declines ht h1 (hc _ ⟨rfl, ?_⟩))
  refine wpAny_bind (wpAny_mono h (fun r s' z => ?_) fun _ _ e => e)
  obtain ⟨v, rfl, hq⟩ := z
  exact wpAny_pure hq
end
end Oe
/-- the built-in kind of a value -/
def knd : D → Option String
  | .non => some "NoneType"
  | .bl _ => some "bool"
  | .int _ => some "int"
  | .str _ => some "str"
  | .tup _ => some "tuple"
  | .lst _ => some "list"
  | .dic _ => some "dict"
  | _ => none
theorem knd_in {d : D} {T : String} (h : knd d = some T) : T ∈ kndL := by
  cases d <;> first | (cases h; decide) | cases h
section
open PySem.W Oe
variable {X : Cx} {pins : List (Addr × Obj)} {s : Shared} {σ : L2.St} {H : Hp} {g : G} {s0 : Z.S} {x : V} {v : Value} {a : D} {T : String}
theorem type_of (I : Inv X pins σ H s) (R : SRel X.K g H s0) (rx : RelV x v) (ra : Rep X.K g x a) (hk : knd a = some T) : s.TypeIs v T := by
  cases ra with
  | non => cases rx; cases hk; rfl
  | bl b => cases rx; cases hk; rfl
  | int i => obtain ⟨t, rfl⟩ := rx; cases hk; rfl
  | str z => obtain ⟨t, rfl⟩ := rx; cases hk; rfl
  | tup h r =>
    cases hk
    obtain rfl : v = Value.ref _ := rx
    rcases sqT_H R h with h | ⟨o, its, n, hl, hc, _⟩
    · obtain ⟨_, its, _, o, ho, hc, _⟩ := h.ok I.hok
      exact ⟨o, ho, hc⟩
    · exact ⟨o, I.kIn _ _ hl, hc⟩
  | lst h r =>
    cases hk
    obtain rfl : v = Value.ref _ := rx
    obtain ⟨_, its, n, _, ho⟩ := (rd_H R h).ok I.hok
    exact ⟨_, ho, rfl⟩
  | dic h r =>
    cases hk
    obtain rfl : v = Value.ref _ := rx
    obtain ⟨_, _, vs, _, o, es, ep, ho, hx, _⟩ := (rdK_H R h).ok I.hok
    exact ⟨o, ho, hx.1⟩
  | obj h r => cases hk
  | cel h => cases hk
  | opq v => cases hk
  | ty c => cases hk
theorem decl_eq (I : Inv X pins σ H s) (R : SRel X.K g H s0) (rx : RelV x v) (ra : Rep X.K g x a) (hk : knd a = some T) {y C dx : Addr} (hy : s.heap.get? y = some (instObj C dx)) (hs : subIn X.K (.ref C) (.type T) = some false) {A : Around} {E : Value → Shared → Prop} :
    ∃ id, Slot T (cmpInfo .Eq).2.1 id ∧ ∀ Q' : Value → Shared → Prop, Q' .notImplemented s → wpAny (model X.prog X.w) A (call (.builtin id) [v, .ref y]) Q' E s := by
  have ht := type_of I R rx ra hk
  have oi : OwnI X.prog X.w y T s := ⟨C, dx, hy, looks_subIn I.kIn hs⟩
  cases ra with
  | non => cases rx; cases hk; exact ⟨_, F.slot_NoneType_eq, fun Q' hq => call_gives F.slot_NoneType_eq rfl F.entry_NoneType_eq (F.args_NoneType_eq_2 _ _) (PySem.SeqAt.NoneType___eq___none_ref_0 y) hq⟩
  | bl b => cases rx; cases hk; exact ⟨_, F.slot_bool_eq, fun Q' hq => call_meetsIn F.slot_bool_eq ht F.entry_int_eq (F.args_int_eq_2 _ _) (int_eq_b b y) ⟨oi, hq⟩⟩
  | int i => obtain ⟨t, rfl⟩ := rx; cases hk; exact ⟨_, F.slot_int_eq, fun Q' hq => call_meetsIn F.slot_int_eq ht F.entry_int_eq (F.args_int_eq_2 _ _) (int_eq_i i t y) ⟨oi, hq⟩⟩
  | str z => obtain ⟨t, rfl⟩ := rx; cases hk; exact ⟨_, F.slot_str_eq, fun Q' hq => call_meetsIn F.slot_str_eq ht F.entry_str_eq (F.args_str_eq_2 _ _) (str_eq_s z t y) ⟨oi, hq⟩⟩
  | @tup ad vs ds h r =>
    cases hk
    obtain rfl : v = Value.ref ad := rx
    have hh : ∃ o its n, s.heap.get? ad = some o ∧ o.cls = .type "tuple" ∧ o.data = .seq its n := by
      rcases sqT_H R h with h | ⟨o, its, n, hl, hc, hd, _⟩
      · obtain ⟨_, its, _, o, ho, hc, n, hd⟩ := h.ok I.hok
        exact ⟨o, _, n, ho, hc, hd⟩
      · exact ⟨o, its, n, I.kIn _ _ hl, hc, hd⟩
    obtain ⟨⟨cls, dd, data, sl⟩, its, n, ho, hc, hd⟩ := hh
    simp only at hc hd
    subst hc hd
    exact ⟨_, F.slot_tuple_eq, fun Q' hq => call_meetsIn F.slot_tuple_eq ht F.entry_tuple_eq (F.args_tuple_eq_2 _ _) (tuple_eq_l _ y its n dd sl) ⟨ho, oi, hq⟩⟩
  | lst h r =>
    cases hk
    obtain rfl : v = Value.ref _ := rx
    obtain ⟨_, its, n, _, ho⟩ := (rd_H R h).ok I.hok
    exact ⟨_, F.slot_list_eq, fun Q' hq => call_meetsIn F.slot_list_eq ht F.entry_list_eq (F.args_list_eq_2 _ _) (list_eq_l _ y _ n none #[] ) ⟨ho, oi, hq⟩⟩
  | dic h r =>
    cases hk
    obtain rfl : v = Value.ref _ := rx
    obtain ⟨_, _, vs, _, ⟨cls, dd, data, sl⟩, es, ep, ho, ⟨hc, h2, h3⟩, hd, _⟩ := (rdK_H R h).ok I.hok
    simp only at hc hd h2 h3
    subst hc hd h2 h3
    exact ⟨_, F.slot_dict_eq, fun Q' hq => call_meetsIn F.slot_dict_eq ht F.entry_dict_eq (F.args_dict_eq_2 _ _) (dict_eq_l _ y es ep none #[]) ⟨ho, oi, hq⟩⟩
  | obj h r => cases hk
  | cel h => cases hk
  | opq v => cases hk
  | ty c => cases hk
theorem decl_ne (I : Inv X pins σ H s) (R : SRel X.K g H s0) (rx : RelV x v) (ra : Rep X.K g x a) (hk : knd a = some T) {y C dx : Addr} (hy : s.heap.get? y = some (instObj C dx)) (hs : subIn X.K (.ref C) (.type T) = some false) {A : Around} {E : Value → Shared → Prop} :
    ∃ id, Slot T (cmpInfo .NotEq).2.1 id ∧ ∀ Q' : Value → Shared → Prop, Q' .notImplemented s → wpAny (model X.prog X.w) A (call (.builtin id) [v, .ref y]) Q' E s := by
  have ht := type_of I R rx ra hk
  have oi : OwnI X.prog X.w y T s := ⟨C, dx, hy, looks_subIn I.kIn hs⟩
  cases ra with
  | non => cases rx; cases hk; exact ⟨_, F.slot_NoneType_ne, fun Q' hq => call_gives F.slot_NoneType_ne rfl F.entry_NoneType_ne (F.args_NoneType_ne_2 _ _) (PySem.SeqAt.NoneType___ne___none_ref_0 y) hq⟩
  | bl b => cases rx; cases hk; exact ⟨_, F.slot_bool_ne, fun Q' hq => call_meetsIn F.slot_bool_ne ht F.entry_int_ne (F.args_int_ne_2 _ _) (int_ne_b b y) ⟨oi, hq⟩⟩
  | int i => obtain ⟨t, rfl⟩ := rx; cases hk; exact ⟨_, F.slot_int_ne, fun Q' hq => call_meetsIn F.slot_int_ne ht F.entry_int_ne (F.args_int_ne_2 _ _) (int_ne_i i t y) ⟨oi, hq⟩⟩
  | str z => obtain ⟨t, rfl⟩ := rx; cases hk; exact ⟨_, F.slot_str_ne, fun Q' hq => call_meetsIn F.slot_str_ne ht F.entry_str_ne (F.args_str_ne_2 _ _) (str_ne_s z t y) ⟨oi, hq⟩⟩
  | @tup ad vs ds h r =>
    cases hk
    obtain rfl : v = Value.ref ad := rx
    have hh : ∃ o its n, s.heap.get? ad = some o ∧ o.cls = .type "tuple" ∧ o.data = .seq its n := by
      rcases sqT_H R h with h | ⟨o, its, n, hl, hc, hd, _⟩
      · obtain ⟨_, its, _, o, ho, hc, n, hd⟩ := h.ok I.hok
        exact ⟨o, _, n, ho, hc, hd⟩
      · exact ⟨o, its, n, I.kIn _ _ hl, hc, hd⟩
    obtain ⟨⟨cls, dd, data, sl⟩, its, n, ho, hc, hd⟩ := hh
    simp only at hc hd
    subst hc hd
    exact ⟨_, F.slot_tuple_ne, fun Q' hq => call_meetsIn F.slot_tuple_ne ht F.entry_tuple_ne (F.args_tuple_ne_2 _ _) (tuple_ne_l _ y its n dd sl) ⟨ho, oi, hq⟩⟩
  | lst h r =>
    cases hk
    obtain rfl : v = Value.ref _ := rx
    obtain ⟨_, its, n, _, ho⟩ := (rd_H R h).ok I.hok
    exact ⟨_, F.slot_list_ne, fun Q' hq => call_meetsIn F.slot_list_ne ht F.entry_list_ne (F.args_list_ne_2 _ _) (list_ne_l _ y _ n none #[] ) ⟨ho, oi, hq⟩⟩
  | dic h r =>
    cases hk
    obtain rfl : v = Value.ref _ := rx
    obtain ⟨_, _, vs, _, ⟨cls, dd, data, sl⟩, es, ep, ho, ⟨hc, h2, h3⟩, hd, _⟩ := (rdK_H R h).ok I.hok
    simp only at hc hd h2 h3
    subst hc hd h2 h3
    exact ⟨_, F.slot_dict_ne, fun Q' hq => call_meetsIn F.slot_dict_ne ht F.entry_dict_ne (F.args_dict_ne_2 _ _) (dict_ne_l _ y es ep none #[]) ⟨ho, oi, hq⟩⟩
  | obj h r => cases hk
  | cel h => cases hk
  | opq v => cases hk
  | ty c => cases hk
end
/-- == (neg: !=) where one side is an own object of the class c, the other one such, or a value of a built-in kind -/
def ownAny (neg : Bool) (c : Str) (md : MD) : D → D → S → Option (D × S) := fun a b s =>
  match (if ofC c a then (if ofC c b || (knd b).isSome then md [a, b] s else none) else if ofC c b && (knd a).isSome then md [b, a] s else none) with
  | some (.bl r, s') => some (.bl (r != neg), s')
  | _ => none
theorem ownAny_some {neg : Bool} {c : Str} {md : MD} {a b : D} {s s' : S} {d : D} (h : ownAny neg c md a b s = some (d, s')) :
    ∃ r, d = .bl (r != neg) ∧ ((ofC c a = true ∧ ofC c b = true ∧ md [a, b] s = some (.bl r, s')) ∨ (∃ T, ofC c a = true ∧ knd b = some T ∧ md [a, b] s = some (.bl r, s')) ∨ (∃ T, knd a = some T ∧ ofC c b = true ∧ md [b, a] s = some (.bl r, s'))) := by
  unfold ownAny at h
  split at h
  · rename_i r s1 he
    cases h
    refine ⟨r, rfl, ?_⟩
    split at he
    · rename_i h1
      split at he
      · rename_i h2
        rcases Bool.or_eq_true_iff.mp h2 with q | q
        · exact .inl ⟨h1, q, he⟩
        · obtain ⟨T, hT⟩ := Option.isSome_iff_exists.mp q
          exact .inr (.inl ⟨T, h1, hT, he⟩)
      · cases he
    · split at he
      · rename_i h2
        obtain ⟨q1, q2⟩ := Bool.and_eq_true_iff.mp h2
        obtain ⟨T, hT⟩ := Option.isSome_iff_exists.mp q2
        exact .inr (.inr ⟨T, hT, q1, he⟩)
      · cases he
  · cases h
section
open PySem.W Oe
variable {X : Cx} {a b : Expr} {ma mb : ME} {d : DefZ} {ps : List Str} {k j : Nat} {md : MD} {c : Str} {pos : Pos}
theorem ins_at {pins : List (Addr × Obj)} {s : Shared} {σ : L2.St} {H : Hp} {y C dx : Addr} {fs : List (Str × V)} (I : Inv X pins σ H s) (h : H y = some (.ins C dx fs)) : s.heap.get? y = some (instObj C dx) := by
  obtain ⟨_, _, _, h, _⟩ := I.hok y _ h
  exact h
theorem op_ownAnyE (F : DfZ X.prog X.w X.K X.mg X.base k d ps (spM X.K md)) (hr : RmZ k X.A) (hm : Meth X.K (He.ga X.K c) "__eq__" (d.ad X.K)) (ho : oeB X.K c = true) : OpR X (compareOp .Eq) (rOpM X.K (ownAny false c md)) := by
  intro pins s σ H x y v u Q I rx ry ⟨g, s0, a, b, r, s', R, ra, rb, hf, kk⟩
  obtain ⟨t, rfl, hcase⟩ := ownAny_some hf
  have hu : X.A.units < cLine := by have := hr.r.un; omega
  have et : (t != false) = t := by cases t <;> rfl
  rw [et] at kk hf
  have ns : ∀ T, T ∈ kndL → subIn X.K (.type T) (.ref (He.ga X.K c)) = some false ∧ subIn X.K (.ref (He.ga X.K c)) (.type T) = some false := fun T hT => by
    have := List.all_eq_true.mp ho T hT
    obtain ⟨q1, q2⟩ := Bool.and_eq_true_iff.mp this
    exact ⟨of_decide_eq_true q1, of_decide_eq_true q2⟩
  have go : ∀ {p q : V} {p' q' : Value} {da db : D}, RelV p p' → RelV q q' → Rep X.K g p da → Rep X.K g q db → md [da, db] s0 = some (.bl t, s') →
      wpAny (model X.prog X.w) X.A (call (.ref (d.ad X.K)) [p', q']) (fun u s' => ∃ t, u = .bool t ∧ EP X pins σ Q (.bool t) s') X.xe s := fun {p q p' q' da db} r1 r2 ra rb hmd =>
    wpAny_mono (F.callAt hr I.ok.frames (pins := pins) (σ := σ) I (show Vals [p, q] [p', q'] from .cons r1 (.cons r2 .nil)) (Q := fun v H' => v = .bl t ∧ Q (.bl t) H') ⟨g, s0, _, _, _, R, .cons ra (.cons rb .nil), hmd, fun v g' H' st rv => by
      cases rv
      exact ⟨rfl, kk _ g' H' st (.bl _)⟩⟩) (fun w s2 ⟨z, H1, I1, rz, ez, q⟩ => by
      subst ez
      obtain rfl : w = Value.bool t := rz
      exact ⟨t, rfl, .bl t, H1, I1, rfl, q⟩) fun _ _ z => z
  show wpAny (model X.prog X.w) X.A (richCompare .Eq v u) (EP X pins σ Q) X.xe s
  rcases hcase with ⟨h1, h2, hmd⟩ | ⟨T, h1, h2, hmd⟩ | ⟨T, h1, h2, hmd⟩
  · exact op_ownEq F hr hm pins s σ H x y v u Q I rx ry ⟨g, s0, a, b, _, s', R, ra, rb, by unfold ownEq; rw [h1, h2]; simp only [Bool.and_self]; rw [hmd], kk⟩
  · obtain ⟨fs, rfl⟩ := ofC_some h1
    cases id ra with
    | obj hF rF =>
      obtain rfl : v = Value.ref _ := rx
      obtain ⟨ox, od, inst⟩ := inst_of I (ins_H R hF)
      exact left_K (op := .Eq) rfl hu I.kIn inst (type_of I R ry rb h2) (ns T (knd_in h2)).1 (tryEq_K I.kIn inst hm.at_ hm.fn (go (p := .ref _) rfl ry ra rb hmd))
  · obtain ⟨fs, rfl⟩ := ofC_some h2
    cases id rb with
    | obj hF rF =>
      obtain rfl : u = Value.ref _ := ry
      obtain ⟨ox, od, inst⟩ := inst_of I (ins_H R hF)
      obtain ⟨id', sl, dc⟩ := decl_eq I R rx ra h1 (ins_at I (ins_H R hF)) (ns T (knd_in h1)).2 (A := X.A) (E := X.xe)
      exact right_K (op := .Eq) rfl hu I.kIn inst (type_of I R rx ra h1) (ns T (knd_in h1)).2 sl dc (tryEq_K I.kIn inst hm.at_ hm.fn (go (p := .ref _) rfl rx rb ra hmd))
theorem op_ownAnyN (F : DfZ X.prog X.w X.K X.mg X.base k d ps (spM X.K md)) (hr : RmZ (k + 1) X.A) (hm : Meth X.K (He.ga X.K c) "__eq__" (d.ad X.K)) (hn : neC X.K c = true) (ho : oeB X.K c = true) : OpR X (compareOp .NotEq) (rOpM X.K (ownAny true c md)) := by
  obtain ⟨hn1, hn2⟩ := He.ba (show neB X.K c = true from hn)
  have hn1 := He.eqO_ok hn1
  have hn2 := of_decide_eq_true hn2
  intro pins s σ H x y v u Q I rx ry ⟨g, s0, a, b, r, s', R, ra, rb, hf, kk⟩
  obtain ⟨t, rfl, hcase⟩ := ownAny_some hf
  have hu : X.A.units + 1 < cLine := by have := hr.r.un; omega
  have et : (t != true) = !t := by cases t <;> rfl
  rw [et] at kk hf
  have ns : ∀ T, T ∈ kndL → subIn X.K (.type T) (.ref (He.ga X.K c)) = some false ∧ subIn X.K (.ref (He.ga X.K c)) (.type T) = some false := fun T hT => by
    have := List.all_eq_true.mp ho T hT
    obtain ⟨q1, q2⟩ := Bool.and_eq_true_iff.mp this
    exact ⟨of_decide_eq_true q1, of_decide_eq_true q2⟩
  have go : ∀ {p q : V} {p' q' : Value} {da db : D}, RelV p p' → RelV q q' → Rep X.K g p da → Rep X.K g q db → md [da, db] s0 = some (.bl t, s') →
      wpAny (model X.prog X.w) X.A.in1 (call (.ref (d.ad X.K)) [p', q']) (fun u s' => ∃ t, u = .bool t ∧ EP X pins σ Q (.bool (!t)) s') X.xe s := fun {p q p' q' da db} r1 r2 ra rb hmd =>
    wpAny_mono (F.callAt hr.in1 (by exact I.ok.frames) (pins := pins) (σ := σ) I (show Vals [p, q] [p', q'] from .cons r1 (.cons r2 .nil)) (Q := fun v H' => v = .bl t ∧ Q (.bl (!t)) H') ⟨g, s0, _, _, _, R, .cons ra (.cons rb .nil), hmd, fun v g' H' st rv => by
      cases rv
      exact ⟨rfl, kk _ g' H' st (.bl _)⟩⟩) (fun w s2 ⟨z, H1, I1, rz, ez, q⟩ => by
      subst ez
      obtain rfl : w = Value.bool t := rz
      exact ⟨t, rfl, .bl (!t), H1, I1, rfl, q⟩) fun _ _ z => z
  show wpAny (model X.prog X.w) X.A (richCompare .NotEq v u) (EP X pins σ Q) X.xe s
  rcases hcase with ⟨h1, h2, hmd⟩ | ⟨T, h1, h2, hmd⟩ | ⟨T, h1, h2, hmd⟩
  · exact op_ownNe F hr hm hn pins s σ H x y v u Q I rx ry ⟨g, s0, a, b, _, s', R, ra, rb, by unfold ownNe; rw [h1, h2]; simp only [Bool.and_self]; rw [hmd], kk⟩
  · obtain ⟨fs, rfl⟩ := ofC_some h1
    cases id ra with
    | obj hF rF =>
      obtain rfl : v = Value.ref _ := rx
      obtain ⟨ox, od, inst⟩ := inst_of I (ins_H R hF)
      exact left_K (op := .NotEq) rfl (by omega) I.kIn inst (type_of I R ry rb h2) (ns T (knd_in h2)).1 (tryNe_K hu I.kIn inst hn1 hn2 hm.at_ hm.fn (go (p := .ref _) rfl ry ra rb hmd))
  · obtain ⟨fs, rfl⟩ := ofC_some h2
    cases id rb with
    | obj hF rF =>
      obtain rfl : u = Value.ref _ := ry
      obtain ⟨ox, od, inst⟩ := inst_of I (ins_H R hF)
      obtain ⟨id', sl, dc⟩ := decl_ne I R rx ra h1 (ins_at I (ins_H R hF)) (ns T (knd_in h1)).2 (A := X.A) (E := X.xe)
      exact right_K (op := .NotEq) rfl (by omega) I.kIn inst (type_of I R rx ra h1) (ns T (knd_in h1)).2 sl dc (tryNe_K hu I.kIn inst hn1 hn2 hm.at_ hm.fn (go (p := .ref _) rfl rx rb ra hmd))
theorem d_ownAnyE (c : Str) (F : DfZ X.prog X.w X.K X.mg X.base j d ps (spM X.K md)) (hr : RmZ k X.A) (hj : j ≤ k) (hm : Meth X.K (He.ga X.K c) "__eq__" (d.ad X.K)) (ho : oeB X.K c = true) (ha : PE X a (trE X.K ma)) (hb : PE X b (trE X.K mb)) (hmk : behindInMarks .Eq b = false := by rfl) : PE X (.Compare a [.Eq] [b] pos) (trE X.K (mOpM (ownAny false c md) ma mb)) :=
  PE.imp (pe_cmpR (op_ownAnyE F (hr.mono hj) hm ho) ha hb hmk) fun _ _ _ => trE_opM
theorem d_ownAnyN (c : Str) (F : DfZ X.prog X.w X.K X.mg X.base j d ps (spM X.K md)) (hr : RmZ k X.A) (hj : j + 1 ≤ k) (hm : Meth X.K (He.ga X.K c) "__eq__" (d.ad X.K)) (hn : neC X.K c = true) (ho : oeB X.K c = true) (ha : PE X a (trE X.K ma)) (hb : PE X b (trE X.K mb)) (hmk : behindInMarks .NotEq b = false := by rfl) : PE X (.Compare a [.NotEq] [b] pos) (trE X.K (mOpM (ownAny true c md) ma mb)) :=
  PE.imp (pe_cmpR (op_ownAnyN F (hr.mono hj) hm hn ho) ha hb hmk) fun _ _ _ => trE_opM
end
end Z

namespace Z
namespace C
open PySem PySem.Spec PyProof.Rows L2
/-! ### rings joined, left, ruled, compared -/
abbrev Frame.wh (f : Frame) (hs : List Host) : Frame := { f with hs := hs }
theorem flat_sub {xs ys : List Host} (h : xs.Sublist ys) : (xs.flatMap (·.ms)).Sublist (ys.flatMap (·.ms)) := by
  induction h with
  | slnil => exact .slnil
  | cons a h ih => rw [List.flatMap_cons]; exact ih.trans (List.sublist_append_right _ _)
  | cons_cons a h ih => rw [List.flatMap_cons, List.flatMap_cons]; exact ih.append_left _
theorem hsok_sub {z : Int} {k : Nat} {xs ys : List Host} (h : xs.Sublist ys) (H : HsOk z k ys) : HsOk z k xs where
  nd := (h.map _).nodup H.nd
  nm := fun x hx => H.nm x (h.subset hx)
  ne := fun x hx => H.ne x (h.subset hx)
  up := fun x hx => H.up x (h.subset hx)
  inz := fun x hx => H.inz x (h.subset hx)
  apart := (flat_sub h).nodup H.apart
def less (hs : List Host) (x : Str) : List Host := hs.filter fun h => !decide (h.nm = x)
theorem eq_ok {f g : Frame} (s : S) (F : FrOk 12 16 f) (G : FrOk 12 16 g) : u_Ring___eq__ [ringD f, ringD g] s = some (.bl (decide (textOf f = textOf g)), s) := by
  have a := str_ok s F
  have b := str_ok s G
  refine eq_of_on ?_
  unfold u_Ring___eq__
  refine wp_mkD rfl ?_
  unfold ringD at *
  repeat bv_omega
  refine on_some a ⟨rfl, ?_⟩
  repeat bv_omega
  refine on_some b ⟨rfl, ?_⟩
  repeat bv_omega
  exact ⟨rfl, rfl⟩
abbrev Frame.wr (f : Frame) (a b : Int) (y : Str) : Frame := { f with a := a, b := b, y := y }
end C
end Z

namespace Z
namespace C
open PySem PySem.Spec PyProof.Rows L2
/-! ### a host that can join -/
def nkL : List Str := (List.range 12).map fun k : Nat => ("n" : Str) ++ numS k
def hostOfD (h : Host) : D := h.D
end C
end Z

namespace Z
namespace C
open PySem PySem.Spec PyProof.Rows L2
theorem hsok_perm {z : Int} {k : Nat} {xs ys : List Host} (h : xs.Perm ys) (H : HsOk z k ys) : HsOk z k xs where
  nd := ((h.map (·.nm)).nodup_iff).mpr H.nd
  nm := fun x hx => H.nm x (h.mem_iff.mp hx)
  ne := fun x hx => H.ne x (h.mem_iff.mp hx)
  up := fun x hx => H.up x (h.mem_iff.mp hx)
  inz := fun x hx => H.inz x (h.mem_iff.mp hx)
  apart := ((h.flatMap_right _).nodup_iff).mpr H.apart
end C
end Z

namespace Z
namespace C
open PySem PySem.Spec PyProof.Rows L2
/-! ### marks in order -/
/-- names and marks, the marks ascending -/
structure Mk (hs : List Host) (mk : List (Int × Str)) : Prop where
  perm : mk.Perm (pairsOf hs)
  up : mk.Pairwise fun p q => p.1 < q.1
/-! ### first met -/
def addK (acc : List Str) (x : Str) : List Str := if x ∈ acc then acc else acc ++ [x]
def ded (l : List Str) : List Str := l.foldl addK []
def keysD (l : List Str) : List (Key × D) := l.map fun x => (Sum.inr x, D.bl true)
/-! ### the walk -/
def walkN (mk : List (Int × Str)) (p : Int) : List Str := ded ((mk.filter fun q => decide (p ≤ q.1)).map (·.2) ++ (mk.filter fun q => decide (q.1 < p)).map (·.2))
end C
end Z

namespace Z
namespace C
open PySem PySem.Spec PyProof.Rows L2
/-! ### whose a point is -/
def ownN (mk : List (Int × Str)) (m : Int) : Option Str := (mk.find? fun q => decide (q.1 = m)).map (·.2)
def ownKV (ps : List (Int × Str)) : List (Key × D) := ps.map fun q => (Sum.inl q.1, D.str q.2)
/-! ### points in a row -/
end C
end Z

namespace Z
namespace C
open PySem PySem.Spec PyProof.Rows L2
/-! ### the first of each rack -/
def addF (rk : Str → Str) (acc : List Str) (x : Str) : List Str := if rk x ∈ acc.map rk then acc else acc ++ [x]
def firsts (rk : Str → Str) (w : List Str) : List Str := w.foldl (addF rk) []
/-- who keeps, of a walk -/
def keepR (rk : Str → Str) (n : Nat) (w : List Str) : List Str := (((firsts rk w).take n) ++ w.filter fun x => decide (x ∉ (firsts rk w).take n)).take n
def firstKV (rk : Str → Str) (l : List Str) : List (Key × D) := l.map fun x => (Sum.inr (rk x), D.str x)
end C
end Z

namespace Z
namespace C
open PySem PySem.Spec PyProof.Rows L2
def rkOf (hs : List Host) (x : Str) : Str := ((hs.find? fun h => decide (h.nm = x)).map (·.rk)).getD (Str.ofString "")
def keepN (f : Frame) (w : List Str) : List Str := if f.x = Str.ofString "hosts" then w.take f.w.toNat else keepR (rkOf f.hs) f.w.toNat w
end C
end Z

namespace Z
namespace C
open PySem PySem.Spec PyProof.Rows L2
theorem idxL_nat {ds : List D} {j : Nat} {d : D} (h : ds[j]? = some d) : idxD (.lst ds) (.int (j : Int)) = some d := by
  obtain ⟨r, h1, h2⟩ := wp_idxL (Q := fun r => r = d) h rfl
  rw [h1, h2]
end C
end Z

namespace Z
namespace C
open PySem PySem.Spec PyProof.Rows L2
/-! ### walks point by point -/
def stepsN (mk : List (Int × Str)) (z p n : Nat) : List Str := (List.range n).filterMap fun k : Nat => ownN mk (((p : Int) + k) % z)
/-- laws whose cases are at most c -/
abbrev lawN (c : Int) (ur : MD) : MD := mkD 1 2 (sRet (mCall allD (aCons (mLc [1] (rngI (aCons (mCall max2D (aCons (mC (.int 2)) (aCons (mCall min2D (aCons (mCall lenD (aCons (mVar 0) (aNil))) (aCons (mC (.int c)) (aNil)))) (aNil)))) (aNil))) (cNm 1) (yesT) (mCallD ur (aCons (mCel (mCallD u__law_filled (aCons (mVar 0) (aCons (mVar 1) (aNil))))) (aNil)))) (aNil))))
end C
end Z

namespace Z
namespace C
open PySem PySem.Spec PyProof.Rows L2
/-- the walks of all keys of a small ring -/
def metsD (mk : List (Int × Str)) (z : Nat) : List D := (List.range z).map fun p : Nat => .lst ((walkN mk p).map .str)
end C
end Z

namespace Z
namespace C
open PySem PySem.Spec PyProof.Rows L2
/-! ### the least ways -/
def wayI (z p m : Int) : Int := (m - p) % z
def ordL (z p : Int) (mk : List (Int × Str)) : List (Int × Str) := ((mk.filter fun q => decide (p ≤ q.1)) ++ mk.filter fun q => decide (q.1 < p)).map fun q => (wayI z p q.1, q.2)
def wayH (z p : Int) (h : Host) : Int := match h.ms with
  | [] => 0
  | m :: ms => leastI (wayI z p m) (ms.map (wayI z p))
def wayN (z p : Int) (hs : List Host) (x : Str) : Int := ((hs.find? fun h => decide (h.nm = x)).map (wayH z p)).getD 0
end C
end Z

namespace Z
namespace C
open PySem PySem.Spec PyProof.Rows L2
/-- the marks, ascending -/
def edgesN (mk : List (Int × Str)) : List Int := mk.map (·.1)
end C
end Z

namespace Z
namespace C
open PySem PySem.Spec PyProof.Rows L2
theorem all_ints {P : Int → Prop} : ∀ {ys : List D}, (∀ y ∈ ys, ∃ w : Int, y = .int w ∧ P w) → ∃ as : List Int, ys = as.map .int ∧ ∀ a ∈ as, P a
  | [], _ => ⟨[], rfl, fun a h => by cases h⟩
  | y :: ys, all => by
    obtain ⟨w, rfl, hw⟩ := all y (by simp)
    obtain ⟨as, rfl, h2⟩ := all_ints fun y hy => all y (List.mem_cons_of_mem _ hy)
    exact ⟨w :: as, rfl, fun a ha => by
      rcases List.mem_cons.mp ha with rfl | h
      · exact hw
      · exact h2 a h⟩
end C
end Z

namespace Z
namespace C
open PySem PySem.Spec PyProof.Rows L2
/-! ### cells -/
def atN (es : List Int) (j : Nat) : Int := es.getD j 0
def prevE (es : List Int) (j : Nat) : Int := if j = 0 then atN es (es.length - 1) else atN es (j - 1)
def manyE (z : Int) (es : List Int) (j : Nat) : Int := (atN es j - prevE es j - 1) % z + 1
def firstE (z : Int) (es : List Int) (j : Nat) : Int := (prevE es j + 1) % z
/-- so many are below -/
def cntE (es : List Int) (p : Int) : Nat := es.countP fun e => decide (e < p)
end C
end Z

namespace Z
namespace C
open PySem PySem.Spec PyProof.Rows L2
def cellFs (a b c : D) : List (Str × D) := [("first", a), ("many", b), ("last", c)]
def cellD (z : Int) (es : List Int) (j : Nat) : D := .obj "Cell" (cellFs (.int (firstE z es j)) (.int (manyE z es j)) (.int (atN es j)))
/-- a cell with its keepers -/
def partD (f : Frame) (mk : List (Int × Str)) (j : Nat) : D := .tup [.int (firstE f.z (edgesN mk) j), .int (manyE f.z (edgesN mk) j), .tup ((keepN f (walkN mk (atN (edgesN mk) j))).map .str)]
def partsD (f : Frame) (mk : List (Int × Str)) : List D := (List.range mk.length).map (partD f mk)
end C
end Z

namespace Z
namespace C
open PySem PySem.Spec PyProof.Rows L2
end C
end Z

namespace Z
namespace C
open PySem PySem.Spec PyProof.Rows L2
/-! ### rings alike -/
end C
end Z

namespace Z
namespace C
open PySem PySem.Spec PyProof.Rows L2
theorem FrOk.other {f : Frame} {hs : List Host} (F : FrOk 12 16 f) (H : HsOk f.z 16 hs) (h0 : 1 ≤ hs.length) (h1 : hs.length ≤ 12) : FrOk 12 16 (f.wh hs) := ⟨F.z0, F.z1, F.w0, F.w1, F.a0, F.a1, F.b0, F.b1, F.x, F.y, H, h0, h1⟩
def sortI (l : List Int) : List Int := l.mergeSort fun a b => decide (a ≤ b)
theorem sortI_ok {l : List Int} (nd : l.Nodup) : (sortI l).Perm l ∧ (sortI l).Pairwise (· < ·) ∧ sortedD [.lst (l.map .int)] = some (.lst ((sortI l).map .int)) := by
  have p : (sortI l).Perm l := List.mergeSort_perm _ _
  have le := List.pairwise_mergeSort (le := fun a b : Int => decide (a ≤ b)) (fun a b c h1 h2 => by simp at h1 h2 ⊢; omega) (fun a b => by simp; omega) l
  have nd2 : (sortI l).Nodup := p.nodup_iff.mpr nd
  rw [List.nodup_iff_pairwise_ne] at nd2
  have up : (sortI l).Pairwise (· < ·) := (le.and nd2).imp fun {a b} h => by
    have h1 : a ≤ b := by simpa using h.1
    have := h.2
    omega
  obtain ⟨ms, e, p2, u2⟩ := sort_ints nd
  have : ms = sortI l := List.Perm.eq_of_pairwise (fun a b _ _ h1 h2 => by omega) u2 up (p2.trans p.symm)
  exact ⟨p, up, by rw [e, this]⟩
/-! moved on -/
def moveM (z t m : Int) : Int := (m + t) % z
def moveH (z t : Int) (h : Host) : Host := ⟨h.nm, h.rk, sortI (h.ms.map (moveM z t))⟩
/-! stretched -/
def strM (t m : Int) : Int := m * t + t - 1
def strH (t : Int) (h : Host) : Host := ⟨h.nm, h.rk, h.ms.map (strM t)⟩
abbrev Frame.str (f : Frame) (t : Int) : Frame := { f with z := f.z * t, hs := f.hs.map (strH t) }
end C
end Z

set_option linter.all false
set_option maxRecDepth 100000
namespace Z
namespace K08
open PySem
open C
/-! ### mirrors -/
def u__law_other_crew : MD := mkD 3 14 (sSeq (sPar [3, 4] (xVal (mCallD u__law_dip (aCons (mVar 0) (aCons (mCall lenD (aCons (mVar 2) (aNil))) (aNil)))) (xVal (mCallD u__law_dip (aCons (mVar 0) (aCons (mC (.int 8)) (aNil)))) (xNil)))) (sSeq (sAsg (gSeq (gsCons (gNm 5) (gsCons (gNm 6) (gsCons (gNm 7) (gsNil))))) (mOp idxD (mVar 2) (mVar 3))) (sSeq (sSet 8 (mLst (aNil))) (sSeq (sFor (seqI (mVar 2)) (gNm 9) (sSet 8 (mOp addAll (mVar 8) (mCall listD (aCons (mOp idxD (mVar 9) (mC (.int 2))) (aNil)))))) (sSeq (sSet 10 (mLst (aCons (mC (.int 0)) (aCons (mOp subD (mVar 1) (mC (.int 1))) (aCons (mOp fdivD (mVar 1) (mC (.int 2))) (aCons (mOp addD (mOp idxD (mVar 7) (mC (.int 0))) (mC (.int 1))) (aCons (mOp subD (mOp idxD (mVar 7) (mUn negD (mC (.int 1)))) (mC (.int 1))) (aNil)))))))) (sSeq (sOwn 11 (mLc [12] (seqI (mVar 10)) (cNm 12) (tAndZ (mT (mChain leD ltD (mC (.int 0)) (mVar 12) (mVar 1))) (mT (mOp notInAD (mVar 12) (mVar 8)))) (mVar 12))) (sSeq (sIf (mT (mOp eqD (mVar 4) (mC (.int 0)))) (sRet (mOp addD (mSl slD (mVar 2) (oSome (mVar 3)) (oNone)) (mSl slD (mVar 2) (oNone) (oSome (mVar 3))))) (sNil)) (sSeq (sIf (mT (mOp eqD (mVar 4) (mC (.int 1)))) (sRet (mRev revT (mVar 2))) (sNil)) (sSeq (sIf (tAndZ (mT (mOp eqD (mVar 4) (mC (.int 2)))) (mT (mOp gtD (mCall lenD (aCons (mVar 2) (aNil))) (mC (.int 1))))) (sRet (mOp addD (mSl slD (mVar 2) (oNone) (oSome (mVar 3))) (mSl slD (mVar 2) (oSome (mOp addD (mVar 3) (mC (.int 1)))) (oNone)))) (sNil)) (sSeq (sIf (mT (mOp eqD (mVar 4) (mC (.int 3)))) (sRet (mOp addD (mOp addD (mSl slD (mVar 2) (oNone) (oSome (mVar 3))) (mTup (aCons (mTup (aCons (mVar 5) (aCons (mOp addD (mSl slD (mVar 6) (oNone) (oSome (mC (.int 7)))) (mC (.str "z"))) (aCons (mVar 7) (aNil))))) (aNil)))) (mSl slD (mVar 2) (oSome (mOp addD (mVar 3) (mC (.int 1)))) (oNone)))) (sNil)) (sSeq (sIf (tAndZ (mT (mOp eqD (mVar 4) (mC (.int 4)))) (mT (mOp notInAD (mOp addD (mSl slD (mVar 5) (oNone) (oSome (mC (.int 7)))) (mC (.str "z"))) (mLc [9] (seqI (mVar 2)) (cNm 9) (yesT) (mOp idxD (mVar 9) (mC (.int 0))))))) (sRet (mOp addD (mOp addD (mSl slD (mVar 2) (oNone) (oSome (mVar 3))) (mTup (aCons (mTup (aCons (mOp addD (mSl slD (mVar 5) (oNone) (oSome (mC (.int 7)))) (mC (.str "z"))) (aCons (mVar 6) (aCons (mVar 7) (aNil))))) (aNil)))) (mSl slD (mVar 2) (oSome (mOp addD (mVar 3) (mC (.int 1)))) (oNone)))) (sNil)) (sSeq (sFrz 11 (sIf (tOrZ (mT (mOp eqD (mVar 11) (mLst (aNil)))) (mT (mOp eqD (mCall lenD (aCons (mVar 7) (aNil))) (mC (.int 16))))) (sSeq (sSet 13 (mIf (mT (mOp gtD (mCall lenD (aCons (mVar 7) (aNil))) (mC (.int 1)))) (mSl slD (mVar 7) (oNone) (oSome (mUn negD (mC (.int 1))))) (mVar 7))) (sRet (mOp addD (mOp addD (mSl slD (mVar 2) (oNone) (oSome (mVar 3))) (mTup (aCons (mTup (aCons (mVar 5) (aCons (mVar 6) (aCons (mVar 13) (aNil))))) (aNil)))) (mSl slD (mVar 2) (oSome (mOp addD (mVar 3) (mC (.int 1)))) (oNone))))) (sNil))) (sSeq (sIf (mT (mOp eqD (mVar 4) (mC (.int 5)))) (sRet (mOp addD (mOp addD (mSl slD (mVar 2) (oNone) (oSome (mVar 3))) (mTup (aCons (mTup (aCons (mVar 5) (aCons (mVar 6) (aCons (mCall tupleD (aCons (mCallD (fun ds s => lft (sortedTD ds) s) (aCons (mOp addD (mVar 7) (mTup (aCons (mOp idxD (mVar 11) (mC (.int 0))) (aNil)))) (aNil))) (aNil))) (aNil))))) (aNil)))) (mSl slD (mVar 2) (oSome (mOp addD (mVar 3) (mC (.int 1)))) (oNone)))) (sNil)) (sRet (mOp addD (mOp addD (mSl slD (mVar 2) (oNone) (oSome (mVar 3))) (mTup (aCons (mTup (aCons (mVar 5) (aCons (mVar 6) (aCons (mCall tupleD (aCons (mCallD (fun ds s => lft (sortedTD ds) s) (aCons (mOp addD (mSl slD (mVar 7) (oSome (mC (.int 1))) (oNone)) (mTup (aCons (mOp idxD (mVar 11) (mUn negD (mC (.int 1)))) (aNil)))) (aNil))) (aNil))) (aNil))))) (aNil)))) (mSl slD (mVar 2) (oSome (mOp addD (mVar 3) (mC (.int 1)))) (oNone)))))))))))))))))
def u__law_other : MD := mkD 2 10 (sSeq (sAsg (gSeq (gsCons (gNm 2) (gsCons (gNm 3) (gsCons (gNm 4) (gsCons (gNm 5) (gsCons (gNm 6) (gsCons (gNm 7) (gsCons (gNm 8) (gsNil))))))))) (mVar 1)) (sSeq (sSet 9 (mCallD u__law_dip (aCons (mVar 0) (aCons (mC (.int 12)) (aNil))))) (sSeq (sIf (mT (mOp eqD (mVar 9) (mC (.int 0)))) (sRet (mCallD u__law_build (aCons (mVar 0) (aCons (mVar 2) (aCons (mC (.int 3)) (aCons (mC (.int 2)) (aNil))))))) (sNil)) (sSeq (sIf (mT (mOp eqD (mVar 9) (mC (.int 1)))) (sRet (mOp addAll (mLst (aCons (mCall min2D (aCons (mOp addD (mVar 2) (mC (.int 1))) (aCons (mOp powD (mC (.int 10)) (mC (.int 18))) (aNil)))) (aNil))) (mSl slL (mVar 1) (oSome (mC (.int 1))) (oNone)))) (sNil)) (sSeq (sIf (mT (mOp eqD (mVar 9) (mC (.int 2)))) (sRet (mOp addAll (mLst (aCons (mVar 2) (aCons (mCall min2D (aCons (mOp addD (mVar 3) (mC (.int 1))) (aCons (mC (.int 5)) (aNil)))) (aNil)))) (mSl slL (mVar 1) (oSome (mC (.int 2))) (oNone)))) (sNil)) (sSeq (sIf (mT (mOp eqD (mVar 9) (mC (.int 3)))) (sRet (mOp addAll (mOp addAll (mSl slL (mVar 1) (oNone) (oSome (mC (.int 2)))) (mLst (aCons (mIf (mT (mOp eqD (mVar 4) (mC (.str "racks")))) (mC (.str "hosts")) (mC (.str "racks"))) (aNil)))) (mSl slL (mVar 1) (oSome (mC (.int 3))) (oNone)))) (sNil)) (sSeq (sIf (mT (mOp eqD (mVar 9) (mC (.int 4)))) (sRet (mOp addAll (mOp addAll (mSl slL (mVar 1) (oNone) (oSome (mC (.int 3)))) (mLst (aCons (mOp addD (mOp modD (mCall intD (aCons (mVar 5) (aNil))) (mVar 3)) (mC (.int 1))) (aNil)))) (mSl slL (mVar 1) (oSome (mC (.int 4))) (oNone)))) (sNil)) (sSeq (sIf (mT (mOp eqD (mVar 9) (mC (.int 5)))) (sRet (mOp addAll (mOp addAll (mSl slL (mVar 1) (oNone) (oSome (mC (.int 4)))) (mLst (aCons (mOp addD (mOp modD (mCall intD (aCons (mVar 6) (aNil))) (mVar 3)) (mC (.int 1))) (aNil)))) (mSl slL (mVar 1) (oSome (mC (.int 5))) (oNone)))) (sNil)) (sSeq (sIf (mT (mOp eqD (mVar 9) (mC (.int 6)))) (sRet (mOp addAll (mSl slL (mVar 1) (oNone) (oSome (mC (.int 5)))) (mLst (aCons (mIf (mT (mOp eqD (mVar 7) (mC (.str "with")))) (mC (.str "plain")) (mC (.str "with"))) (aCons (mVar 8) (aNil)))))) (sNil)) (sRet (mIf (mT (mOp eqD (mVar 9) (mC (.int 7)))) (mVar 1) (mOp addAll (mSl slL (mVar 1) (oNone) (oSome (mC (.int 6)))) (mLst (aCons (mCallD u__law_other_crew (aCons (mVar 0) (aCons (mVar 2) (aCons (mVar 8) (aNil))))) (aNil)))))))))))))))
def u__law_pair_right : MD := mkD 3 4 (sSeq (sSet 3 (mLst (aCons (mOpM (ownAny false "Ring" u_Ring___eq__) (mVar 0) (mVar 1)) (aCons (mOpM (ownAny false "Ring" u_Ring___eq__) (mVar 1) (mVar 0)) (aCons (mOpM (ownAny true "Ring" u_Ring___eq__) (mVar 0) (mVar 1)) (aCons (mOpM (ownAny true "Ring" u_Ring___eq__) (mVar 1) (mVar 0)) (aNil))))))) (sRet (mOp eqD (mCallD reprM (aCons (mVar 3) (aNil))) (mCallD reprM (aCons (mLst (aCons (mVar 2) (aCons (mVar 2) (aCons (mUn notD (mVar 2)) (aCons (mUn notD (mVar 2)) (aNil)))))) (aNil))))))
def u__law_value : MD := mkD 1 2 (sSeq (sSet 1 (mLst (aCons (mC .non) (aCons (mC (.bl true)) (aCons (mC (.bl false)) (aCons (mC (.int 0)) (aCons (mC (.int 1)) (aCons (mUn negD (mC (.int 1))) (aCons (mC (.int 2)) (aCons (mOp powD (mC (.int 10)) (mC (.int 39))) (aCons (mC (.str "")) (aCons (mC (.str "a")) (aCons (mC (.str "hosts")) (aCons (mC (.str "5")) (aCons (mTup (aNil)) (aCons (mTup (aCons (mC (.int 0)) (aNil))) (aCons (mLst (aNil)) (aCons (mLst (aCons (mC (.int 1)) (aNil))) (aCons (mDic0) (aCons (mDisp [(mC (.str "a"), mC (.int 1))]) (aCons (mTup (aCons (mC (.str "a")) (aCons (mC .non) (aNil)))) (aNil)))))))))))))))))))))) (sRet (mCallD u__law_of (aCons (mVar 0) (aCons (mOp addAll (mVar 1) (mLst (aCons (mTup (aCons (mC (.str "a")) (aCons (mC (.str "r")) (aCons (mTup (aCons (mC (.int 0)) (aNil))) (aNil))))) (aCons (mTup (aCons (mTup (aCons (mC (.str "a")) (aCons (mC (.str "r")) (aCons (mTup (aCons (mC (.int 0)) (aNil))) (aNil))))) (aNil))) (aCons (mLst (aCons (mC (.str "a")) (aCons (mC (.str "r")) (aCons (mLst (aCons (mC (.int 0)) (aNil))) (aNil))))) (aCons (mC (.str "ring 1 1 hosts 1 1 plain")) (aCons (mC (.str "a b")) (aNil)))))))) (aNil))))))
def u__law_right : MD := mkD 1 8 (sSeq (sSet 1 (mCallD u__law_build (aCons (mVar 0) (aCons (mCallD u__law_width (aCons (mVar 0) (aNil))) (aCons (mCallD u__law_of (aCons (mVar 0) (aCons (mLst (aCons (mC (.int 2)) (aCons (mC (.int 5)) (aCons (mC (.int 12)) (aNil))))) (aNil)))) (aCons (mC (.int 4)) (aNil))))))) (sSeq (sPar [2, 3] (xVal (mCallD u__law_made (aCons (mVar 0) (aCons (mVar 1) (aNil)))) (xVal (mCallD u__law_sheet (aCons (mVar 1) (aNil))) (xNil)))) (sSeq (sFor (rngI (aCons (mC (.int 5)) (aNil))) (gNm 4) (sSeq (sSet 5 (mCallD u__law_other (aCons (mVar 0) (aCons (mVar 1) (aNil))))) (sSeq (sSet 6 (mCallD u__law_made (aCons (mVar 0) (aCons (mVar 5) (aNil))))) (sIf (tOrZ (tNotZ (mT (mCallD u__law_pair_right (aCons (mVar 2) (aCons (mVar 6) (aCons (mOp eqD (mCallD u__law_sheet (aCons (mVar 5) (aNil))) (mVar 3)) (aNil))))))) (mT (mOp neD (mCallD (ownD "Ring" u_Ring___str__ okStr) (aCons (mVar 2) (aNil))) (mVar 3)))) (sRet (mC (.bl false))) (sNil))))) (sSeq (sFor (seqI (mLst (aCons (mVar 3) (aCons (mVar 1) (aCons (mCall tupleD (aCons (mVar 1) (aNil))) (aCons (mOp idxD (mVar 1) (mC (.int 6))) (aCons (mCall lenD (aCons (mOp idxD (mVar 1) (mC (.int 6))) (aNil))) (aCons (mC .non) (aCons (mC (.bl true)) (aCons (mCallD u__law_value (aCons (mVar 0) (aNil))) (aNil))))))))))) (gNm 7) (sIf (tNotZ (mT (mCallD u__law_pair_right (aCons (mVar 2) (aCons (mVar 7) (aCons (mC (.bl false)) (aNil))))))) (sRet (mC (.bl false))) (sNil))) (sRet (mC (.bl true)))))))
def u_law : MD := mkD 1 2 (sRet (mCall allD (aCons (mLc [1] (rngI (aCons (mCall max2D (aCons (mC (.int 2)) (aCons (mCall min2D (aCons (mCall lenD (aCons (mVar 0) (aNil))) (aCons (mC (.int 5)) (aNil)))) (aNil)))) (aNil))) (cNm 1) (yesT) (mCallD u__law_right (aCons (mCel (mCallD u__law_filled (aCons (mVar 0) (aCons (mVar 1) (aNil))))) (aNil)))) (aNil))))
end K08
end Z

namespace Z
namespace K08
open PySem PySem.Spec PyProof.Rows L2
open C
/-! ### names with another last sign -/
def Nz (x : Str) : Str := cutS x none (some 7) ++ "z"
theorem cut7 (x : Str) : (cutS x none (some 7)).cps.toList = x.cps.toList.take 7 := by
  unfold cutS
  have e1 : HT.sIx x.length x.length (some 7) = min 7 x.length := by unfold HT.sIx; simp
  have e2 : HT.sIx x.length 0 none = 0 := by unfold HT.sIx; rfl
  rw [e1, e2, len_cps]
  simp only [List.drop_zero, Nat.sub_zero]
  rw [List.take_eq_take_iff.mpr]
  simp
theorem nz_ok {x : Str} (h : Nm x) : Nm (Nz x) := by
  obtain ⟨c, cs, e, h1, h2, h3⟩ := h
  have e0 : (Nz x).cps.toList = c :: (cs.take 6 ++ [122]) := by
    unfold Nz
    rw [Str.cps_append, Array.toList_append, cut7, e]
    rfl
  unfold Nm
  rw [e0]
  refine ⟨c, _, rfl, h1, fun d hd => ?_, by simp; omega⟩
  rcases List.mem_append.mp hd with q | q
  · exact h2 d (List.mem_of_mem_take q)
  · rw [List.mem_singleton.mp q]; decide
/-! ### hosts in another order, one less, one otherwise -/
theorem hsok_repl {z : Int} {k : Nat} {A B : List Host} {h h' : Host} (H : HsOk z k (A ++ h :: B)) (d : Nm h'.nm ∧ Nm h'.rk) (ne : h'.ms ≠ [] ∧ h'.ms.length ≤ k) (up : h'.ms.Pairwise (· < ·)) (inz : ∀ m ∈ h'.ms, 0 ≤ m ∧ m < z)
    (nn : h'.nm = h.nm ∨ h'.nm ∉ nmsOf (A ++ h :: B)) (ap : ∀ m ∈ h'.ms, m ∈ h.ms ∨ m ∉ (A ++ h :: B).flatMap (·.ms)) : HsOk z k (A ++ h' :: B) := by
  have p : (A ++ h :: B).Perm ((A ++ B) ++ [h]) := List.perm_middle.trans (List.perm_append_singleton h (A ++ B)).symm
  have p' : ((A ++ B) ++ [h']).Perm (A ++ h' :: B) := (List.perm_middle.trans (List.perm_append_singleton h' (A ++ B)).symm).symm
  have H1 := hsok_perm p.symm H
  refine hsok_perm p'.symm ?_
  have nd1 : h.nm ∉ nmsOf (A ++ B) := by
    have := H1.nd
    rw [List.map_append, List.nodup_append] at this
    exact fun q => this.2.2 _ q h.nm (by simp) rfl
  have hn : h'.nm ∉ nmsOf (A ++ B) := by
    rcases nn with e | e
    · rw [e]; exact nd1
    · exact fun q => e (by
        obtain ⟨x, hx, he⟩ := List.mem_map.mp q
        exact List.mem_map.mpr ⟨x, by
          rcases List.mem_append.mp hx with z | z
          · exact List.mem_append_left _ z
          · exact List.mem_append_right _ (List.mem_cons_of_mem _ z), he⟩)
  have ap1 : ∀ m ∈ h.ms, m ∉ (A ++ B).flatMap (·.ms) := fun m hm q => by
    have := H1.apart
    rw [List.flatMap_append, List.nodup_append] at this
    exact this.2.2 m q m (by simpa using hm) rfl
  have ap2 : ∀ m ∈ h'.ms, m ∉ (A ++ B).flatMap (·.ms) := fun m hm q => by
    rcases ap m hm with z | z
    · exact ap1 m z q
    · refine z ?_
      obtain ⟨x, hx, hxm⟩ := List.mem_flatMap.mp q
      refine List.mem_flatMap.mpr ⟨x, ?_, hxm⟩
      rcases List.mem_append.mp hx with w | w
      · exact List.mem_append_left _ w
      · exact List.mem_append_right _ (List.mem_cons_of_mem _ w)
  have H2 := hsok_left H1
  exact ⟨by
      rw [List.map_append, List.nodup_append]
      exact ⟨H2.nd, by simp, fun a ha b hb e => by
        simp only [List.map_cons, List.map_nil, List.mem_singleton] at hb
        subst hb; subst e; exact hn ha⟩,
    fun x hx => by rcases List.mem_append.mp hx with q | q; exact H2.nm x q; rw [List.mem_singleton.mp q]; exact d,
    fun x hx => by rcases List.mem_append.mp hx with q | q; exact H2.ne x q; rw [List.mem_singleton.mp q]; exact ne,
    fun x hx => by rcases List.mem_append.mp hx with q | q; exact H2.up x q; rw [List.mem_singleton.mp q]; exact up,
    fun x hx => by rcases List.mem_append.mp hx with q | q; exact H2.inz x q; rw [List.mem_singleton.mp q]; exact inz,
    by
      rw [List.flatMap_append, List.nodup_append]
      exact ⟨H2.apart, by
        simp only [List.flatMap_cons, List.flatMap_nil, List.append_nil]
        exact List.nodup_iff_pairwise_ne.mpr (up.imp fun q => Int.ne_of_lt q), fun a ha b hb e => by
        subst e
        exact ap2 a (by simpa using hb) ha⟩⟩
theorem at_split {α : Type} {l : List α} {i : Nat} {x : α} (h : l[i]? = some x) : l = l.take i ++ x :: l.drop (i + 1) := by
  have hi := (List.getElem?_eq_some_iff.mp h)
  obtain ⟨h1, h2⟩ := hi
  rw [← h2]
  simp
end K08
end Z

namespace Z
namespace K08
open PySem PySem.Spec PyProof.Rows L2
open C
theorem wp_chLL {e : EnvD} {s : S} {ma mb mc : ME} {Q : D → S → Prop} (h : On (ma e s) fun a s1 => On (mb e s1) fun b s2 => ∃ i j : Int, a = .int i ∧ b = .int j ∧ ∃ k : Int, mc e s2 = some (.int k, s2) ∧ Q (.bl (decide (i ≤ j) && decide (j < k))) s2) : On (mChain leD ltD ma mb mc e s) Q := by
  obtain ⟨a, s1, h1, b, s2, h2, i, j, rfl, rfl, k, h3, q⟩ := h
  refine ⟨_, _, ?_, q⟩
  unfold mChain bnd
  rw [h1]; dsimp only
  rw [h2]; dsimp only
  have e1 : leD (.int i) (.int j) = some (.bl (decide (i ≤ j))) := rfl
  rw [e1]
  by_cases hij : i ≤ j
  · rw [decide_eq_true hij]
    simp only [lft]
    rw [h3]
    simp [ltD, lft]
  · rw [decide_eq_false hij]
    simp [lft]
theorem cat_tup {a b : List D} (h : a.length + b.length ≤ 1000) : addD (.tup a) (.tup b) = some (.tup (a ++ b)) := by
  have q : a.length + b.length ≤ sizeLine := by rw [sizeLine_eq]; omega
  simp [addD, catD, q]
theorem sort_tup {l : List Int} (nd : l.Nodup) : sortedTD [.tup (l.map .int)] = some (.lst ((sortI l).map .int)) := by
  have e := (sortI_ok nd).2.2
  unfold sortedD at e
  dsimp only at e
  unfold sortedTD
  dsimp only
  exact e
theorem idxT_nat {ds : List D} {j : Nat} {d : D} (h : ds[j]? = some d) : idxD (.tup ds) (.int (j : Int)) = some d := idxL_nat h
theorem hs_len {hs : List Host} : ((hs.flatMap (·.ms)).length) ≤ 16 * hs.length ∨ True := .inr trivial
theorem flat_le {z : Int} {k : Nat} : ∀ {hs : List Host}, (∀ h ∈ hs, h.ms ≠ [] ∧ h.ms.length ≤ k) → (hs.flatMap (·.ms)).length ≤ hs.length * k
  | [], _ => by simp
  | h :: r, H => by
    rw [List.flatMap_cons, List.length_append, List.length_cons, Nat.succ_mul]
    have := (H h (by simp)).2
    have := flat_le (z := z) (hs := r) fun x hx => H x (by simp [hx])
    omega
theorem eq_nil_ints (is : List Int) : eqD (.lst (is.map .int)) (.lst []) = some (.bl (decide (is = []))) := by
  have h := ne_nil_ints is
  unfold neD at h
  unfold eqD
  obtain ⟨c, h1, h2⟩ := Option.map_eq_some_iff.mp h
  rw [h1]
  have : c = is.isEmpty := by
    cases c <;> cases is <;> simp at h2 ⊢
  rw [this]
  cases is <;> rfl
theorem crew_ok {s : S} {n B : Nat} {f : C.Frame} (h : KG s n B) (hB : B + 100 < 2 ^ 40) (F : FrOk 12 16 f) :
    Dr u__law_other_crew [.cel n, .int f.z, crewD f.hs] s n B 2 fun r => ∃ hs, r = crewD hs ∧ HsOk f.z 16 hs ∧ 1 ≤ hs.length ∧ hs.length ≤ 12 := by
  refine Dr.of ?_
  have h0 := F.h0; have h1 := F.h1; have z0 := F.z0; have z1 := F.z1
  have H := F.hs
  unfold u__law_other_crew
  refine wp_mkD rfl ?_
  unfold crewD
  repeat fail
  rw [List.length_map]
  refine (dip_ok (m := f.hs.length) h (by omega) (by omega) (by omega)).on fun r s1 ⟨i, hr, i0, i1⟩ k1 l1 => ?_
  subst hr
  obtain ⟨i, rfl⟩ : ∃ x : Nat, i = x := ⟨i.toNat, by omega⟩
  obtain ⟨x, hx⟩ : ∃ x, f.hs[i]? = some x := ⟨_, List.getElem?_eq_getElem (by omega)⟩
  have hxm := List.mem_of_getElem? hx
  obtain ⟨xn, xr⟩ := H.nm x hxm
  obtain ⟨x1, x2⟩ := H.ne x hxm
  have xu := H.up x hxm
  have xz := H.inz x hxm
  repeat fail
  refine (dip_ok (m := 8) k1 (by omega) (by omega) (by omega)).on fun r s2 ⟨w, hr, w0, w1⟩ k2 l2 => ?_
  subst hr
  have ix : idxD (.tup (f.hs.map Host.D)) (.int i) = some (.tup [.str x.nm, .str x.rk, .tup (x.ms.map .int)]) := idxT_nat (by rw [List.getElem?_map, hx]; rfl)
  repeat fail
  have fl := flat_le (z := f.z) (hs := f.hs) H.ne
  have fl2 : f.hs.length * 16 ≤ 192 := by omega
  refine wp_forI (fun j e s3 => s3 = s2 ∧ ∃ v9, e = [.val (.cel n), .val (.int f.z), .val (.tup (f.hs.map Host.D)), .val (.int i), .val (.int w), .val (.str x.nm), .val (.str x.rk), .val (.tup (x.ms.map .int)), .val (.lst (((f.hs.take j).flatMap (·.ms)).map .int)), v9, .unb, .unb, .unb, .unb]) ⟨rfl, _, rfl⟩ (fun j e s3 d hd hI => ?_) (fun e s3 hI => ?_)
  · obtain ⟨rfl, v9, rfl⟩ := hI
    rw [List.getElem?_map] at hd
    obtain ⟨y, hy, rfl⟩ := Option.map_eq_some_iff.mp hd
    have i2 : idxD y.D (.int 2) = some (.tup (y.ms.map .int)) := rfl
    have li : listD [.tup (y.ms.map .int)] = some (.lst (y.ms.map .int)) := rfl
    have tk : (f.hs.take (j + 1)).flatMap (·.ms) = (f.hs.take j).flatMap (·.ms) ++ y.ms := by rw [List.take_succ, hy, List.flatMap_append]; simp
    have fj := flat_le (z := f.z) (hs := f.hs.take (j + 1)) fun h hh => H.ne h (List.mem_of_mem_take hh)
    have lt : (f.hs.take (j + 1)).length ≤ 12 := by rw [List.length_take]; omega
    have ca : addAll (.lst (((f.hs.take j).flatMap (·.ms)).map .int)) (.lst (y.ms.map .int)) = some (.lst (((f.hs.take (j + 1)).flatMap (·.ms)).map .int)) := by
      rw [tk, List.map_append]
      refine cat_lst ?_
      rw [tk, List.length_append] at fj
      rw [List.length_map, List.length_map]
      have : (f.hs.take (j + 1)).length * 16 ≤ 192 := by omega
      omega
    generalize D.lst (((f.hs.take (j + 1)).flatMap (·.ms)).map .int) = N1 at *
    generalize D.lst (((f.hs.take j).flatMap (·.ms)).map .int) = N0 at *
    repeat fail
    exact ⟨_, rfl⟩
  obtain ⟨rfl, v9, rfl⟩ := hI
  rw [List.length_map, List.take_length]
  have mTK : ∀ m, m ∉ f.hs.flatMap (·.ms) ↔ m ∉ f.hs.flatMap (·.ms) := fun _ => Iff.rfl
  generalize hTK : f.hs.flatMap (·.ms) = TK at *
  obtain ⟨m0, ms0, hms⟩ : ∃ a r, x.ms = a :: r := by
    cases e : x.ms with
    | nil => exact absurd e x1
    | cons a r => exact ⟨a, r, rfl⟩
  have j0 : idxD (.tup (x.ms.map .int)) (.int 0) = some (.int m0) := by
    rw [hms]
    exact idxT_nat (ds := (m0 :: ms0).map .int) (j := 0) rfl
  obtain ⟨ml, hml, j1⟩ : ∃ ml, ml ∈ x.ms ∧ idxD (.tup (x.ms.map .int)) (.int (-1)) = some (.int ml) := by
    have hl : x.ms.length - 1 < x.ms.length := by have := List.length_pos_iff.mpr x1; omega
    refine ⟨x.ms[x.ms.length - 1], List.getElem_mem hl, ?_⟩
    show atI _ _ = _
    unfold atI
    have ex : ixN (x.ms.map D.int).length (-1) = some (x.ms.length - 1) := by
      unfold ixN
      rw [List.length_map, if_neg (by omega), if_pos (by omega)]
      congr 1
      omega
    rw [ex, Option.bind_some, List.getElem?_map, List.getElem?_eq_getElem hl]; rfl
  have m00 := xz m0 (by rw [hms]; simp)
  have ml0 := xz ml hml
  have fd : fdivD (.int f.z) (.int 2) = some (.int (f.z / 2)) := by
    unfold fdivD
    exact if_pos ⟨by omega, by decide +kernel⟩
  repeat fail
  refine wp_lcF D.int D.int (fun m => decide (0 ≤ m) && decide (m < f.z) && decide (m ∉ TK)) id [0, f.z - 1, f.z / 2, m0 + 1, ml - 1] (fun m hm => ?_) ?_
  · repeat fail
    refine wp_chLL ?_
    repeat fail
    refine ⟨0, m, rfl, rfl, f.z, rfl, ?_⟩
    repeat fail
    refine ⟨fun q => ?_, fun q => ?_⟩
    · rw [q]
      repeat fail
      refine ⟨by simp, rfl, fun _ => ?_⟩
      repeat fail
    · rw [q]
      repeat fail
      exact fun z => by simp at z
  rw [List.map_id]
  have fil : ∀ m ∈ [0, f.z - 1, f.z / 2, m0 + 1, ml - 1].filter (fun m => decide (0 ≤ m) && decide (m < f.z) && decide (m ∉ TK)), (0 ≤ m ∧ m < f.z) ∧ m ∉ TK := fun m hm => by
    have := (List.mem_filter.mp hm).2
    simpa using this
  have fll := List.length_filter_le (fun m => decide (0 ≤ m) && decide (m < f.z) && decide (m ∉ TK)) [0, f.z - 1, f.z / 2, m0 + 1, ml - 1]
  have fl5 : ([0, f.z - 1, f.z / 2, m0 + 1, ml - 1] : List Int).length = 5 := rfl
  generalize [0, f.z - 1, f.z / 2, m0 + 1, ml - 1].filter (fun m => decide (0 ≤ m) && decide (m < f.z) && decide (m ∉ TK)) = FR at *
  refine wp_sz (by rw [List.length_map]; omega) ?_
  have spl := at_split hx
  have tl : (f.hs.take i).length = i := by rw [List.length_take]; omega
  have dl : (f.hs.drop (i + 1)).length = f.hs.length - (i + 1) := List.length_drop
  have dA : slD (.tup (f.hs.map Host.D)) none (some (i : Int)) = some (.tup ((f.hs.take i).map Host.D)) := congrArg (fun l => some (D.tup l)) (by rw [cutL_take, List.map_take])
  have dB : slD (.tup (f.hs.map Host.D)) (some (i : Int)) none = some (.tup ((f.hs.drop i).map Host.D)) := congrArg (fun l => some (D.tup l)) (by rw [cutL_drop, List.map_drop])
  have dC : slD (.tup (f.hs.map Host.D)) (some ((i : Int) + 1)) none = some (.tup ((f.hs.drop (i + 1)).map Host.D)) := congrArg (fun l => some (D.tup l)) (by rw [show (i : Int) + 1 = ((i + 1 : Nat) : Int) by omega, cutL_drop, List.map_drop])
  have rp : ∀ h' : Host, (Nm h'.nm ∧ Nm h'.rk) → (h'.ms ≠ [] ∧ h'.ms.length ≤ 16) → h'.ms.Pairwise (· < ·) → (∀ m ∈ h'.ms, 0 ≤ m ∧ m < f.z) → (h'.nm = x.nm ∨ h'.nm ∉ nmsOf f.hs) → (∀ m ∈ h'.ms, m ∈ x.ms ∨ m ∉ TK) →
      ∃ hs, D.tup ((f.hs.take i ++ h' :: f.hs.drop (i + 1)).map Host.D) = crewD hs ∧ HsOk f.z 16 hs ∧ 1 ≤ hs.length ∧ hs.length ≤ 12 := fun h' q1 q2 q3 q4 q5 q6 => by
    refine ⟨_, rfl, hsok_repl (h := x) (spl ▸ H) q1 q2 q3 q4 (by rw [← spl]; exact q5) (by rw [← spl, hTK]; exact q6), ?_, ?_⟩
    · rw [List.length_append, List.length_cons]; omega
    · rw [List.length_append, List.length_cons]; omega
  have c1 : ∀ d : D, addD (.tup ((f.hs.take i).map Host.D)) (.tup [d]) = some (.tup ((f.hs.take i).map Host.D ++ [d])) := fun d => cat_tup (by rw [List.length_map]; simp; omega)
  have c2 : ∀ h' : Host, addD (.tup ((f.hs.take i).map Host.D ++ [.tup [.str h'.nm, .str h'.rk, .tup (h'.ms.map .int)]])) (.tup ((f.hs.drop (i + 1)).map Host.D)) = some (.tup ((f.hs.take i ++ h' :: f.hs.drop (i + 1)).map Host.D)) := fun h' => by
    rw [cat_tup (by rw [List.length_append, List.length_map, List.length_map]; simp; omega)]
    simp [Host.D]
  have zl : ("z" : Str).length = 1 := by decide +kernel
  have nzS : ∀ y : Str, Nm y → slD (.str y) none (some 7) = some (.str (cutS y none (some 7))) ∧ addD (.str (cutS y none (some 7))) (.str "z") = some (.str (Nz y)) := fun y hy => by
    have yl := nm_len hy
    have cl := cutS_length y none (some 7)
    refine ⟨if_pos (by rw [sizeLine_eq]; omega), ?_⟩
    have : (cutS y none (some 7)).length + ("z" : Str).length ≤ sizeLine := by rw [sizeLine_eq]; omega
    unfold addD
    exact if_pos this
  obtain ⟨nk1, nk2⟩ := nzS x.rk xr
  obtain ⟨nn1, nn2⟩ := nzS x.nm xn
  repeat fail
  refine br (fun _ => ?_) (fun _ => ?_)
  · have ca := cat_tup (a := (f.hs.drop i).map Host.D) (b := (f.hs.take i).map Host.D) (by rw [List.length_map, List.length_map, List.length_drop]; omega)
    rw [← List.map_append] at ca
    repeat fail
    refine ⟨by omega, _, rfl, hsok_perm ?_ H, ?_, ?_⟩
    · exact List.perm_append_comm.trans (by rw [List.take_append_drop])
    · rw [List.length_append, List.length_drop]; omega
    · rw [List.length_append, List.length_drop]; omega
  repeat fail
  refine br (fun _ => ?_) (fun _ => ?_)
  · repeat fail
    rw [← List.map_reverse]
    exact ⟨by omega, _, rfl, hsok_perm (List.reverse_perm _) H, by rw [List.length_reverse]; omega, by rw [List.length_reverse]; omega⟩
  repeat fail
  have xTK : ∀ m ∈ x.ms, m ∈ TK := fun m hm => by rw [← hTK]; exact List.mem_flatMap.mpr ⟨x, hxm, hm⟩
  have en := eq_nil_ints FR
  refine br (fun w2 => ?_) (fun w2 => ?_)
  · repeat fail
    rw [List.length_map]
    repeat fail
    refine br (fun q => ?_) (fun q => ?_)
    · have ca := cat_tup (a := (f.hs.take i).map Host.D) (b := (f.hs.drop (i + 1)).map Host.D) (by rw [List.length_map, List.length_map]; omega)
      rw [← List.map_append] at ca
      repeat fail
      refine ⟨by omega, _, rfl, hsok_sub ?_ H, ?_, ?_⟩
      · have : (f.hs.take i ++ f.hs.drop (i + 1)).Sublist (f.hs.take i ++ x :: f.hs.drop (i + 1)) := (List.Sublist.refl _).append (List.sublist_cons_self _ _)
        rwa [← spl] at this
      · rw [List.length_append]; omega
      · rw [List.length_append]; omega
    · repeat fail
      refine br (fun _ => ?_) (fun _ => ?_)
      · have ca := c1 (.tup [.str x.nm, .str (Nz x.rk), .tup (x.ms.map .int)])
        have cb := c2 ⟨x.nm, Nz x.rk, x.ms⟩
        have fin := rp ⟨x.nm, Nz x.rk, x.ms⟩ ⟨xn, nz_ok xr⟩ ⟨x1, x2⟩ xu xz (.inl rfl) (fun m hm => .inl hm)
        repeat fail
        exact ⟨by omega, fin⟩
      repeat fail
      refine br (fun w4 => ?_) (fun w4 => ?_)
      · repeat fail
        refine wp_lcM Host.D (fun h : Host => D.str h.nm) id f.hs (fun y hy => ?_) ?_
        · have i0 : idxD y.D (.int 0) = some (.str y.nm) := rfl
          repeat fail
        rw [List.map_id, show f.hs.map (fun h : Host => D.str h.nm) = (nmsOf f.hs).map .str by unfold nmsOf; rw [List.map_map]; rfl]
        have ln : (nmsOf f.hs).length = f.hs.length := by unfold nmsOf; rw [List.length_map]
        refine wp_sz (by rw [List.length_map]; omega) ?_
        repeat fail
        refine brN (fun q4 => ?_) (fun q4 => ?_)
        · have ca := c1 (.tup [.str (Nz x.nm), .str x.rk, .tup (x.ms.map .int)])
          have cb := c2 ⟨Nz x.nm, x.rk, x.ms⟩
          have fin := rp ⟨Nz x.nm, x.rk, x.ms⟩ ⟨nz_ok xn, xr⟩ ⟨x1, x2⟩ xu xz (.inr q4) (fun m hm => .inl hm)
          repeat fail
          exact ⟨by omega, fin⟩
        · repeat fail
          refine ⟨fun q1 => ?_, fun q1 => ?_⟩
          · have q1 := of_decide_eq_true q1
            subst q1
            repeat fail
            rw [List.length_map]
            refine br (fun q3 => ?_) (fun q3 => ?_)
            · have ls : slD (.tup (x.ms.map .int)) none (some (-1)) = some (.tup ((cutL x.ms none (some (-1))).map .int)) := congrArg (fun l => some (D.tup l)) (by unfold cutL; rw [List.length_map, ← List.map_drop, ← List.map_take])
              have cs : cutL x.ms none (some (-1)) = x.ms.take (x.ms.length - 1) := by
                unfold cutL
                have e1 : HT.sIx x.ms.length x.ms.length (some (-1)) = x.ms.length - 1 := by unfold HT.sIx; simp; omega
                have e2 : HT.sIx x.ms.length 0 none = 0 := by unfold HT.sIx; rfl
                rw [e1, e2]; simp
              rw [cs] at ls
              have ca := c1 (.tup [.str x.nm, .str x.rk, .tup ((x.ms.take (x.ms.length - 1)).map .int)])
              have cb := c2 ⟨x.nm, x.rk, x.ms.take (x.ms.length - 1)⟩
              have tll : (x.ms.take (x.ms.length - 1)).length = x.ms.length - 1 := by rw [List.length_take]; omega
              have fin := rp ⟨x.nm, x.rk, x.ms.take (x.ms.length - 1)⟩ ⟨xn, xr⟩ ⟨fun e => by have e : x.ms.take (x.ms.length - 1) = [] := e; rw [e] at tll; simp at tll; omega, by show (x.ms.take _).length ≤ 16; omega⟩ (xu.sublist (List.take_sublist _ _)) (fun m hm => xz m (List.mem_of_mem_take hm)) (.inl rfl) (fun m hm => .inl (List.mem_of_mem_take hm))
              generalize x.ms.take (x.ms.length - 1) = XT at *
              repeat fail
              exact ⟨by omega, fin⟩
            · have ca := c1 (.tup [.str x.nm, .str x.rk, .tup (x.ms.map .int)])
              have cb := c2 x
              have fin := rp x ⟨xn, xr⟩ ⟨x1, x2⟩ xu xz (.inl rfl) (fun m hm => .inl hm)
              repeat fail
              exact ⟨by omega, fin⟩
          · have q1 := of_decide_eq_false q1
            have en0 : FR ≠ [] := q1
            repeat fail
            rw [List.length_map]
            refine br (fun q2 => ?_) (fun q2 => ?_)
            · repeat fail
              rw [List.length_map]
              refine br (fun q3 => ?_) (fun q3 => ?_)
              · have ls : slD (.tup (x.ms.map .int)) none (some (-1)) = some (.tup ((cutL x.ms none (some (-1))).map .int)) := congrArg (fun l => some (D.tup l)) (by unfold cutL; rw [List.length_map, ← List.map_drop, ← List.map_take])
                have cs : cutL x.ms none (some (-1)) = x.ms.take (x.ms.length - 1) := by
                  unfold cutL
                  have e1 : HT.sIx x.ms.length x.ms.length (some (-1)) = x.ms.length - 1 := by unfold HT.sIx; simp; omega
                  have e2 : HT.sIx x.ms.length 0 none = 0 := by unfold HT.sIx; rfl
                  rw [e1, e2]; simp
                rw [cs] at ls
                have ca := c1 (.tup [.str x.nm, .str x.rk, .tup ((x.ms.take (x.ms.length - 1)).map .int)])
                have cb := c2 ⟨x.nm, x.rk, x.ms.take (x.ms.length - 1)⟩
                have tll : (x.ms.take (x.ms.length - 1)).length = x.ms.length - 1 := by rw [List.length_take]; omega
                have fin := rp ⟨x.nm, x.rk, x.ms.take (x.ms.length - 1)⟩ ⟨xn, xr⟩ ⟨fun e => by have e : x.ms.take (x.ms.length - 1) = [] := e; rw [e] at tll; simp at tll; omega, by show (x.ms.take _).length ≤ 16; omega⟩ (xu.sublist (List.take_sublist _ _)) (fun m hm => xz m (List.mem_of_mem_take hm)) (.inl rfl) (fun m hm => .inl (List.mem_of_mem_take hm))
                generalize x.ms.take (x.ms.length - 1) = XT at *
                repeat fail
                exact ⟨by omega, fin⟩
              · have ca := c1 (.tup [.str x.nm, .str x.rk, .tup (x.ms.map .int)])
                have cb := c2 x
                have fin := rp x ⟨xn, xr⟩ ⟨x1, x2⟩ xu xz (.inl rfl) (fun m hm => .inl hm)
                repeat fail
                exact ⟨by omega, fin⟩
            · obtain ⟨r0, rs, hFR⟩ : ∃ a r, FR = a :: r := by
                cases e : FR with
                | nil => exact absurd e en0
                | cons a r => exact ⟨a, r, rfl⟩
              have rA := fil r0 (by rw [hFR]; simp)
              have rj : idxD (.lst (FR.map .int)) (.int 0) = some (.int r0) := by
                rw [hFR]
                exact idxL_nat (ds := (r0 :: rs).map .int) (j := 0) rfl
              obtain ⟨rl, hrl, rj1⟩ : ∃ rl, rl ∈ FR ∧ idxD (.lst (FR.map .int)) (.int (-1)) = some (.int rl) := by
                have hl : FR.length - 1 < FR.length := by rw [hFR]; simp
                refine ⟨FR[FR.length - 1], List.getElem_mem hl, ?_⟩
                show atI _ _ = _
                unfold atI
                have ex : ixN (FR.map D.int).length (-1) = some (FR.length - 1) := by
                  unfold ixN
                  rw [List.length_map, if_neg (by omega), if_pos (by omega)]
                  congr 1
                  omega
                rw [ex, Option.bind_some, List.getElem?_map, List.getElem?_eq_getElem hl]; rfl
              have rB := fil rl hrl
              repeat fail
              refine br (fun _ => ?_) (fun _ => ?_)
              · have nd : (x.ms ++ [r0]).Nodup := by
                  rw [List.nodup_append]
                  exact ⟨List.nodup_iff_pairwise_ne.mpr (xu.imp fun q => Int.ne_of_lt q), by simp, fun a ha b hb e => by
                    rw [List.mem_singleton.mp hb] at e
                    subst e
                    exact rA.2 (xTK _ ha)⟩
                have s1' := sort_tup nd
                obtain ⟨sp1, sp2, _⟩ := sortI_ok nd
                have ct := cat_tup (a := x.ms.map D.int) (b := [.int r0]) (by rw [List.length_map]; simp; omega)
                rw [show x.ms.map D.int ++ [.int r0] = (x.ms ++ [r0]).map D.int by simp] at ct
                have tp : tupleD [.lst ((sortI (x.ms ++ [r0])).map .int)] = some (.tup ((sortI (x.ms ++ [r0])).map .int)) := rfl
                have ca := c1 (.tup [.str x.nm, .str x.rk, .tup ((sortI (x.ms ++ [r0])).map .int)])
                have cb := c2 ⟨x.nm, x.rk, sortI (x.ms ++ [r0])⟩
                have sl := sp1.length_eq
                simp only [List.length_append, List.length_singleton] at sl
                generalize hSO : sortI (x.ms ++ [r0]) = SO at *
                have fin := rp ⟨x.nm, x.rk, SO⟩ ⟨xn, xr⟩ ⟨fun e => by have e : SO = [] := e; rw [e] at sl; simp at sl, by show SO.length ≤ 16; omega⟩ sp2 (fun m hm => by
                  rcases List.mem_append.mp (sp1.mem_iff.mp hm) with q | q
                  · exact xz m q
                  · rw [List.mem_singleton.mp q]; exact rA.1) (.inl rfl) (fun m hm => by
                  rcases List.mem_append.mp (sp1.mem_iff.mp hm) with q | q
                  · exact .inl q
                  · rw [List.mem_singleton.mp q]; exact .inr rA.2)
                repeat fail
                exact ⟨by omega, fin⟩
              · have nd : (x.ms.drop 1 ++ [rl]).Nodup := by
                  rw [List.nodup_append]
                  exact ⟨(List.nodup_iff_pairwise_ne.mpr (xu.imp fun q => Int.ne_of_lt q)).sublist (List.drop_sublist _ _), by simp, fun a ha b hb e => by
                    rw [List.mem_singleton.mp hb] at e
                    subst e
                    exact rB.2 (xTK _ (List.mem_of_mem_drop ha))⟩
                have s1' := sort_tup nd
                obtain ⟨sp1, sp2, _⟩ := sortI_ok nd
                have dr : slD (.tup (x.ms.map .int)) (some 1) none = some (.tup ((x.ms.drop 1).map .int)) := congrArg (fun l => some (D.tup l)) (by rw [show (1 : Int) = ((1 : Nat) : Int) from rfl, cutL_drop, List.map_drop])
                have dl1 : (x.ms.drop 1).length = x.ms.length - 1 := List.length_drop
                have ct := cat_tup (a := (x.ms.drop 1).map D.int) (b := [.int rl]) (by rw [List.length_map]; simp; omega)
                rw [show (x.ms.drop 1).map D.int ++ [.int rl] = (x.ms.drop 1 ++ [rl]).map D.int by simp] at ct
                have tp : tupleD [.lst ((sortI (x.ms.drop 1 ++ [rl])).map .int)] = some (.tup ((sortI (x.ms.drop 1 ++ [rl])).map .int)) := rfl
                have ca := c1 (.tup [.str x.nm, .str x.rk, .tup ((sortI (x.ms.drop 1 ++ [rl])).map .int)])
                have cb := c2 ⟨x.nm, x.rk, sortI (x.ms.drop 1 ++ [rl])⟩
                have sl := sp1.length_eq
                simp only [List.length_append, List.length_singleton, dl1] at sl
                generalize hSO : sortI (x.ms.drop 1 ++ [rl]) = SO at *
                have fin := rp ⟨x.nm, x.rk, SO⟩ ⟨xn, xr⟩ ⟨fun e => by have e : SO = [] := e; rw [e] at sl; simp at sl, by show SO.length ≤ 16; omega⟩ sp2 (fun m hm => by
                  rcases List.mem_append.mp (sp1.mem_iff.mp hm) with q | q
                  · exact xz m (List.mem_of_mem_drop q)
                  · rw [List.mem_singleton.mp q]; exact rB.1) (.inl rfl) (fun m hm => by
                  rcases List.mem_append.mp (sp1.mem_iff.mp hm) with q | q
                  · exact .inl (List.mem_of_mem_drop q)
                  · rw [List.mem_singleton.mp q]; exact .inr rB.2)
                repeat fail
                exact ⟨by omega, fin⟩

      · repeat fail
        refine ⟨fun q1 => ?_, fun q1 => ?_⟩
        · have q1 := of_decide_eq_true q1
          subst q1
          repeat fail
          rw [List.length_map]
          refine br (fun q3 => ?_) (fun q3 => ?_)
          · have ls : slD (.tup (x.ms.map .int)) none (some (-1)) = some (.tup ((cutL x.ms none (some (-1))).map .int)) := congrArg (fun l => some (D.tup l)) (by unfold cutL; rw [List.length_map, ← List.map_drop, ← List.map_take])
            have cs : cutL x.ms none (some (-1)) = x.ms.take (x.ms.length - 1) := by
              unfold cutL
              have e1 : HT.sIx x.ms.length x.ms.length (some (-1)) = x.ms.length - 1 := by unfold HT.sIx; simp; omega
              have e2 : HT.sIx x.ms.length 0 none = 0 := by unfold HT.sIx; rfl
              rw [e1, e2]; simp
            rw [cs] at ls
            have ca := c1 (.tup [.str x.nm, .str x.rk, .tup ((x.ms.take (x.ms.length - 1)).map .int)])
            have cb := c2 ⟨x.nm, x.rk, x.ms.take (x.ms.length - 1)⟩
            have tll : (x.ms.take (x.ms.length - 1)).length = x.ms.length - 1 := by rw [List.length_take]; omega
            have fin := rp ⟨x.nm, x.rk, x.ms.take (x.ms.length - 1)⟩ ⟨xn, xr⟩ ⟨fun e => by have e : x.ms.take (x.ms.length - 1) = [] := e; rw [e] at tll; simp at tll; omega, by show (x.ms.take _).length ≤ 16; omega⟩ (xu.sublist (List.take_sublist _ _)) (fun m hm => xz m (List.mem_of_mem_take hm)) (.inl rfl) (fun m hm => .inl (List.mem_of_mem_take hm))
            generalize x.ms.take (x.ms.length - 1) = XT at *
            repeat fail
            exact ⟨by omega, fin⟩
          · have ca := c1 (.tup [.str x.nm, .str x.rk, .tup (x.ms.map .int)])
            have cb := c2 x
            have fin := rp x ⟨xn, xr⟩ ⟨x1, x2⟩ xu xz (.inl rfl) (fun m hm => .inl hm)
            repeat fail
            exact ⟨by omega, fin⟩
        · have q1 := of_decide_eq_false q1
          have en0 : FR ≠ [] := q1
          repeat fail
          rw [List.length_map]
          refine br (fun q2 => ?_) (fun q2 => ?_)
          · repeat fail
            rw [List.length_map]
            refine br (fun q3 => ?_) (fun q3 => ?_)
            · have ls : slD (.tup (x.ms.map .int)) none (some (-1)) = some (.tup ((cutL x.ms none (some (-1))).map .int)) := congrArg (fun l => some (D.tup l)) (by unfold cutL; rw [List.length_map, ← List.map_drop, ← List.map_take])
              have cs : cutL x.ms none (some (-1)) = x.ms.take (x.ms.length - 1) := by
                unfold cutL
                have e1 : HT.sIx x.ms.length x.ms.length (some (-1)) = x.ms.length - 1 := by unfold HT.sIx; simp; omega
                have e2 : HT.sIx x.ms.length 0 none = 0 := by unfold HT.sIx; rfl
                rw [e1, e2]; simp
              rw [cs] at ls
              have ca := c1 (.tup [.str x.nm, .str x.rk, .tup ((x.ms.take (x.ms.length - 1)).map .int)])
              have cb := c2 ⟨x.nm, x.rk, x.ms.take (x.ms.length - 1)⟩
              have tll : (x.ms.take (x.ms.length - 1)).length = x.ms.length - 1 := by rw [List.length_take]; omega
              have fin := rp ⟨x.nm, x.rk, x.ms.take (x.ms.length - 1)⟩ ⟨xn, xr⟩ ⟨fun e => by have e : x.ms.take (x.ms.length - 1) = [] := e; rw [e] at tll; simp at tll; omega, by show (x.ms.take _).length ≤ 16; omega⟩ (xu.sublist (List.take_sublist _ _)) (fun m hm => xz m (List.mem_of_mem_take hm)) (.inl rfl) (fun m hm => .inl (List.mem_of_mem_take hm))
              generalize x.ms.take (x.ms.length - 1) = XT at *
              repeat fail
              exact ⟨by omega, fin⟩
            · have ca := c1 (.tup [.str x.nm, .str x.rk, .tup (x.ms.map .int)])
              have cb := c2 x
              have fin := rp x ⟨xn, xr⟩ ⟨x1, x2⟩ xu xz (.inl rfl) (fun m hm => .inl hm)
              repeat fail
              exact ⟨by omega, fin⟩
          · obtain ⟨r0, rs, hFR⟩ : ∃ a r, FR = a :: r := by
              cases e : FR with
              | nil => exact absurd e en0
              | cons a r => exact ⟨a, r, rfl⟩
            have rA := fil r0 (by rw [hFR]; simp)
            have rj : idxD (.lst (FR.map .int)) (.int 0) = some (.int r0) := by
              rw [hFR]
              exact idxL_nat (ds := (r0 :: rs).map .int) (j := 0) rfl
            obtain ⟨rl, hrl, rj1⟩ : ∃ rl, rl ∈ FR ∧ idxD (.lst (FR.map .int)) (.int (-1)) = some (.int rl) := by
              have hl : FR.length - 1 < FR.length := by rw [hFR]; simp
              refine ⟨FR[FR.length - 1], List.getElem_mem hl, ?_⟩
              show atI _ _ = _
              unfold atI
              have ex : ixN (FR.map D.int).length (-1) = some (FR.length - 1) := by
                unfold ixN
                rw [List.length_map, if_neg (by omega), if_pos (by omega)]
                congr 1
                omega
              rw [ex, Option.bind_some, List.getElem?_map, List.getElem?_eq_getElem hl]; rfl
            have rB := fil rl hrl
            repeat fail
            refine br (fun _ => ?_) (fun _ => ?_)
            · have nd : (x.ms ++ [r0]).Nodup := by
                rw [List.nodup_append]
                exact ⟨List.nodup_iff_pairwise_ne.mpr (xu.imp fun q => Int.ne_of_lt q), by simp, fun a ha b hb e => by
                  rw [List.mem_singleton.mp hb] at e
                  subst e
                  exact rA.2 (xTK _ ha)⟩
              have s1' := sort_tup nd
              obtain ⟨sp1, sp2, _⟩ := sortI_ok nd
              have ct := cat_tup (a := x.ms.map D.int) (b := [.int r0]) (by rw [List.length_map]; simp; omega)
              rw [show x.ms.map D.int ++ [.int r0] = (x.ms ++ [r0]).map D.int by simp] at ct
              have tp : tupleD [.lst ((sortI (x.ms ++ [r0])).map .int)] = some (.tup ((sortI (x.ms ++ [r0])).map .int)) := rfl
              have ca := c1 (.tup [.str x.nm, .str x.rk, .tup ((sortI (x.ms ++ [r0])).map .int)])
              have cb := c2 ⟨x.nm, x.rk, sortI (x.ms ++ [r0])⟩
              have sl := sp1.length_eq
              simp only [List.length_append, List.length_singleton] at sl
              generalize hSO : sortI (x.ms ++ [r0]) = SO at *
              have fin := rp ⟨x.nm, x.rk, SO⟩ ⟨xn, xr⟩ ⟨fun e => by have e : SO = [] := e; rw [e] at sl; simp at sl, by show SO.length ≤ 16; omega⟩ sp2 (fun m hm => by
                rcases List.mem_append.mp (sp1.mem_iff.mp hm) with q | q
                · exact xz m q
                · rw [List.mem_singleton.mp q]; exact rA.1) (.inl rfl) (fun m hm => by
                rcases List.mem_append.mp (sp1.mem_iff.mp hm) with q | q
                · exact .inl q
                · rw [List.mem_singleton.mp q]; exact .inr rA.2)
              repeat fail
              exact ⟨by omega, fin⟩
            · have nd : (x.ms.drop 1 ++ [rl]).Nodup := by
                rw [List.nodup_append]
                exact ⟨(List.nodup_iff_pairwise_ne.mpr (xu.imp fun q => Int.ne_of_lt q)).sublist (List.drop_sublist _ _), by simp, fun a ha b hb e => by
                  rw [List.mem_singleton.mp hb] at e
                  subst e
                  exact rB.2 (xTK _ (List.mem_of_mem_drop ha))⟩
              have s1' := sort_tup nd
              obtain ⟨sp1, sp2, _⟩ := sortI_ok nd
              have dr : slD (.tup (x.ms.map .int)) (some 1) none = some (.tup ((x.ms.drop 1).map .int)) := congrArg (fun l => some (D.tup l)) (by rw [show (1 : Int) = ((1 : Nat) : Int) from rfl, cutL_drop, List.map_drop])
              have dl1 : (x.ms.drop 1).length = x.ms.length - 1 := List.length_drop
              have ct := cat_tup (a := (x.ms.drop 1).map D.int) (b := [.int rl]) (by rw [List.length_map]; simp; omega)
              rw [show (x.ms.drop 1).map D.int ++ [.int rl] = (x.ms.drop 1 ++ [rl]).map D.int by simp] at ct
              have tp : tupleD [.lst ((sortI (x.ms.drop 1 ++ [rl])).map .int)] = some (.tup ((sortI (x.ms.drop 1 ++ [rl])).map .int)) := rfl
              have ca := c1 (.tup [.str x.nm, .str x.rk, .tup ((sortI (x.ms.drop 1 ++ [rl])).map .int)])
              have cb := c2 ⟨x.nm, x.rk, sortI (x.ms.drop 1 ++ [rl])⟩
              have sl := sp1.length_eq
              simp only [List.length_append, List.length_singleton, dl1] at sl
              generalize hSO : sortI (x.ms.drop 1 ++ [rl]) = SO at *
              have fin := rp ⟨x.nm, x.rk, SO⟩ ⟨xn, xr⟩ ⟨fun e => by have e : SO = [] := e; rw [e] at sl; simp at sl, by show SO.length ≤ 16; omega⟩ sp2 (fun m hm => by
                rcases List.mem_append.mp (sp1.mem_iff.mp hm) with q | q
                · exact xz m (List.mem_of_mem_drop q)
                · rw [List.mem_singleton.mp q]; exact rB.1) (.inl rfl) (fun m hm => by
                rcases List.mem_append.mp (sp1.mem_iff.mp hm) with q | q
                · exact .inl (List.mem_of_mem_drop q)
                · rw [List.mem_singleton.mp q]; exact .inr rB.2)
              repeat fail
              exact ⟨by omega, fin⟩


  · repeat fail
    refine br (fun _ => ?_) (fun _ => ?_)
    · have ca := c1 (.tup [.str x.nm, .str (Nz x.rk), .tup (x.ms.map .int)])
      have cb := c2 ⟨x.nm, Nz x.rk, x.ms⟩
      have fin := rp ⟨x.nm, Nz x.rk, x.ms⟩ ⟨xn, nz_ok xr⟩ ⟨x1, x2⟩ xu xz (.inl rfl) (fun m hm => .inl hm)
      repeat fail
      exact ⟨by omega, fin⟩
    repeat fail
    refine br (fun w4 => ?_) (fun w4 => ?_)
    · repeat fail
      refine wp_lcM Host.D (fun h : Host => D.str h.nm) id f.hs (fun y hy => ?_) ?_
      · have i0 : idxD y.D (.int 0) = some (.str y.nm) := rfl
        repeat fail
      rw [List.map_id, show f.hs.map (fun h : Host => D.str h.nm) = (nmsOf f.hs).map .str by unfold nmsOf; rw [List.map_map]; rfl]
      have ln : (nmsOf f.hs).length = f.hs.length := by unfold nmsOf; rw [List.length_map]
      refine wp_sz (by rw [List.length_map]; omega) ?_
      repeat fail
      refine brN (fun q4 => ?_) (fun q4 => ?_)
      · have ca := c1 (.tup [.str (Nz x.nm), .str x.rk, .tup (x.ms.map .int)])
        have cb := c2 ⟨Nz x.nm, x.rk, x.ms⟩
        have fin := rp ⟨Nz x.nm, x.rk, x.ms⟩ ⟨nz_ok xn, xr⟩ ⟨x1, x2⟩ xu xz (.inr q4) (fun m hm => .inl hm)
        repeat fail
        exact ⟨by omega, fin⟩
      · repeat fail
        refine ⟨fun q1 => ?_, fun q1 => ?_⟩
        · have q1 := of_decide_eq_true q1
          subst q1
          repeat fail
          rw [List.length_map]
          refine br (fun q3 => ?_) (fun q3 => ?_)
          · have ls : slD (.tup (x.ms.map .int)) none (some (-1)) = some (.tup ((cutL x.ms none (some (-1))).map .int)) := congrArg (fun l => some (D.tup l)) (by unfold cutL; rw [List.length_map, ← List.map_drop, ← List.map_take])
            have cs : cutL x.ms none (some (-1)) = x.ms.take (x.ms.length - 1) := by
              unfold cutL
              have e1 : HT.sIx x.ms.length x.ms.length (some (-1)) = x.ms.length - 1 := by unfold HT.sIx; simp; omega
              have e2 : HT.sIx x.ms.length 0 none = 0 := by unfold HT.sIx; rfl
              rw [e1, e2]; simp
            rw [cs] at ls
            have ca := c1 (.tup [.str x.nm, .str x.rk, .tup ((x.ms.take (x.ms.length - 1)).map .int)])
            have cb := c2 ⟨x.nm, x.rk, x.ms.take (x.ms.length - 1)⟩
            have tll : (x.ms.take (x.ms.length - 1)).length = x.ms.length - 1 := by rw [List.length_take]; omega
            have fin := rp ⟨x.nm, x.rk, x.ms.take (x.ms.length - 1)⟩ ⟨xn, xr⟩ ⟨fun e => by have e : x.ms.take (x.ms.length - 1) = [] := e; rw [e] at tll; simp at tll; omega, by show (x.ms.take _).length ≤ 16; omega⟩ (xu.sublist (List.take_sublist _ _)) (fun m hm => xz m (List.mem_of_mem_take hm)) (.inl rfl) (fun m hm => .inl (List.mem_of_mem_take hm))
            generalize x.ms.take (x.ms.length - 1) = XT at *
            repeat fail
            exact ⟨by omega, fin⟩
          · have ca := c1 (.tup [.str x.nm, .str x.rk, .tup (x.ms.map .int)])
            have cb := c2 x
            have fin := rp x ⟨xn, xr⟩ ⟨x1, x2⟩ xu xz (.inl rfl) (fun m hm => .inl hm)
            repeat fail
            exact ⟨by omega, fin⟩
        · have q1 := of_decide_eq_false q1
          have en0 : FR ≠ [] := q1
          repeat fail
          rw [List.length_map]
          refine br (fun q2 => ?_) (fun q2 => ?_)
          · repeat fail
            rw [List.length_map]
            refine br (fun q3 => ?_) (fun q3 => ?_)
            · have ls : slD (.tup (x.ms.map .int)) none (some (-1)) = some (.tup ((cutL x.ms none (some (-1))).map .int)) := congrArg (fun l => some (D.tup l)) (by unfold cutL; rw [List.length_map, ← List.map_drop, ← List.map_take])
              have cs : cutL x.ms none (some (-1)) = x.ms.take (x.ms.length - 1) := by
                unfold cutL
                have e1 : HT.sIx x.ms.length x.ms.length (some (-1)) = x.ms.length - 1 := by unfold HT.sIx; simp; omega
                have e2 : HT.sIx x.ms.length 0 none = 0 := by unfold HT.sIx; rfl
                rw [e1, e2]; simp
              rw [cs] at ls
              have ca := c1 (.tup [.str x.nm, .str x.rk, .tup ((x.ms.take (x.ms.length - 1)).map .int)])
              have cb := c2 ⟨x.nm, x.rk, x.ms.take (x.ms.length - 1)⟩
              have tll : (x.ms.take (x.ms.length - 1)).length = x.ms.length - 1 := by rw [List.length_take]; omega
              have fin := rp ⟨x.nm, x.rk, x.ms.take (x.ms.length - 1)⟩ ⟨xn, xr⟩ ⟨fun e => by have e : x.ms.take (x.ms.length - 1) = [] := e; rw [e] at tll; simp at tll; omega, by show (x.ms.take _).length ≤ 16; omega⟩ (xu.sublist (List.take_sublist _ _)) (fun m hm => xz m (List.mem_of_mem_take hm)) (.inl rfl) (fun m hm => .inl (List.mem_of_mem_take hm))
              generalize x.ms.take (x.ms.length - 1) = XT at *
              repeat fail
              exact ⟨by omega, fin⟩
            · have ca := c1 (.tup [.str x.nm, .str x.rk, .tup (x.ms.map .int)])
              have cb := c2 x
              have fin := rp x ⟨xn, xr⟩ ⟨x1, x2⟩ xu xz (.inl rfl) (fun m hm => .inl hm)
              repeat fail
              exact ⟨by omega, fin⟩
          · obtain ⟨r0, rs, hFR⟩ : ∃ a r, FR = a :: r := by
              cases e : FR with
              | nil => exact absurd e en0
              | cons a r => exact ⟨a, r, rfl⟩
            have rA := fil r0 (by rw [hFR]; simp)
            have rj : idxD (.lst (FR.map .int)) (.int 0) = some (.int r0) := by
              rw [hFR]
              exact idxL_nat (ds := (r0 :: rs).map .int) (j := 0) rfl
            obtain ⟨rl, hrl, rj1⟩ : ∃ rl, rl ∈ FR ∧ idxD (.lst (FR.map .int)) (.int (-1)) = some (.int rl) := by
              have hl : FR.length - 1 < FR.length := by rw [hFR]; simp
              refine ⟨FR[FR.length - 1], List.getElem_mem hl, ?_⟩
              show atI _ _ = _
              unfold atI
              have ex : ixN (FR.map D.int).length (-1) = some (FR.length - 1) := by
                unfold ixN
                rw [List.length_map, if_neg (by omega), if_pos (by omega)]
                congr 1
                omega
              rw [ex, Option.bind_some, List.getElem?_map, List.getElem?_eq_getElem hl]; rfl
            have rB := fil rl hrl
            repeat fail
            refine br (fun _ => ?_) (fun _ => ?_)
            · have nd : (x.ms ++ [r0]).Nodup := by
                rw [List.nodup_append]
                exact ⟨List.nodup_iff_pairwise_ne.mpr (xu.imp fun q => Int.ne_of_lt q), by simp, fun a ha b hb e => by
                  rw [List.mem_singleton.mp hb] at e
                  subst e
                  exact rA.2 (xTK _ ha)⟩
              have s1' := sort_tup nd
              obtain ⟨sp1, sp2, _⟩ := sortI_ok nd
              have ct := cat_tup (a := x.ms.map D.int) (b := [.int r0]) (by rw [List.length_map]; simp; omega)
              rw [show x.ms.map D.int ++ [.int r0] = (x.ms ++ [r0]).map D.int by simp] at ct
              have tp : tupleD [.lst ((sortI (x.ms ++ [r0])).map .int)] = some (.tup ((sortI (x.ms ++ [r0])).map .int)) := rfl
              have ca := c1 (.tup [.str x.nm, .str x.rk, .tup ((sortI (x.ms ++ [r0])).map .int)])
              have cb := c2 ⟨x.nm, x.rk, sortI (x.ms ++ [r0])⟩
              have sl := sp1.length_eq
              simp only [List.length_append, List.length_singleton] at sl
              generalize hSO : sortI (x.ms ++ [r0]) = SO at *
              have fin := rp ⟨x.nm, x.rk, SO⟩ ⟨xn, xr⟩ ⟨fun e => by have e : SO = [] := e; rw [e] at sl; simp at sl, by show SO.length ≤ 16; omega⟩ sp2 (fun m hm => by
                rcases List.mem_append.mp (sp1.mem_iff.mp hm) with q | q
                · exact xz m q
                · rw [List.mem_singleton.mp q]; exact rA.1) (.inl rfl) (fun m hm => by
                rcases List.mem_append.mp (sp1.mem_iff.mp hm) with q | q
                · exact .inl q
                · rw [List.mem_singleton.mp q]; exact .inr rA.2)
              repeat fail
              exact ⟨by omega, fin⟩
            · have nd : (x.ms.drop 1 ++ [rl]).Nodup := by
                rw [List.nodup_append]
                exact ⟨(List.nodup_iff_pairwise_ne.mpr (xu.imp fun q => Int.ne_of_lt q)).sublist (List.drop_sublist _ _), by simp, fun a ha b hb e => by
                  rw [List.mem_singleton.mp hb] at e
                  subst e
                  exact rB.2 (xTK _ (List.mem_of_mem_drop ha))⟩
              have s1' := sort_tup nd
              obtain ⟨sp1, sp2, _⟩ := sortI_ok nd
              have dr : slD (.tup (x.ms.map .int)) (some 1) none = some (.tup ((x.ms.drop 1).map .int)) := congrArg (fun l => some (D.tup l)) (by rw [show (1 : Int) = ((1 : Nat) : Int) from rfl, cutL_drop, List.map_drop])
              have dl1 : (x.ms.drop 1).length = x.ms.length - 1 := List.length_drop
              have ct := cat_tup (a := (x.ms.drop 1).map D.int) (b := [.int rl]) (by rw [List.length_map]; simp; omega)
              rw [show (x.ms.drop 1).map D.int ++ [.int rl] = (x.ms.drop 1 ++ [rl]).map D.int by simp] at ct
              have tp : tupleD [.lst ((sortI (x.ms.drop 1 ++ [rl])).map .int)] = some (.tup ((sortI (x.ms.drop 1 ++ [rl])).map .int)) := rfl
              have ca := c1 (.tup [.str x.nm, .str x.rk, .tup ((sortI (x.ms.drop 1 ++ [rl])).map .int)])
              have cb := c2 ⟨x.nm, x.rk, sortI (x.ms.drop 1 ++ [rl])⟩
              have sl := sp1.length_eq
              simp only [List.length_append, List.length_singleton, dl1] at sl
              generalize hSO : sortI (x.ms.drop 1 ++ [rl]) = SO at *
              have fin := rp ⟨x.nm, x.rk, SO⟩ ⟨xn, xr⟩ ⟨fun e => by have e : SO = [] := e; rw [e] at sl; simp at sl, by show SO.length ≤ 16; omega⟩ sp2 (fun m hm => by
                rcases List.mem_append.mp (sp1.mem_iff.mp hm) with q | q
                · exact xz m (List.mem_of_mem_drop q)
                · rw [List.mem_singleton.mp q]; exact rB.1) (.inl rfl) (fun m hm => by
                rcases List.mem_append.mp (sp1.mem_iff.mp hm) with q | q
                · exact .inl (List.mem_of_mem_drop q)
                · rw [List.mem_singleton.mp q]; exact .inr rB.2)
              repeat fail
              exact ⟨by omega, fin⟩

    · repeat fail
      refine ⟨fun q1 => ?_, fun q1 => ?_⟩
      · have q1 := of_decide_eq_true q1
        subst q1
        repeat fail
        rw [List.length_map]
        refine br (fun q3 => ?_) (fun q3 => ?_)
        · have ls : slD (.tup (x.ms.map .int)) none (some (-1)) = some (.tup ((cutL x.ms none (some (-1))).map .int)) := congrArg (fun l => some (D.tup l)) (by unfold cutL; rw [List.length_map, ← List.map_drop, ← List.map_take])
          have cs : cutL x.ms none (some (-1)) = x.ms.take (x.ms.length - 1) := by
            unfold cutL
            have e1 : HT.sIx x.ms.length x.ms.length (some (-1)) = x.ms.length - 1 := by unfold HT.sIx; simp; omega
            have e2 : HT.sIx x.ms.length 0 none = 0 := by unfold HT.sIx; rfl
            rw [e1, e2]; simp
          rw [cs] at ls
          have ca := c1 (.tup [.str x.nm, .str x.rk, .tup ((x.ms.take (x.ms.length - 1)).map .int)])
          have cb := c2 ⟨x.nm, x.rk, x.ms.take (x.ms.length - 1)⟩
          have tll : (x.ms.take (x.ms.length - 1)).length = x.ms.length - 1 := by rw [List.length_take]; omega
          have fin := rp ⟨x.nm, x.rk, x.ms.take (x.ms.length - 1)⟩ ⟨xn, xr⟩ ⟨fun e => by have e : x.ms.take (x.ms.length - 1) = [] := e; rw [e] at tll; simp at tll; omega, by show (x.ms.take _).length ≤ 16; omega⟩ (xu.sublist (List.take_sublist _ _)) (fun m hm => xz m (List.mem_of_mem_take hm)) (.inl rfl) (fun m hm => .inl (List.mem_of_mem_take hm))
          generalize x.ms.take (x.ms.length - 1) = XT at *
          repeat fail
          exact ⟨by omega, fin⟩
        · have ca := c1 (.tup [.str x.nm, .str x.rk, .tup (x.ms.map .int)])
          have cb := c2 x
          have fin := rp x ⟨xn, xr⟩ ⟨x1, x2⟩ xu xz (.inl rfl) (fun m hm => .inl hm)
          repeat fail
          exact ⟨by omega, fin⟩
      · have q1 := of_decide_eq_false q1
        have en0 : FR ≠ [] := q1
        repeat fail
        rw [List.length_map]
        refine br (fun q2 => ?_) (fun q2 => ?_)
        · repeat fail
          rw [List.length_map]
          refine br (fun q3 => ?_) (fun q3 => ?_)
          · have ls : slD (.tup (x.ms.map .int)) none (some (-1)) = some (.tup ((cutL x.ms none (some (-1))).map .int)) := congrArg (fun l => some (D.tup l)) (by unfold cutL; rw [List.length_map, ← List.map_drop, ← List.map_take])
            have cs : cutL x.ms none (some (-1)) = x.ms.take (x.ms.length - 1) := by
              unfold cutL
              have e1 : HT.sIx x.ms.length x.ms.length (some (-1)) = x.ms.length - 1 := by unfold HT.sIx; simp; omega
              have e2 : HT.sIx x.ms.length 0 none = 0 := by unfold HT.sIx; rfl
              rw [e1, e2]; simp
            rw [cs] at ls
            have ca := c1 (.tup [.str x.nm, .str x.rk, .tup ((x.ms.take (x.ms.length - 1)).map .int)])
            have cb := c2 ⟨x.nm, x.rk, x.ms.take (x.ms.length - 1)⟩
            have tll : (x.ms.take (x.ms.length - 1)).length = x.ms.length - 1 := by rw [List.length_take]; omega
            have fin := rp ⟨x.nm, x.rk, x.ms.take (x.ms.length - 1)⟩ ⟨xn, xr⟩ ⟨fun e => by have e : x.ms.take (x.ms.length - 1) = [] := e; rw [e] at tll; simp at tll; omega, by show (x.ms.take _).length ≤ 16; omega⟩ (xu.sublist (List.take_sublist _ _)) (fun m hm => xz m (List.mem_of_mem_take hm)) (.inl rfl) (fun m hm => .inl (List.mem_of_mem_take hm))
            generalize x.ms.take (x.ms.length - 1) = XT at *
            repeat fail
            exact ⟨by omega, fin⟩
          · have ca := c1 (.tup [.str x.nm, .str x.rk, .tup (x.ms.map .int)])
            have cb := c2 x
            have fin := rp x ⟨xn, xr⟩ ⟨x1, x2⟩ xu xz (.inl rfl) (fun m hm => .inl hm)
            repeat fail
            exact ⟨by omega, fin⟩
        · obtain ⟨r0, rs, hFR⟩ : ∃ a r, FR = a :: r := by
            cases e : FR with
            | nil => exact absurd e en0
            | cons a r => exact ⟨a, r, rfl⟩
          have rA := fil r0 (by rw [hFR]; simp)
          have rj : idxD (.lst (FR.map .int)) (.int 0) = some (.int r0) := by
            rw [hFR]
            exact idxL_nat (ds := (r0 :: rs).map .int) (j := 0) rfl
          obtain ⟨rl, hrl, rj1⟩ : ∃ rl, rl ∈ FR ∧ idxD (.lst (FR.map .int)) (.int (-1)) = some (.int rl) := by
            have hl : FR.length - 1 < FR.length := by rw [hFR]; simp
            refine ⟨FR[FR.length - 1], List.getElem_mem hl, ?_⟩
            show atI _ _ = _
            unfold atI
            have ex : ixN (FR.map D.int).length (-1) = some (FR.length - 1) := by
              unfold ixN
              rw [List.length_map, if_neg (by omega), if_pos (by omega)]
              congr 1
              omega
            rw [ex, Option.bind_some, List.getElem?_map, List.getElem?_eq_getElem hl]; rfl
          have rB := fil rl hrl
          repeat fail
          refine br (fun _ => ?_) (fun _ => ?_)
          · have nd : (x.ms ++ [r0]).Nodup := by
              rw [List.nodup_append]
              exact ⟨List.nodup_iff_pairwise_ne.mpr (xu.imp fun q => Int.ne_of_lt q), by simp, fun a ha b hb e => by
                rw [List.mem_singleton.mp hb] at e
                subst e
                exact rA.2 (xTK _ ha)⟩
            have s1' := sort_tup nd
            obtain ⟨sp1, sp2, _⟩ := sortI_ok nd
            have ct := cat_tup (a := x.ms.map D.int) (b := [.int r0]) (by rw [List.length_map]; simp; omega)
            rw [show x.ms.map D.int ++ [.int r0] = (x.ms ++ [r0]).map D.int by simp] at ct
            have tp : tupleD [.lst ((sortI (x.ms ++ [r0])).map .int)] = some (.tup ((sortI (x.ms ++ [r0])).map .int)) := rfl
            have ca := c1 (.tup [.str x.nm, .str x.rk, .tup ((sortI (x.ms ++ [r0])).map .int)])
            have cb := c2 ⟨x.nm, x.rk, sortI (x.ms ++ [r0])⟩
            have sl := sp1.length_eq
            simp only [List.length_append, List.length_singleton] at sl
            generalize hSO : sortI (x.ms ++ [r0]) = SO at *
            have fin := rp ⟨x.nm, x.rk, SO⟩ ⟨xn, xr⟩ ⟨fun e => by have e : SO = [] := e; rw [e] at sl; simp at sl, by show SO.length ≤ 16; omega⟩ sp2 (fun m hm => by
              rcases List.mem_append.mp (sp1.mem_iff.mp hm) with q | q
              · exact xz m q
              · rw [List.mem_singleton.mp q]; exact rA.1) (.inl rfl) (fun m hm => by
              rcases List.mem_append.mp (sp1.mem_iff.mp hm) with q | q
              · exact .inl q
              · rw [List.mem_singleton.mp q]; exact .inr rA.2)
            repeat fail
            exact ⟨by omega, fin⟩
          · have nd : (x.ms.drop 1 ++ [rl]).Nodup := by
              rw [List.nodup_append]
              exact ⟨(List.nodup_iff_pairwise_ne.mpr (xu.imp fun q => Int.ne_of_lt q)).sublist (List.drop_sublist _ _), by simp, fun a ha b hb e => by
                rw [List.mem_singleton.mp hb] at e
                subst e
                exact rB.2 (xTK _ (List.mem_of_mem_drop ha))⟩
            have s1' := sort_tup nd
            obtain ⟨sp1, sp2, _⟩ := sortI_ok nd
            have dr : slD (.tup (x.ms.map .int)) (some 1) none = some (.tup ((x.ms.drop 1).map .int)) := congrArg (fun l => some (D.tup l)) (by rw [show (1 : Int) = ((1 : Nat) : Int) from rfl, cutL_drop, List.map_drop])
            have dl1 : (x.ms.drop 1).length = x.ms.length - 1 := List.length_drop
            have ct := cat_tup (a := (x.ms.drop 1).map D.int) (b := [.int rl]) (by rw [List.length_map]; simp; omega)
            rw [show (x.ms.drop 1).map D.int ++ [.int rl] = (x.ms.drop 1 ++ [rl]).map D.int by simp] at ct
            have tp : tupleD [.lst ((sortI (x.ms.drop 1 ++ [rl])).map .int)] = some (.tup ((sortI (x.ms.drop 1 ++ [rl])).map .int)) := rfl
            have ca := c1 (.tup [.str x.nm, .str x.rk, .tup ((sortI (x.ms.drop 1 ++ [rl])).map .int)])
            have cb := c2 ⟨x.nm, x.rk, sortI (x.ms.drop 1 ++ [rl])⟩
            have sl := sp1.length_eq
            simp only [List.length_append, List.length_singleton, dl1] at sl
            generalize hSO : sortI (x.ms.drop 1 ++ [rl]) = SO at *
            have fin := rp ⟨x.nm, x.rk, SO⟩ ⟨xn, xr⟩ ⟨fun e => by have e : SO = [] := e; rw [e] at sl; simp at sl, by show SO.length ≤ 16; omega⟩ sp2 (fun m hm => by
              rcases List.mem_append.mp (sp1.mem_iff.mp hm) with q | q
              · exact xz m (List.mem_of_mem_drop q)
              · rw [List.mem_singleton.mp q]; exact rB.1) (.inl rfl) (fun m hm => by
              rcases List.mem_append.mp (sp1.mem_iff.mp hm) with q | q
              · exact .inl (List.mem_of_mem_drop q)
              · rw [List.mem_singleton.mp q]; exact .inr rB.2)
            repeat fail
            exact ⟨by omega, fin⟩


end K08
end Z

namespace Z
namespace K08
open PySem PySem.Spec PyProof.Rows L2
open C
theorem hsok_wide {z z' : Int} {k : Nat} {hs : List Host} (H : HsOk z k hs) (h : z ≤ z') : HsOk z' k hs := ⟨H.nd, H.nm, H.ne, H.up, fun h' hh m hm => by have := H.inz h' hh m hm; omega, H.apart⟩
theorem catl {a b : List D} (h : a.length + b.length ≤ 1000) : addAll (.lst a) (.lst b) = some (.lst (a ++ b)) := cat_lst h
theorem min2_is {i j : Int} : ∃ m, min2D [.int i, .int j] = some (.int m) ∧ (m = i ∨ m = j) ∧ m ≤ i ∧ m ≤ j := by
  unfold min2D
  dsimp only
  split
  · exact ⟨_, rfl, .inr rfl, by omega, by omega⟩
  · exact ⟨_, rfl, .inl rfl, by omega, by omega⟩
theorem other_ok {s : S} {n B : Nat} {f : C.Frame} (h : KG s n B) (hB : B + 30000 < 2 ^ 40) (F : FrOk 12 16 f) : Dr u__law_other [.cel n, f.D] s n B 2100 fun r => ∃ g, r = g.D ∧ FrOk 12 16 g := by
  refine Dr.of ?_
  have z0 := F.z0; have z1 := F.z1; have w0 := F.w0; have w1 := F.w1; have a0 := F.a0; have a1 := F.a1; have b0 := F.b0; have b1 := F.b1; have fx := F.x; have fy := F.y; have h0 := F.h0; have h1 := F.h1
  have H := F.hs
  obtain ⟨z, w, x, a, b, y, hs⟩ := f
  dsimp only at *
  have wl : w.natAbs.log2 < 9000 := by
    have := (Nat.log2_lt (n := w.natAbs) (k := 3) (by omega)).mpr (by omega)
    omega
  have co := fun (s : S) (B : Nat) (h : KG s n B) (hB : B + 100 < 2 ^ 40) => crew_ok h hB F
  unfold u__law_other
  refine wp_mkD rfl ?_
  unfold C.Frame.D
  dsimp only at *
  generalize hC : crewD hs = CC at *
  repeat fail
  refine (dip_ok (m := 12) h (by omega) (by omega) (by omega)).on fun r s1 ⟨k, hr, k0, k1⟩ K1 l1 => ?_
  subst hr
  repeat fail
  have pw : powD (.int 10) (.int 18) = some (.int 1000000000000000000) := by
    unfold powD
    exact if_pos (by decide)
  have mk : ∀ (z' w' : Int) (x' : Str) (a' b' : Int) (y' : Str), 1 ≤ z' → z' ≤ 1000000000000000000 → z ≤ z' → 1 ≤ w' → w' ≤ 5 → 1 ≤ a' → a' ≤ w' → 1 ≤ b' → b' ≤ w' → x' ∈ (["hosts", "racks"] : List Str) → y' ∈ (["plain", "with"] : List Str) →
      ∃ g : C.Frame, D.lst [.int z', .int w', .str x', .int a', .int b', .str y', CC] = .lst [.int g.z, .int g.w, .str g.x, .int g.a, .int g.b, .str g.y, crewD g.hs] ∧ FrOk 12 16 g := fun z' w' x' a' b' y' q1 q2 q3 q4 q5 q6 q7 q8 q9 q10 q11 =>
    ⟨⟨z', w', x', a', b', y', hs⟩, by rw [← hC], ⟨q1, q2, q4, q5, q6, q7, q8, q9, q10, q11, hsok_wide H q3, h0, h1⟩⟩
  have frm : ∀ r, (∃ g : C.Frame, r = D.lst [.int g.z, .int g.w, .str g.x, .int g.a, .int g.b, .str g.y, crewD g.hs] ∧ FrOk 12 16 g) → ∃ g : C.Frame, r = D.lst [.int g.z, .int g.w, .str g.x, .int g.a, .int g.b, .str g.y, crewD g.hs] ∧ FrOk 12 16 g := fun _ q => q
  have t1 : slL (.lst [.int z, .int w, .str x, .int a, .int b, .str y, CC]) (some 1) none = some (.lst [.int w, .str x, .int a, .int b, .str y, CC]) := rfl
  have t2 : slL (.lst [.int z, .int w, .str x, .int a, .int b, .str y, CC]) (some 2) none = some (.lst [.str x, .int a, .int b, .str y, CC]) := rfl
  have t3 : slL (.lst [.int z, .int w, .str x, .int a, .int b, .str y, CC]) (some 3) none = some (.lst [.int a, .int b, .str y, CC]) := rfl
  have t4 : slL (.lst [.int z, .int w, .str x, .int a, .int b, .str y, CC]) (some 4) none = some (.lst [.int b, .str y, CC]) := rfl
  have t5 : slL (.lst [.int z, .int w, .str x, .int a, .int b, .str y, CC]) (some 5) none = some (.lst [.str y, CC]) := rfl
  have u2 : slL (.lst [.int z, .int w, .str x, .int a, .int b, .str y, CC]) none (some 2) = some (.lst [.int z, .int w]) := rfl
  have u3 : slL (.lst [.int z, .int w, .str x, .int a, .int b, .str y, CC]) none (some 3) = some (.lst [.int z, .int w, .str x]) := rfl
  have u4 : slL (.lst [.int z, .int w, .str x, .int a, .int b, .str y, CC]) none (some 4) = some (.lst [.int z, .int w, .str x, .int a]) := rfl
  have u5 : slL (.lst [.int z, .int w, .str x, .int a, .int b, .str y, CC]) none (some 5) = some (.lst [.int z, .int w, .str x, .int a, .int b]) := rfl
  have u6 : slL (.lst [.int z, .int w, .str x, .int a, .int b, .str y, CC]) none (some 6) = some (.lst [.int z, .int w, .str x, .int a, .int b, .str y]) := rfl
  refine br (fun _ => ?_) (fun _ => ?_)
  · repeat fail
    refine (build_ok (M := 3) (E := 2) K1 (by omega) z0 z1 (by omega) (by omega) (by omega) (by omega)).on fun r s2 ⟨g, hr, hz, G⟩ k2 l2 => ?_
    subst hr
    repeat fail
    exact ⟨k2.le (by omega), by omega, g, rfl, G.mono (by omega) (by omega)⟩
  repeat fail
  refine br (fun _ => ?_) (fun _ => ?_)
  · obtain ⟨m, em, m1, m2, m3⟩ := min2_is (i := z + 1) (j := 1000000000000000000)
    have ca : addAll (.lst [.int m]) (.lst [.int w, .str x, .int a, .int b, .str y, CC]) = some (.lst [.int m, .int w, .str x, .int a, .int b, .str y, CC]) := catl (by simp)
    repeat fail
    exact ⟨K1.le (by omega), by omega, mk m w x a b y (by omega) (by omega) (by omega) w0 w1 a0 a1 b0 b1 fx fy⟩
  repeat fail
  refine br (fun _ => ?_) (fun _ => ?_)
  · obtain ⟨m, em, m1, m2, m3⟩ := min2_is (i := w + 1) (j := 5)
    have ca : addAll (.lst [.int z, .int m]) (.lst [.str x, .int a, .int b, .str y, CC]) = some (.lst [.int z, .int m, .str x, .int a, .int b, .str y, CC]) := catl (by simp)
    repeat fail
    exact ⟨K1.le (by omega), by omega, mk z m x a b y z0 z1 (by omega) (by omega) (by omega) a0 (by omega) b0 (by omega) fx fy⟩
  repeat fail
  refine br (fun _ => ?_) (fun _ => ?_)
  · have ca : ∀ x' : Str, addAll (.lst [.int z, .int w]) (.lst [.str x']) = some (.lst [.int z, .int w, .str x']) := fun x' => catl (by simp)
    have cb : ∀ x' : Str, addAll (.lst [.int z, .int w, .str x']) (.lst [.int a, .int b, .str y, CC]) = some (.lst [.int z, .int w, .str x', .int a, .int b, .str y, CC]) := fun x' => catl (by simp)
    have ca1 := ca "hosts"; have ca2 := ca "racks"; have cb1 := cb "hosts"; have cb2 := cb "racks"
    repeat fail
    refine br (fun _ => ?_) (fun _ => ?_)
    · repeat fail
      exact ⟨K1.le (by omega), by omega, mk z w "hosts" a b y z0 z1 (by omega) w0 w1 a0 a1 b0 b1 (by simp) fy⟩
    · repeat fail
      exact ⟨K1.le (by omega), by omega, mk z w "racks" a b y z0 z1 (by omega) w0 w1 a0 a1 b0 b1 (by simp) fy⟩
  repeat fail
  have md : ∀ i : Int, modD (.int i) (.int w) = some (.int (i % w)) := fun i => if_pos (by omega)
  have e0 : ∀ i : Int, 0 ≤ i % w ∧ i % w < w := fun i => ⟨Int.emod_nonneg _ (by omega), Int.emod_lt_of_pos _ (by omega)⟩
  have ma := md a; have mb := md b; have ea := e0 a; have eb := e0 b
  refine br (fun _ => ?_) (fun _ => ?_)
  · have ca : addAll (.lst [.int z, .int w, .str x]) (.lst [.int (a % w + 1)]) = some (.lst [.int z, .int w, .str x, .int (a % w + 1)]) := catl (by simp)
    have cb : addAll (.lst [.int z, .int w, .str x, .int (a % w + 1)]) (.lst [.int b, .str y, CC]) = some (.lst [.int z, .int w, .str x, .int (a % w + 1), .int b, .str y, CC]) := catl (by simp)
    repeat fail
    exact ⟨K1.le (by omega), by omega, mk z w x (a % w + 1) b y z0 z1 (by omega) w0 w1 (by omega) (by omega) b0 b1 fx fy⟩
  repeat fail
  refine br (fun _ => ?_) (fun _ => ?_)
  · have ca : addAll (.lst [.int z, .int w, .str x, .int a]) (.lst [.int (b % w + 1)]) = some (.lst [.int z, .int w, .str x, .int a, .int (b % w + 1)]) := catl (by simp)
    have cb : addAll (.lst [.int z, .int w, .str x, .int a, .int (b % w + 1)]) (.lst [.str y, CC]) = some (.lst [.int z, .int w, .str x, .int a, .int (b % w + 1), .str y, CC]) := catl (by simp)
    repeat fail
    exact ⟨K1.le (by omega), by omega, mk z w x a (b % w + 1) y z0 z1 (by omega) w0 w1 a0 a1 (by omega) (by omega) fx fy⟩
  repeat fail
  refine br (fun _ => ?_) (fun _ => ?_)
  · have ca : ∀ y' : Str, addAll (.lst [.int z, .int w, .str x, .int a, .int b]) (.lst [.str y', CC]) = some (.lst [.int z, .int w, .str x, .int a, .int b, .str y', CC]) := fun y' => catl (by simp)
    have ca1 := ca "plain"; have ca2 := ca "with"
    repeat fail
    refine br (fun _ => ?_) (fun _ => ?_)
    · repeat fail
      exact ⟨K1.le (by omega), by omega, mk z w x a b "plain" z0 z1 (by omega) w0 w1 a0 a1 b0 b1 fx (by simp)⟩
    · repeat fail
      exact ⟨K1.le (by omega), by omega, mk z w x a b "with" z0 z1 (by omega) w0 w1 a0 a1 b0 b1 fx (by simp)⟩
  repeat fail
  refine br (fun _ => ?_) (fun _ => ?_)
  · repeat fail
    exact ⟨K1.le (by omega), by omega, mk z w x a b y z0 z1 (by omega) w0 w1 a0 a1 b0 b1 fx fy⟩
  repeat fail
  refine (co s1 (B + 1) K1 (by omega)).on fun r s2 ⟨hs', hr, H', l0', l1'⟩ k2 l2 => ?_
  subst hr
  have ca : addAll (.lst [.int z, .int w, .str x, .int a, .int b, .str y]) (.lst [crewD hs']) = some (.lst [.int z, .int w, .str x, .int a, .int b, .str y, crewD hs']) := catl (by simp)
  repeat fail
  exact ⟨k2.le (by omega), by omega, ⟨z, w, x, a, b, y, hs'⟩, rfl, ⟨z0, z1, w0, w1, a0, a1, b0, b1, fx, fy, H', l0', l1'⟩⟩
theorem value_ok {s : S} {n B : Nat} (h : KG s n B) (hB : B + 100 < 2 ^ 40) : Dr u__law_value [.cel n] s n B 1 fun r => ∃ T, knd r = some T := by
  refine Dr.of ?_
  have pw : powD (.int 10) (.int 39) = some (.int (10 ^ 39)) := by
    unfold powD
    exact if_pos (by decide)
  unfold u__law_value
  refine wp_mkD rfl ?_
  repeat fail
  refine on_some (show mDisp [(mC (.str "a"), mC (.int 1))] _ s = some (.dic [(.inr "a", .int 1)], s) from rfl) ?_
  repeat fail
  simp only [List.cons_append, List.nil_append]
  refine (of_ok h (by omega) (by simp) (by simp)).on fun r s1 hr k1 l1 => ?_
  have all := List.all_eq_true.mp (show ([D.non, .bl true, .bl false, .int 0, .int 1, .int (-1), .int 2, .int (10 ^ 39), .str "", .str "a", .str "hosts", .str "5", .tup [], .tup [.int 0], .lst [], .lst [.int 1], .dic [], .dic [(.inr "a", .int 1)], .tup [.str "a", .non],
    .tup [.str "a", .str "r", .tup [.int 0]], .tup [.tup [.str "a", .str "r", .tup [.int 0]]], .lst [.str "a", .str "r", .lst [.int 0]], .str "ring 1 1 hosts 1 1 plain", .str "a b"] : List D).all (fun d => (knd d).isSome) = true from rfl) r hr
  repeat fail
  exact Option.isSome_iff_exists.mp all
/-- a ring beside another one -/
theorem pair_ok {f g : C.Frame} (s : S) (F : FrOk 12 16 f) (G : FrOk 12 16 g) {k : Bool} (hk : k = decide (textOf f = textOf g)) : u__law_pair_right [ringD f, ringD g, .bl k] s = some (.bl true, s) := by
  have e1 := C.eq_ok s F G
  have e2 := C.eq_ok s G F
  rw [← hk] at e1
  rw [show decide (textOf g = textOf f) = k by rw [hk]; exact decide_eq_decide.mpr ⟨Eq.symm, Eq.symm⟩] at e2
  have of1 : ofC "Ring" (ringD f) = true := rfl
  have of2 : ofC "Ring" (ringD g) = true := rfl
  have kf : (k != false) = k := by cases k <;> rfl
  have kt : (k != true) = !k := by cases k <;> rfl
  have o1 : ownAny false "Ring" u_Ring___eq__ (ringD f) (ringD g) s = some (.bl k, s) := by unfold ownAny; rw [of1, of2]; simp only [if_true, Bool.true_or]; rw [e1]; simp only [kf]
  have o2 : ownAny false "Ring" u_Ring___eq__ (ringD g) (ringD f) s = some (.bl k, s) := by unfold ownAny; rw [of1, of2]; simp only [if_true, Bool.true_or]; rw [e2]; simp only [kf]
  have o3 : ownAny true "Ring" u_Ring___eq__ (ringD f) (ringD g) s = some (.bl (!k), s) := by unfold ownAny; rw [of1, of2]; simp only [if_true, Bool.true_or]; rw [e1]; simp only [kt]
  have o4 : ownAny true "Ring" u_Ring___eq__ (ringD g) (ringD f) s = some (.bl (!k), s) := by unfold ownAny; rw [of1, of2]; simp only [if_true, Bool.true_or]; rw [e2]; simp only [kt]
  have nk : notD (.bl k) = some (.bl (!k)) := by cases k <;> rfl
  obtain ⟨v, hv⟩ := repr_ok (rp_lst (rpl_cons (rp_bl k) (rpl_cons (rp_bl k) (rpl_cons (rp_bl (!k)) (rpl_cons (rp_bl (!k)) rpl_nil))))) (by omega) (by omega)
  have hv := hv s
  generalize ringD f = RF at *
  generalize ringD g = RG at *
  refine eq_of_on ?_
  unfold u__law_pair_right
  refine wp_mkD rfl ?_
  repeat fail
/-- a ring beside a value of a built-in kind -/
theorem pair_val {f : C.Frame} {d : D} {T : String} (s : S) (hd : knd d = some T) : u__law_pair_right [ringD f, d, .bl false] s = some (.bl true, s) := by
  have is : isiD C.isiC C.isiT [d, .ty "Ring"] = some (.bl false) := by
    cases d <;> first | rfl | cases hd
  have e1 : u_Ring___eq__ [ringD f, d] s = some (.bl false, s) := by
    generalize ringD f = RF at *
    refine eq_of_on ?_
    unfold u_Ring___eq__
    refine wp_mkD rfl ?_
    repeat fail
  have of1 : ofC "Ring" (ringD f) = true := rfl
  have of2 : ofC "Ring" d = false := by cases d <;> first | rfl | cases hd
  have o1 : ownAny false "Ring" u_Ring___eq__ (ringD f) d s = some (.bl false, s) := by unfold ownAny; rw [of1, of2, hd]; simp [e1]
  have o2 : ownAny false "Ring" u_Ring___eq__ d (ringD f) s = some (.bl false, s) := by unfold ownAny; rw [of1, of2, hd]; simp [e1]
  have o3 : ownAny true "Ring" u_Ring___eq__ (ringD f) d s = some (.bl true, s) := by unfold ownAny; rw [of1, of2, hd]; simp [e1]
  have o4 : ownAny true "Ring" u_Ring___eq__ d (ringD f) s = some (.bl true, s) := by unfold ownAny; rw [of1, of2, hd]; simp [e1]
  have nf : notD (.bl false) = some (.bl true) := rfl
  obtain ⟨v, hv⟩ := repr_ok (rp_lst (rpl_cons (rp_bl false) (rpl_cons (rp_bl false) (rpl_cons (rp_bl true) (rpl_cons (rp_bl true) rpl_nil))))) (by omega) (by omega)
  have hv := hv s
  generalize ringD f = RF at *
  refine eq_of_on ?_
  unfold u__law_pair_right
  refine wp_mkD rfl ?_
  repeat fail
theorem right_ok {s : S} {n B : Nat} (h : KG s n B) (hB : B + 100000 < 2 ^ 40) : Dr u__law_right [.cel n] s n B 20000 fun r => r = .bl true := by
  refine Dr.of ?_
  unfold u__law_right
  refine wp_mkD rfl ?_
  repeat fail
  refine (width_ok h (by omega)).on fun r s1 ⟨z, hr, z0, z1⟩ k1 l1 => ?_
  subst hr
  repeat fail
  refine (of_ok (ds := [.int 2, .int 5, .int 12]) k1 (by omega) (by simp) (by simp)).on fun r s2 hr k2 l2 => ?_
  obtain ⟨M, rfl, M1, M12⟩ : ∃ M : Nat, r = .int M ∧ 1 ≤ M ∧ M ≤ 12 := by
    simp only [List.mem_cons, List.not_mem_nil, or_false] at hr
    rcases hr with rfl | rfl | rfl
    · exact ⟨2, rfl, by omega, by omega⟩
    · exact ⟨5, rfl, by omega, by omega⟩
    · exact ⟨12, rfl, by omega, by omega⟩
  have bu := build_ok (M := M) (E := 4) k2 (by omega) z0 z1 (by omega) (by omega) (by omega) (by omega)
  repeat fail
  refine bu.on fun r s3 ⟨f, hr, hz, F0⟩ k3 l3 => ?_
  subst hr
  have F := F0.mono (M' := 12) (E' := 16) (by omega) (by omega)
  repeat fail
  refine (made_ok k3 (by omega) F).on fun r s4 hr k4 l4 => ?_
  subst hr
  have sh := fun s => sheet_ok (f := f) s F
  have sh4 := sh s4
  have stO := fun s => C.str_ok (f := f) s F
  repeat fail
  have k5 : KG s4 n (B + 3000) := k4.le (by omega)
  refine wp_forI (fun j e s5 => KG s5 n (B + 3000 + 2200 * j) ∧ s5.length = s.length ∧ ∃ v4 v5 v6, e = [.val (.cel n), .val f.D, .val (ringD f), .val (.str (textOf f)), v4, v5, v6, .unb]) ⟨k5, by omega, _, _, _, rfl⟩ (fun j e s5 d hd hI => ?_) (fun e s5 hI => ?_)
  · obtain ⟨k6, l6, v4, v5, v6, rfl⟩ := hI
    obtain ⟨hj, rfl⟩ := rng_at hd
    have hj : j < 5 := by simpa using hj
    repeat fail
    refine (other_ok k6 (by omega) F).on fun r s6 ⟨g, hr, G⟩ k7 l7 => ?_
    subst hr
    repeat fail
    refine (made_ok k7 (by omega) G).on fun r s7 hr k8 l8 => ?_
    subst hr
    have e1 := sheet_ok s7 G
    have e2 : eqD (.str (textOf g)) (.str (textOf f)) = some (.bl (decide (textOf f = textOf g))) := by
      rw [show decide (textOf f = textOf g) = decide (textOf g = textOf f) from decide_eq_decide.mpr ⟨Eq.symm, Eq.symm⟩]
      simp [eqD, eqB, toV0, scal]
    have e3 := pair_ok s7 F G rfl
    have e4 := stO s7
    unfold ringD at *
    repeat fail
    exact ⟨k8.le (by omega), by omega, _, _, _, rfl⟩
  · obtain ⟨k6, l6, v4, v5, v6, rfl⟩ := hI
    have e0 : (rngD 0 (5 : Int).toNat).length = 5 := by decide
    rw [e0] at k6
    have p1 := fun s (d : D) (T : String) (hd : knd d = some T) => pair_val (f := f) s hd
    have i6 : idxD f.D (.int 6) = some (crewD f.hs) := rfl
    have tp : tupleD [f.D] = some (.tup [.int f.z, .int f.w, .str f.x, .int f.a, .int f.b, .str f.y, crewD f.hs]) := rfl
    have kf : knd f.D = some "list" := rfl
    have kc : knd (crewD f.hs) = some "tuple" := rfl
    have lc : lenD [crewD f.hs] = some (.int f.hs.length) := congrArg (fun n : Nat => some (D.int n)) (List.length_map _)
    generalize crewD f.hs = CC at *
    generalize f.D = FD at *
    repeat fail
    refine (value_ok k6 (by omega)).on fun r s6 ⟨T, hT⟩ k7 l7 => ?_
    have q1 := p1 s6 (.str (textOf f)) _ rfl
    have q2 := p1 s6 FD _ kf
    have q3 := p1 s6 (.tup [.int f.z, .int f.w, .str f.x, .int f.a, .int f.b, .str f.y, CC]) _ rfl
    have q4 := p1 s6 CC _ kc
    have q5 := p1 s6 (.int f.hs.length) _ rfl
    have q6 := p1 s6 .non _ rfl
    have q7 := p1 s6 (.bl true) _ rfl
    have q8 := p1 s6 r _ hT
    generalize ringD f = RF at *
    generalize D.tup [.int f.z, .int f.w, .str f.x, .int f.a, .int f.b, .str f.y, CC] = TC at *
    repeat fail
    exact ⟨k7.le (by omega), by omega, rfl⟩
theorem plain (ns : List Int) (hl : ns.length ≤ 63) (hb : ∀ z ∈ ns, Builtin.Int.intBits z ≤ 1048576) : ∃ s', u_law [.lst (ns.map .int)] [] = some (.bl true, s') :=
  plainA (ur := u__law_right) (k := 20000) (fun s n h => right_ok h (by omega)) ns hb
end K08
end Z

set_option Elab.async false
set_option linter.all false
set_option maxRecDepth 100000
set_option maxHeartbeats 4000000
namespace Z
namespace K08
open PySem PySem.Spec PyProof.Rows L2
open C
def N__law_dip : List PySem.Str := ["_law_keg", "_law_many", "_law_figure", "_law_mix"]
def ps__law_dip : List PySem.Str := ["_law_keg", "_law_many"]
theorem sc__law_dip : FnScope N__law_dip ps__law_dip (defScope st__law_dip) := ⟨rfl, rfl, rfl, by decide +kernel, rfl, by decide +kernel, by decide +kernel⟩
def N__law_of : List PySem.Str := ["_law_keg", "_law_things"]
def ps__law_of : List PySem.Str := ["_law_keg", "_law_things"]
theorem sc__law_of : FnScope N__law_of ps__law_of (defScope st__law_of) := ⟨rfl, rfl, rfl, by decide +kernel, rfl, by decide +kernel, by decide +kernel⟩
def N__law_rule : List PySem.Str := ["_law_keg", "_law_wide", "_law_found"]
def ps__law_rule : List PySem.Str := ["_law_keg"]
theorem sc__law_rule : FnScope N__law_rule ps__law_rule (defScope st__law_rule) := ⟨rfl, rfl, rfl, by decide +kernel, rfl, by decide +kernel, by decide +kernel⟩
def N__law_title : List PySem.Str := ["_law_keg", "_law_small", "_law_found", "_law_turn"]
def ps__law_title : List PySem.Str := ["_law_keg"]
theorem sc__law_title : FnScope N__law_title ps__law_title (defScope st__law_title) := ⟨rfl, rfl, rfl, by decide +kernel, rfl, by decide +kernel, by decide +kernel⟩
def N__law_titles : List PySem.Str := ["_law_keg", "_law_many", "_law_spare", "_law_found", "_law_turn", "_law_tag", "_law_each"]
def ps__law_titles : List PySem.Str := ["_law_keg", "_law_many"]
theorem sc__law_titles : FnScope N__law_titles ps__law_titles (defScope st__law_titles) := ⟨rfl, rfl, rfl, by decide +kernel, rfl, by decide +kernel, by decide +kernel⟩
def N__law_yards : List PySem.Str := ["_law_keg", "_law_many", "_law_pool", "_law_turn"]
def ps__law_yards : List PySem.Str := ["_law_keg", "_law_many"]
theorem sc__law_yards : FnScope N__law_yards ps__law_yards (defScope st__law_yards) := ⟨rfl, rfl, rfl, by decide +kernel, rfl, by decide +kernel, by decide +kernel⟩
def N__law_free : List PySem.Str := ["_law_size", "_law_taken", "_law_wish", "_law_step"]
def ps__law_free : List PySem.Str := ["_law_size", "_law_taken", "_law_wish"]
theorem sc__law_free : FnScope N__law_free ps__law_free (defScope st__law_free) := ⟨rfl, rfl, rfl, by decide +kernel, rfl, by decide +kernel, by decide +kernel⟩
def N__law_vast : List PySem.Str := ["_law_keg", "_law_many", "_law_found", "_law_turn"]
def ps__law_vast : List PySem.Str := ["_law_keg", "_law_many"]
theorem sc__law_vast : FnScope N__law_vast ps__law_vast (defScope st__law_vast) := ⟨rfl, rfl, rfl, by decide +kernel, rfl, by decide +kernel, by decide +kernel⟩
def N__law_place : List PySem.Str := ["_law_keg", "_law_size", "_law_taken", "_law_way"]
def ps__law_place : List PySem.Str := ["_law_keg", "_law_size", "_law_taken"]
theorem sc__law_place : FnScope N__law_place ps__law_place (defScope st__law_place) := ⟨rfl, rfl, rfl, by decide +kernel, rfl, by decide +kernel, by decide +kernel⟩
def N__law_band : List PySem.Str := ["_law_keg", "_law_size", "_law_most", "_law_each", "_law_many", "_law_taken", "_law_found", "_law_tags", "_law_bays", "_law_at", "_law_spots", "_law_room", "_law_turn", "_law_spot"]
def ps__law_band : List PySem.Str := ["_law_keg", "_law_size", "_law_most", "_law_each"]
theorem sc__law_band : FnScope N__law_band ps__law_band (defScope st__law_band) := ⟨rfl, rfl, rfl, by decide +kernel, rfl, by decide +kernel, by decide +kernel⟩
def N__law_build : List PySem.Str := ["_law_keg", "_law_size", "_law_most", "_law_each"]
def ps__law_build : List PySem.Str := ["_law_keg", "_law_size", "_law_most", "_law_each"]
theorem sc__law_build : FnScope N__law_build ps__law_build (defScope st__law_build) := ⟨rfl, rfl, rfl, by decide +kernel, rfl, by decide +kernel, by decide +kernel⟩
def N__law_width : List PySem.Str := ["_law_keg", "_law_way"]
def ps__law_width : List PySem.Str := ["_law_keg"]
theorem sc__law_width : FnScope N__law_width ps__law_width (defScope st__law_width) := ⟨rfl, rfl, rfl, by decide +kernel, rfl, by decide +kernel, by decide +kernel⟩
def N_is_integer : List PySem.Str := ["value", "least", "greatest"]
def ps_is_integer : List PySem.Str := ["value", "least", "greatest"]
theorem sc_is_integer : FnScope N_is_integer ps_is_integer (defScope st_is_integer) := ⟨rfl, rfl, rfl, by decide +kernel, rfl, by decide +kernel, by decide +kernel⟩
def N_check_number : List PySem.Str := ["value", "greatest"]
def ps_check_number : List PySem.Str := ["value", "greatest"]
theorem sc_check_number : FnScope N_check_number ps_check_number (defScope st_check_number) := ⟨rfl, rfl, rfl, by decide +kernel, rfl, by decide +kernel, by decide +kernel⟩
def N_is_name : List PySem.Str := ["value", "sign"]
def ps_is_name : List PySem.Str := ["value"]
theorem sc_is_name : FnScope N_is_name ps_is_name (defScope st_is_name) := ⟨rfl, rfl, rfl, by decide +kernel, rfl, by decide +kernel, by decide +kernel⟩
def N_are_points : List PySem.Str := ["value", "points", "most", "point", "one", "other"]
def ps_are_points : List PySem.Str := ["value", "points", "most"]
theorem sc_are_points : FnScope N_are_points ps_are_points (defScope st_are_points) := ⟨rfl, rfl, rfl, by decide +kernel, rfl, by decide +kernel, by decide +kernel⟩
def N_is_host : List PySem.Str := ["value", "points", "ahead", "name", "rack", "marks", "host", "taken", "mark"]
def ps_is_host : List PySem.Str := ["value", "points", "ahead"]
theorem sc_is_host : FnScope N_is_host ps_is_host (defScope st_is_host) := ⟨rfl, rfl, rfl, by decide +kernel, rfl, by decide +kernel, by decide +kernel⟩
def N_check_hosts : List PySem.Str := ["value", "points", "index", "host"]
def ps_check_hosts : List PySem.Str := ["value", "points"]
theorem sc_check_hosts : FnScope N_check_hosts ps_check_hosts (defScope st_check_hosts) := ⟨rfl, rfl, rfl, by decide +kernel, rfl, by decide +kernel, by decide +kernel⟩
def N_Ring___init__ : List PySem.Str := ["self", "points", "factor", "spread", "write", "read", "pending", "hosts", "name", "rack", "marks", "mark"]
def ps_Ring___init__ : List PySem.Str := ["self", "points", "factor", "spread", "write", "read", "pending", "hosts"]
theorem sc_Ring___init__ : FnScope N_Ring___init__ ps_Ring___init__ (defScope st_Ring___init__) := ⟨rfl, rfl, rfl, by decide +kernel, rfl, by decide +kernel, by decide +kernel⟩
def N_written : List PySem.Str := ["text", "sign"]
def ps_written : List PySem.Str := ["text"]
theorem sc_written : FnScope N_written ps_written (defScope st_written) := ⟨rfl, rfl, rfl, by decide +kernel, rfl, by decide +kernel, by decide +kernel⟩
def N_host_of : List PySem.Str := ["row", "words", "word"]
def ps_host_of : List PySem.Str := ["row"]
theorem sc_host_of : FnScope N_host_of ps_host_of (defScope st_host_of) := ⟨rfl, rfl, rfl, by decide +kernel, rfl, by decide +kernel, by decide +kernel⟩
def N_Ring_read : List PySem.Str := ["cls", "text", "head", "rows", "words", "hosts", "row", "word", "points", "factor", "spread", "write", "answers", "pending", "ring"]
def ps_Ring_read : List PySem.Str := ["cls", "text"]
theorem sc_Ring_read : FnScope N_Ring_read ps_Ring_read (defScope st_Ring_read) := ⟨rfl, rfl, rfl, by decide +kernel, rfl, by decide +kernel, by decide +kernel⟩
def N__law_sheet : List PySem.Str := ["_law_frame", "_law_size", "_law_wide", "_law_word", "_law_puts", "_law_gets", "_law_mode", "_law_crew", "_law_rows", "_law_tag", "_law_bay", "_law_spots", "_law_spot"]
def ps__law_sheet : List PySem.Str := ["_law_frame"]
theorem sc__law_sheet : FnScope N__law_sheet ps__law_sheet (defScope st__law_sheet) := ⟨rfl, rfl, rfl, by decide +kernel, rfl, by decide +kernel, by decide +kernel⟩
def N__law_made : List PySem.Str := ["_law_keg", "_law_frame", "_law_way", "_law_size", "_law_wide", "_law_word", "_law_puts", "_law_gets", "_law_mode", "_law_crew"]
def ps__law_made : List PySem.Str := ["_law_keg", "_law_frame"]
theorem sc__law_made : FnScope N__law_made ps__law_made (defScope st__law_made) := ⟨rfl, rfl, rfl, by decide +kernel, rfl, by decide +kernel, by decide +kernel⟩
def N__law_other_crew : List PySem.Str := ["_law_keg", "_law_size", "_law_crew", "_law_at", "_law_way", "_law_tag", "_law_bay", "_law_spots", "_law_taken", "_law_each", "_law_wishes_here", "_law_fresh", "_law_spot", "_law_less"]
def ps__law_other_crew : List PySem.Str := ["_law_keg", "_law_size", "_law_crew"]
theorem sc__law_other_crew : FnScope N__law_other_crew ps__law_other_crew (defScope st__law_other_crew) := ⟨rfl, rfl, rfl, by decide +kernel, rfl, by decide +kernel, by decide +kernel⟩
def N__law_other : List PySem.Str := ["_law_keg", "_law_frame", "_law_size", "_law_wide", "_law_word", "_law_puts", "_law_gets", "_law_mode", "_law_crew", "_law_way"]
def ps__law_other : List PySem.Str := ["_law_keg", "_law_frame"]
theorem sc__law_other : FnScope N__law_other ps__law_other (defScope st__law_other) := ⟨rfl, rfl, rfl, by decide +kernel, rfl, by decide +kernel, by decide +kernel⟩
def N_Ring_spread : List PySem.Str := ["self"]
def ps_Ring_spread : List PySem.Str := ["self"]
theorem sc_Ring_spread : FnScope N_Ring_spread ps_Ring_spread (defScope st_Ring_spread) := ⟨rfl, rfl, rfl, by decide +kernel, rfl, by decide +kernel, by decide +kernel⟩
def N_Ring_pending : List PySem.Str := ["self"]
def ps_Ring_pending : List PySem.Str := ["self"]
theorem sc_Ring_pending : FnScope N_Ring_pending ps_Ring_pending (defScope st_Ring_pending) := ⟨rfl, rfl, rfl, by decide +kernel, rfl, by decide +kernel, by decide +kernel⟩
def N_Ring___str__ : List PySem.Str := ["self", "points", "factor", "write", "answers", "head", "rows", "mark", "name", "rack", "marks"]
def ps_Ring___str__ : List PySem.Str := ["self"]
theorem sc_Ring___str__ : FnScope N_Ring___str__ ps_Ring___str__ (defScope st_Ring___str__) := ⟨rfl, rfl, rfl, by decide +kernel, rfl, by decide +kernel, by decide +kernel⟩
def N_Ring___eq__ : List PySem.Str := ["self", "other"]
def ps_Ring___eq__ : List PySem.Str := ["self", "other"]
theorem sc_Ring___eq__ : FnScope N_Ring___eq__ ps_Ring___eq__ (defScope st_Ring___eq__) := ⟨rfl, rfl, rfl, by decide +kernel, rfl, by decide +kernel, by decide +kernel⟩
def N__law_pair_right : List PySem.Str := ["_law_mine", "_law_mate", "_law_due", "_law_told"]
def ps__law_pair_right : List PySem.Str := ["_law_mine", "_law_mate", "_law_due"]
theorem sc__law_pair_right : FnScope N__law_pair_right ps__law_pair_right (defScope st__law_pair_right) := ⟨rfl, rfl, rfl, by decide +kernel, rfl, by decide +kernel, by decide +kernel⟩
def N__law_value : List PySem.Str := ["_law_keg", "_law_menu"]
def ps__law_value : List PySem.Str := ["_law_keg"]
theorem sc__law_value : FnScope N__law_value ps__law_value (defScope st__law_value) := ⟨rfl, rfl, rfl, by decide +kernel, rfl, by decide +kernel, by decide +kernel⟩
def N__law_right : List PySem.Str := ["_law_keg", "_law_frame", "_law_mine", "_law_sheet_here", "_law_turn", "_law_other_one", "_law_mate", "_law_thing"]
def ps__law_right : List PySem.Str := ["_law_keg"]
theorem sc__law_right : FnScope N__law_right ps__law_right (defScope st__law_right) := ⟨rfl, rfl, rfl, by decide +kernel, rfl, by decide +kernel, by decide +kernel⟩
def N__law_filled : List PySem.Str := ["_law_script", "_law_turn", "_law_own", "_law_mix", "_law_cell"]
def ps__law_filled : List PySem.Str := ["_law_script", "_law_turn"]
theorem sc__law_filled : FnScope N__law_filled ps__law_filled (defScope st__law_filled) := ⟨rfl, rfl, rfl, by decide +kernel, rfl, by decide +kernel, by decide +kernel⟩
def N_law : List PySem.Str := ["_law_script", "_law_turn"]
def ps_law : List PySem.Str := ["_law_script"]
theorem sc_law : FnScope N_law ps_law (defScope st_law) := ⟨rfl, rfl, rfl, by decide +kernel, rfl, by decide +kernel, by decide +kernel⟩
abbrev TxZ (w : World) (K : PySem.W.Frag) (mg : PySem.Str → Option Value) : Prop := TxOf exL fnL K mg
section
variable {P : Program} {w : World} {K : PySem.W.Frag} {mg : PySem.Str → Option Value} {base : Heap}
theorem ok__law_dip (T : TxZ w K mg) : DfZ P w K mg base 1 d__law_dip ps__law_dip (spM K u__law_dip) := dfz_M (T.fun_ 0) sc__law_dip rfl rfl (by decide) (fun fd F => F.bindsN fun _ _ _ _ _ _ us hl => match us, hl with | [_, _], _ => rfl) fun cdv A outer s H E hr =>
  (s_cons (s_if (t_gt (d_idxCel (p_var 0) d_int) d_int) (s_cons (s_asg (d_callB call_divmodW divmod_ok bt_divmod rfl (T.free 4) (a_cons (d_idxCel (p_var 0) d_int) (a_cons (p_var 1) a_nil))) (g_seq (n := 2) rfl (gs_cons (g_cel (p_var 0) d_int) (gs_cons (p_nm 2 sc__law_dip.nd) gs_nil)) (gsLen1 (gsLen1 gsLen0)))) (s_one (s_ret (p_var 2)))) s_nil) (s_cons (s_asg (d_add (d_idxCel (p_var 0) d_int) d_int) (g_cel (p_var 0) d_int)) (s_cons (p_set 3 sc__law_dip.nd (d_mod (d_callT (CallR.or call_int1 call_int_str) int_okC bt_int rfl (T.free 5) (a_cons (d_add (d_add (d_mul (d_idxCel (p_var 0) d_int) (d_add d_int (d_mul d_int (d_idxCel (p_var 0) d_int)))) (d_mul d_int (d_idxCel (p_var 0) d_int))) d_int) a_nil)) d_int)) (s_cons (s_asg (d_mod (d_callT (CallR.or call_int1 call_int_str) int_okC bt_int rfl (T.free 5) (a_cons (d_add (d_mul (p_var 3) d_int) (d_mul (d_idxCel (p_var 0) d_int) (d_idxCel (p_var 0) d_int))) a_nil)) d_int) (g_cel (p_var 0) d_int)) (s_one (s_ret (d_mod (d_callT (CallR.or call_int1 call_int_str) int_okC bt_int rfl (T.free 5) (a_cons (d_fdiv (d_idxCel (p_var 0) d_int) d_int) a_nil)) (p_var 1))))))))
theorem ok__law_of (T : TxZ w K mg) : DfZ P w K mg base 2 d__law_of ps__law_of (spM K u__law_of) := dfz_M (T.fun_ 1) sc__law_of rfl rfl (by decide) (fun fd F => F.bindsN fun _ _ _ _ _ _ us hl => match us, hl with | [_, _], _ => rfl) fun cdv A outer s H E hr =>
  (s_one (s_ret (d_idx (p_var 1) (d_call (ok__law_dip T) hr (by decide) rfl (T.glo 6) (a_cons (p_var 0) (a_cons (d_callB call_len len_ok bt_len rfl (T.free 0) (a_cons (p_var 1) a_nil)) a_nil))))))
theorem ok__law_rule (T : TxZ w K mg) : DfZ P w K mg base 3 d__law_rule ps__law_rule (spM K u__law_rule) := dfz_M (T.fun_ 2) sc__law_rule rfl rfl (by decide) (fun fd F => F.bindsN fun _ _ _ _ _ _ us hl => match us, hl with | [_], _ => rfl) fun cdv A outer s H E hr =>
  (s_cons (p_set 1 sc__law_rule.nd (d_add d_int (d_call (ok__law_dip T) hr (by decide) rfl (T.glo 6) (a_cons (p_var 0) (a_cons d_int a_nil))))) (s_cons (p_set 2 sc__law_rule.nd (d_frz (f_lst (a_cons (p_var 1) (a_cons (d_call (ok__law_of T) hr (by decide) rfl (T.glo 7) (a_cons (p_var 0) (a_cons (d_frz (f_lst (a_cons d_str (a_cons d_str a_nil)))) a_nil))) a_nil))))) (s_one (s_ret (d_addA (p_var 2) (d_frz (f_lst (a_cons (d_add d_int (d_call (ok__law_dip T) hr (by decide) rfl (T.glo 6) (a_cons (p_var 0) (a_cons (p_var 1) a_nil)))) (a_cons (d_add d_int (d_call (ok__law_dip T) hr (by decide) rfl (T.glo 6) (a_cons (p_var 0) (a_cons (p_var 1) a_nil)))) (a_cons (d_call (ok__law_of T) hr (by decide) rfl (T.glo 7) (a_cons (p_var 0) (a_cons (d_frz (f_lst (a_cons d_str (a_cons d_str a_nil)))) a_nil))) a_nil))))))))))
theorem ok__law_title (T : TxZ w K mg) : DfZ P w K mg base 3 d__law_title ps__law_title (spM K u__law_title) := dfz_M (T.fun_ 3) sc__law_title rfl rfl (by decide) (fun fd F => F.bindsN fun _ _ _ _ _ _ us hl => match us, hl with | [_], _ => rfl) fun cdv A outer s H E hr =>
  (s_cons (p_set 1 sc__law_title.nd d_str) (s_cons (s_if (t_eq (hu_of hr) (d_call (ok__law_dip T) hr (by decide) rfl (T.glo 6) (a_cons (p_var 0) (a_cons d_int a_nil))) d_int) (s_one (s_ret (d_call (ok__law_of T) hr (by decide) rfl (T.glo 7) (a_cons (p_var 0) (a_cons (d_frz (f_lst (a_cons d_str (a_cons d_str (a_cons d_str (a_cons d_str (a_cons d_str (a_cons d_str (a_cons d_str (a_cons d_str (a_cons d_str a_nil))))))))))) a_nil))))) s_nil) (s_cons (p_set 2 sc__law_title.nd (d_idx (p_var 1) (d_call (ok__law_dip T) hr (by decide) rfl (T.glo 6) (a_cons (p_var 0) (a_cons d_int a_nil))))) (s_cons (s_for (passes_of rfl) rfl (i_rng1 rfl (T.free 3) (a_cons (d_call (ok__law_of T) hr (by decide) rfl (T.glo 7) (a_cons (p_var 0) (a_cons (d_frz (f_lst (a_cons d_int (a_cons d_int (a_cons d_int (a_cons d_int (a_cons d_int (a_cons d_int a_nil)))))))) a_nil))) a_nil)) (p_nm 3 sc__law_title.nd) (s_one (p_set 2 sc__law_title.nd (d_add (p_var 2) (d_idx (d_add (p_var 1) d_str) (d_call (ok__law_dip T) hr (by decide) rfl (T.glo 6) (a_cons (p_var 0) (a_cons d_int a_nil)))))))) (s_one (s_ret (p_var 2)))))))
theorem ok__law_titles (T : TxZ w K mg) : DfZ P w K mg base 4 d__law_titles ps__law_titles (spM K u__law_titles) := dfz_M (T.fun_ 4) sc__law_titles rfl rfl (by decide) (fun fd F => F.bindsN fun _ _ _ _ _ _ us hl => match us, hl with | [_, _], _ => rfl) fun cdv A outer s H E hr =>
  (s_cons (s_parN rfl sc__law_titles.nd (nm_cons 2 (nm_cons 3 nm_nil)) (x_val (d_frz (f_lst (a_cons d_str (a_cons d_str (a_cons d_str (a_cons d_str (a_cons d_str (a_cons d_str (a_cons d_str (a_cons d_str (a_cons d_str (a_cons d_str (a_cons d_str (a_cons d_str a_nil)))))))))))))) (x_own (f_lst a_nil) x_nil)) (by decide)) (s_cons (s_for (passes_of rfl) rfl (i_rng1 rfl (T.free 3) (a_cons (p_var 1) a_nil)) (p_nm 4 sc__law_titles.nd) (s_cons (p_set 5 sc__law_titles.nd (d_call (ok__law_title T) hr (by decide) rfl (T.glo 9) (a_cons (p_var 0) a_nil))) (s_cons (s_if (t_bor 3 (t_bool (w_and (t_ne (hu_of hr) (p_var 3) (d_frz (f_lst a_nil))) (w_and1 (t_eq (hu_of hr) (d_call (ok__law_dip T) hr (by decide) rfl (T.glo 6) (a_cons (p_var 0) (a_cons d_int a_nil))) d_int))))) (s_one (p_set 5 sc__law_titles.nd (d_bor 3 (d_add (d_sl (d_idx (p_var 3) d_int) o_none (o_some d_int)) (d_idx d_str (p_var 4)))))) s_nil) (s_one (p_app 3 (d_bor 3 (d_idx (d_frz (f_lc (own := [("_law_each", 6)]) rfl rfl sc__law_titles.nd (i_seq (d_addA (d_frz (f_lst (a_cons (p_var 5) a_nil))) (p_var 2))) (blkOk_by rfl) (ct_nm (by decide)) (fun _ _ _ _ _ => (p_cnm 6 sc__law_titles.nd)) (fun _ _ _ _ _ => (pts_t (t_notInA (hu_of hr) (p_var 6) (p_var 3)))) (fun _ _ _ _ _ => (p_var 6)))) d_int))))))) (s_one (s_frz1 (i := 3) (s_ret (p_var 3))))))
theorem ok__law_yards (T : TxZ w K mg) : DfZ P w K mg base 5 d__law_yards ps__law_yards (spM K u__law_yards) := dfz_M (T.fun_ 5) sc__law_yards rfl rfl (by decide) (fun fd F => F.bindsN fun _ _ _ _ _ _ us hl => match us, hl with | [_, _], _ => rfl) fun cdv A outer s H E hr =>
  (s_cons (p_set 2 sc__law_yards.nd (d_call (ok__law_titles T) hr (by decide) rfl (T.glo 10) (a_cons (p_var 0) (a_cons (d_add d_int (d_call (ok__law_dip T) hr (by decide) rfl (T.glo 6) (a_cons (p_var 0) (a_cons d_int a_nil)))) a_nil)))) (s_one (s_ret (d_frz (f_lc (own := [("_law_turn", 3)]) rfl rfl sc__law_yards.nd (i_rng1 rfl (T.free 3) (a_cons (p_var 1) a_nil)) (blkOk_by rfl) (ct_nm (by decide)) (fun _ _ _ _ _ => (p_cnm 3 sc__law_yards.nd)) (fun _ _ _ _ _ => pts_yes) (fun _ _ _ _ _ => (d_call (ok__law_of T) hr (by decide) rfl (T.glo 7) (a_cons (p_var 0) (a_cons (p_var 2) a_nil)))))))))
theorem ok__law_free (T : TxZ w K mg) : DfZ P w K mg base 1 d__law_free ps__law_free (spM K u__law_free) := dfz_M (T.fun_ 6) sc__law_free rfl rfl (by decide) (fun fd F => F.bindsN fun _ _ _ _ _ _ us hl => match us, hl with | [_, _, _], _ => rfl) fun cdv A outer s H E hr =>
  (s_cons (s_for (passes_of rfl) rfl (i_rng1 rfl (T.free 3) (a_cons (d_add (d_callB call_len len_ok bt_len rfl (T.free 0) (a_cons (p_var 1) a_nil)) d_int) a_nil)) (p_nm 3 sc__law_free.nd) (s_one (s_if (t_notInA (hu_of hr) (d_mod (d_callT (CallR.or call_int1 call_int_str) int_okC bt_int rfl (T.free 5) (a_cons (d_add (p_var 2) (p_var 3)) a_nil)) (p_var 0)) (p_var 1)) (s_one (s_ret (d_mod (d_callT (CallR.or call_int1 call_int_str) int_okC bt_int rfl (T.free 5) (a_cons (d_add (p_var 2) (p_var 3)) a_nil)) (p_var 0)))) s_nil))) (s_one (s_ret (p_var 2))))
theorem ok__law_vast (T : TxZ w K mg) : DfZ P w K mg base 2 d__law_vast ps__law_vast (spM K u__law_vast) := dfz_M (T.fun_ 7) sc__law_vast rfl rfl (by decide) (fun fd F => F.bindsN fun _ _ _ _ _ _ us hl => match us, hl with | [_, _], _ => rfl) fun cdv A outer s H E hr =>
  (s_cons (p_set 2 sc__law_vast.nd d_int) (s_cons (s_for (passes_of rfl) rfl (i_rng1 rfl (T.free 3) (a_cons d_int a_nil)) (p_nm 3 sc__law_vast.nd) (s_one (p_set 2 sc__law_vast.nd (d_add (d_mul (p_var 2) d_int) (d_call (ok__law_dip T) hr (by decide) rfl (T.glo 6) (a_cons (p_var 0) (a_cons d_int a_nil))))))) (s_one (s_ret (d_mod (d_callT (CallR.or call_int1 call_int_str) int_okC bt_int rfl (T.free 5) (a_cons (p_var 2) a_nil)) (p_var 1))))))
theorem ok__law_place (T : TxZ w K mg) : DfZ P w K mg base 3 d__law_place ps__law_place (spM K u__law_place) := dfz_M (T.fun_ 8) sc__law_place rfl rfl (by decide) (fun fd F => F.bindsN fun _ _ _ _ _ _ us hl => match us, hl with | [_, _, _], _ => rfl) fun cdv A outer s H E hr =>
  (s_cons (p_set 3 sc__law_place.nd (d_call (ok__law_dip T) hr (by decide) rfl (T.glo 6) (a_cons (p_var 0) (a_cons d_int a_nil)))) (s_cons (s_if (t_eq (hu_of hr) (p_var 3) d_int) (s_one (s_ret (d_idx (d_frz (f_lst (a_cons d_int (a_cons (d_sub (p_var 1) d_int) a_nil)))) (d_call (ok__law_dip T) hr (by decide) rfl (T.glo 6) (a_cons (p_var 0) (a_cons d_int a_nil)))))) s_nil) (s_cons (s_if (t_bool (w_and (t_lt (p_var 3) d_int) (w_and1 (t_ne (hu_of hr) (p_var 2) (d_frz (f_lst a_nil)))))) (s_one (s_ret (d_mod (d_callT (CallR.or call_int1 call_int_str) int_okC bt_int rfl (T.free 5) (a_cons (d_sub (d_add (d_call (ok__law_of T) hr (by decide) rfl (T.glo 7) (a_cons (p_var 0) (a_cons (p_var 2) a_nil))) (d_call (ok__law_dip T) hr (by decide) rfl (T.glo 6) (a_cons (p_var 0) (a_cons d_int a_nil)))) d_int) a_nil)) (p_var 1)))) s_nil) (s_one (s_ret (d_if (t_lt (p_var 1) d_int) (d_call (ok__law_dip T) hr (by decide) rfl (T.glo 6) (a_cons (p_var 0) (a_cons (p_var 1) a_nil))) (d_call (ok__law_vast T) hr (by decide) rfl (T.glo 12) (a_cons (p_var 0) (a_cons (p_var 1) a_nil)))))))))
theorem ok__law_band (T : TxZ w K mg) : DfZ P w K mg base 6 d__law_band ps__law_band (spM K u__law_band) := dfz_M (T.fun_ 9) sc__law_band rfl rfl (by decide) (fun fd F => F.bindsN fun _ _ _ _ _ _ us hl => match us, hl with | [_, _, _, _], _ => rfl) fun cdv A outer s H E hr =>
  (s_cons (p_par3 4 5 6 sc__law_band.nd (x_val (d_callB (call_min2 rfl) min2_ok bt_min rfl (T.free 1) (a_cons (d_add d_int (d_call (ok__law_dip T) hr (by decide) rfl (T.glo 6) (a_cons (p_var 0) (a_cons (p_var 2) a_nil)))) (a_cons (p_var 1) a_nil))) (x_own (f_lst a_nil) (x_own (f_lst a_nil) x_nil)))) (s_cons (p_par2 7 8 sc__law_band.nd (x_val (d_call (ok__law_titles T) hr (by decide) rfl (T.glo 10) (a_cons (p_var 0) (a_cons (p_var 4) a_nil))) (x_val (d_call (ok__law_yards T) hr (by decide) rfl (T.glo 11) (a_cons (p_var 0) (a_cons (p_var 4) a_nil))) x_nil))) (s_cons (s_for (passes_of rfl) rfl (i_rng1 rfl (T.free 3) (a_cons (p_var 4) a_nil)) (p_nm 9 sc__law_band.nd) (s_cons (p_par2 10 11 sc__law_band.nd (x_own (f_lst a_nil) (x_val (d_bor 5 (d_sub (d_sub (p_var 1) (d_callB call_len len_ok bt_len rfl (T.free 0) (a_cons (p_var 5) a_nil))) (d_sub (d_sub (p_var 4) d_int) (p_var 9)))) x_nil))) (s_cons (s_for (passes_of rfl) rfl (i_rng1 rfl (T.free 3) (a_cons (d_callB (call_min2 rfl) min2_ok bt_min rfl (T.free 1) (a_cons (d_add d_int (d_call (ok__law_dip T) hr (by decide) rfl (T.glo 6) (a_cons (p_var 0) (a_cons (p_var 3) a_nil)))) (a_cons (p_var 11) a_nil))) a_nil)) (p_nm 12 sc__law_band.nd) (s_cons (p_set 13 sc__law_band.nd (d_bor 5 (d_call (ok__law_free T) hr (by decide) rfl (T.glo 14) (a_cons (p_var 1) (a_cons (p_var 5) (a_cons (d_call (ok__law_place T) hr (by decide) rfl (T.glo 13) (a_cons (p_var 0) (a_cons (p_var 1) (a_cons (p_var 5) a_nil)))) a_nil)))))) (s_cons (p_app 10 (p_var 13)) (s_one (p_app 5 (p_var 13)))))) (s_one (s_frz1 (i := 10) (p_app 6 (d_tup (a_cons (d_idx (p_var 7) (p_var 9)) (a_cons (d_idx (p_var 8) (p_var 9)) (a_cons (d_callT call_tuple_of tuple_ok bt_tuple rfl (T.free 16) (a_cons (d_frz (f_bltF cr_sortZ bt_sorted rfl (T.free 15) (a_cons (p_var 10) a_nil))) a_nil)) a_nil)))))))))) (s_one (s_frz1 (i := 6) (s_ret (d_callT call_tuple_of tuple_ok bt_tuple rfl (T.free 16) (a_cons (p_var 6) a_nil))))))))
theorem ok__law_build (T : TxZ w K mg) : DfZ P w K mg base 7 d__law_build ps__law_build (spM K u__law_build) := dfz_M (T.fun_ 10) sc__law_build rfl rfl (by decide) (fun fd F => F.bindsN fun _ _ _ _ _ _ us hl => match us, hl with | [_, _, _, _], _ => rfl) fun cdv A outer s H E hr =>
  (s_one (s_ret (d_addA (d_addA (d_frz (f_lst (a_cons (p_var 1) a_nil))) (d_call (ok__law_rule T) hr (by decide) rfl (T.glo 8) (a_cons (p_var 0) a_nil))) (d_frz (f_lst (a_cons (d_call (ok__law_band T) hr (by decide) rfl (T.glo 17) (a_cons (p_var 0) (a_cons (p_var 1) (a_cons (p_var 2) (a_cons (p_var 3) a_nil))))) a_nil))))))
theorem ok__law_width (T : TxZ w K mg) : DfZ P w K mg base 3 d__law_width ps__law_width (spM K u__law_width) := dfz_M (T.fun_ 11) sc__law_width rfl rfl (by decide) (fun fd F => F.bindsN fun _ _ _ _ _ _ us hl => match us, hl with | [_], _ => rfl) fun cdv A outer s H E hr =>
  (s_cons (p_set 1 sc__law_width.nd (d_call (ok__law_dip T) hr (by decide) rfl (T.glo 6) (a_cons (p_var 0) (a_cons d_int a_nil)))) (s_cons (s_if (t_lt (p_var 1) d_int) (s_one (s_ret (d_add d_int (d_call (ok__law_dip T) hr (by decide) rfl (T.glo 6) (a_cons (p_var 0) (a_cons d_int a_nil)))))) s_nil) (s_cons (s_if (t_lt (p_var 1) d_int) (s_one (s_ret (d_idx (d_frz (f_lst (a_cons (d_pow d_int d_int) (a_cons (d_sub (d_pow d_int d_int) d_int) a_nil)))) (d_sub (p_var 1) d_int)))) s_nil) (s_one (s_ret (d_if (t_eq (hu_of hr) (p_var 1) d_int) (d_add d_int (d_call (ok__law_dip T) hr (by decide) rfl (T.glo 6) (a_cons (p_var 0) (a_cons (d_pow d_int d_int) a_nil)))) (d_add d_int (d_call (ok__law_vast T) hr (by decide) rfl (T.glo 12) (a_cons (p_var 0) (a_cons (d_pow d_int d_int) a_nil))))))))))
theorem ok_is_integer (T : TxZ w K mg) : DfZ P w K mg base 1 d_is_integer ps_is_integer (spM K u_is_integer) := dfz_M (T.fun_ 12) sc_is_integer rfl rfl (by decide) (fun fd F => F.bindsN fun _ _ _ _ _ _ us hl => match us, hl with | [_, _, _], _ => rfl) fun cdv A outer s H E hr =>
  (s_one (s_ret (d_and (d_callB call_isi (isi_ok (T.isi 21)) bt_isinstance rfl (T.free 20) (a_cons (p_var 0) (a_cons (d_bty rfl (T.free 5) bt_int) a_nil))) (d_and (d_not (d_callB call_isi (isi_ok (T.isi 21)) bt_isinstance rfl (T.free 20) (a_cons (p_var 0) (a_cons (d_bty rfl (T.free 22) bt_bool) a_nil)))) (d_one (d_lele (p_var 1) (p_var 0) (p_var 2)))))))
theorem ok_check_number (T : TxZ w K mg) : DfZ P w K mg base 2 d_check_number ps_check_number (spM K u_check_number) := dfz_M (T.fun_ 13) sc_check_number rfl rfl (by decide) (fun fd F => F.bindsN fun _ _ _ _ _ _ us hl => match us, hl with | [_, _], _ => rfl) fun cdv A outer s H E hr =>
  (s_one (s_if (t_not (t_of (d_call (ok_is_integer T) hr (by decide) rfl (T.glo 23) (a_cons (p_var 0) (a_cons d_int (a_cons (p_var 1) a_nil)))))) (s_one s_die) s_nil))
theorem ok_is_name (T : TxZ w K mg) : DfZ P w K mg base 1 d_is_name ps_is_name (spM K u_is_name) := dfz_M (T.fun_ 14) sc_is_name rfl rfl (by decide) (fun fd F => F.bindsN fun _ _ _ _ _ _ us hl => match us, hl with | [_], _ => rfl) fun cdv A outer s H E hr =>
  (s_cons (s_if (t_bool (w_or (t_not (t_of (d_callB call_isi (isi_ok (T.isi 21)) bt_isinstance rfl (T.free 20) (a_cons (p_var 0) (a_cons (d_bty rfl (T.free 27) bt_str) a_nil))))) (w_or1 (t_not (t_lele d_int (d_callB call_len len_ok bt_len rfl (T.free 0) (a_cons (p_var 0) a_nil)) (p_gint (T.gint 34))))))) (s_one (s_ret d_bl)) s_nil) (s_one (s_ret (d_and (d_inA (hu_of hr) (d_idx (p_var 0) d_int) (p_gstr (T.gstr 35))) (d_one (d_callB (cr_all rfl) all_ok bt_all rfl (T.free 37) (a_cons (d_frz (f_lc (own := [("sign", 1)]) rfl rfl sc_is_name.nd (i_seq (p_var 0)) (blkOk_by rfl) (ct_nm (by decide)) (fun _ _ _ _ _ => (p_cnm 1 sc_is_name.nd)) (fun _ _ _ _ _ => pts_yes) (fun _ _ _ _ _ => (d_inA (hu_of hr) (p_var 1) (d_add (p_gstr (T.gstr 35)) (p_gstr (T.gstr 36))))))) a_nil)))))))
theorem ok_are_points (T : TxZ w K mg) : DfZ P w K mg base 2 d_are_points ps_are_points (spM K u_are_points) := dfz_M (T.fun_ 15) sc_are_points rfl rfl (by decide) (fun fd F => F.bindsN fun _ _ _ _ _ _ us hl => match us, hl with | [_, _, _], _ => rfl) fun cdv A outer s H E hr =>
  (s_cons (s_if (t_bool (w_or (t_not (t_of (d_callB call_isi (isi_ok (T.isi 21)) bt_isinstance rfl (T.free 20) (a_cons (p_var 0) (a_cons (d_bty rfl (T.free 16) bt_tuple) a_nil))))) (w_or1 (t_not (t_lele d_int (d_callB call_len len_ok bt_len rfl (T.free 0) (a_cons (p_var 0) a_nil)) (p_var 2)))))) (s_one (s_ret d_bl)) s_nil) (s_cons (s_if (t_not (t_of (d_callB (cr_all rfl) all_ok bt_all rfl (T.free 37) (a_cons (d_frz (f_lc (own := [("point", 3)]) rfl rfl sc_are_points.nd (i_seq (p_var 0)) (blkOk_by rfl) (ct_nm (by decide)) (fun _ _ _ _ _ => (p_cnm 3 sc_are_points.nd)) (fun _ _ _ _ _ => pts_yes) (fun _ _ _ _ _ => (d_call (ok_is_integer T) hr (by decide) rfl (T.glo 23) (a_cons (p_var 3) (a_cons d_int (a_cons (d_sub (p_var 1) d_int) a_nil))))))) a_nil)))) (s_one (s_ret d_bl)) s_nil) (s_one (s_ret (d_callB (cr_all rfl) all_ok bt_all rfl (T.free 37) (a_cons (d_frz (f_lc (own := [("one", 4), ("other", 5)]) rfl rfl sc_are_points.nd (i_zip rfl (T.free 39) (a_cons (p_var 0) (a_cons (d_sl (p_var 0) (o_some d_int) o_none) a_nil))) (blkOk_by rfl) (ct_tup (by decide) rfl) (fun _ _ _ _ _ => (p_ctup 2 sc_are_points.nd (nm_cons 4 (nm_cons 5 nm_nil)))) (fun _ _ _ _ _ => pts_yes) (fun _ _ _ _ _ => (d_lt (p_var 4) (p_var 5))))) a_nil))))))
theorem ok_is_host (T : TxZ w K mg) : DfZ P w K mg base 3 d_is_host ps_is_host (spM K u_is_host) := dfz_M (T.fun_ 16) sc_is_host rfl rfl (by decide) (fun fd F => F.bindsN fun _ _ _ _ _ _ us hl => match us, hl with | [_, _, _], _ => rfl) fun cdv A outer s H E hr =>
  (s_cons (s_if (t_bool (w_or (t_not (t_of (d_callB call_isi (isi_ok (T.isi 21)) bt_isinstance rfl (T.free 20) (a_cons (p_var 0) (a_cons (d_bty rfl (T.free 16) bt_tuple) a_nil))))) (w_or (t_ne (hu_of hr) (d_callB call_len len_ok bt_len rfl (T.free 0) (a_cons (p_var 0) a_nil)) d_int) (w_or (t_not (t_of (d_call (ok_is_name T) hr (by decide) rfl (T.glo 38) (a_cons (d_idx (p_var 0) d_int) a_nil)))) (w_or1 (t_not (t_of (d_call (ok_is_name T) hr (by decide) rfl (T.glo 38) (a_cons (d_idx (p_var 0) d_int) a_nil))))))))) (s_one (s_ret d_bl)) s_nil) (s_cons (s_asg (p_var 0) (g_seq (n := 3) rfl (gs_cons (p_nm 3 sc_is_host.nd) (gs_cons (p_nm 4 sc_is_host.nd) (gs_cons (p_nm 5 sc_is_host.nd) gs_nil))) (gsLen1 (gsLen1 (gsLen1 gsLen0))))) (s_cons (s_if (t_bool (w_or (t_inA (hu_of hr) (p_var 3) (d_frz (f_lc (own := [("host", 6)]) rfl rfl sc_is_host.nd (i_seq (p_var 2)) (blkOk_by rfl) (ct_nm (by decide)) (fun _ _ _ _ _ => (p_cnm 6 sc_is_host.nd)) (fun _ _ _ _ _ => pts_yes) (fun _ _ _ _ _ => (d_idx (p_var 6) d_int))))) (w_or1 (t_not (t_of (d_call (ok_are_points T) hr (by decide) rfl (T.glo 41) (a_cons (p_var 5) (a_cons (p_var 1) (a_cons (p_gint (T.gint 40)) a_nil))))))))) (s_one (s_ret d_bl)) s_nil) (s_cons (p_set 7 sc_is_host.nd (d_frz (f_dc2 (own := [("host", 6), ("mark", 8)]) rfl rfl sc_is_host.nd (i_seq (p_var 2)) (blkOk_by rfl) (by decide) (ct_nm (by decide)) (ct_nm (by decide)) (fun _ _ _ _ _ => (p_cnm 6 sc_is_host.nd)) (fun _ _ _ _ _ => pts_yes) (fun _ _ _ _ _ => (i_seq (d_idx (p_var 6) d_int))) (fun _ _ _ _ _ => (p_cnm 8 sc_is_host.nd)) (fun _ _ _ _ _ => pts_yes) (fun _ _ _ _ _ => (p_var 8)) (fun _ _ _ _ _ => d_bl)))) (s_one (s_ret (d_not (d_callB (cr_any rfl) any_ok bt_any rfl (T.free 42) (a_cons (d_frz (f_lc (own := [("mark", 8)]) rfl rfl sc_is_host.nd (i_seq (p_var 5)) (blkOk_by rfl) (ct_nm (by decide)) (fun _ _ _ _ _ => (p_cnm 8 sc_is_host.nd)) (fun _ _ _ _ _ => pts_yes) (fun _ _ _ _ _ => (d_inDic (hu_of hr) (p_var 8) (p_var 7))))) a_nil)))))))))
theorem ok_check_hosts (T : TxZ w K mg) : DfZ P w K mg base 4 d_check_hosts ps_check_hosts (spM K u_check_hosts) := dfz_M (T.fun_ 17) sc_check_hosts rfl rfl (by decide) (fun fd F => F.bindsN fun _ _ _ _ _ _ us hl => match us, hl with | [_, _], _ => rfl) fun cdv A outer s H E hr =>
  (s_cons (s_if (t_bool (w_or (t_not (t_of (d_callB call_isi (isi_ok (T.isi 21)) bt_isinstance rfl (T.free 20) (a_cons (p_var 0) (a_cons (d_bty rfl (T.free 16) bt_tuple) a_nil))))) (w_or1 (t_eq (hu_of hr) (d_callB call_len len_ok bt_len rfl (T.free 0) (a_cons (p_var 0) a_nil)) d_int)))) (s_one s_die) s_nil) (s_one (s_for (passes_of rfl) rfl (i_enum2 rfl (T.free 32) (a_cons (p_var 0) a_nil)) (g_seq (n := 2) rfl (gs_cons (p_nm 2 sc_check_hosts.nd) (gs_cons (p_nm 3 sc_check_hosts.nd) gs_nil)) (gsLen1 (gsLen1 gsLen0))) (s_one (s_if (t_bool (w_or (t_eq (hu_of hr) (p_var 2) (p_gint (T.gint 33))) (w_or1 (t_not (t_of (d_call (ok_is_host T) hr (by decide) rfl (T.glo 43) (a_cons (p_var 3) (a_cons (p_var 1) (a_cons (d_sl (p_var 0) o_none (o_some (p_var 2))) a_nil))))))))) (s_one s_die) s_nil)))))
theorem ok_Ring___init__ (T : TxZ w K mg) : DfZ P w K mg base 5 d_Ring___init__ ps_Ring___init__ (spI K "Ring" u_Ring___init__) := dfz_I (T.fun_ 18) sc_Ring___init__ rfl rfl (by decide) (fun fd F => F.bindsN fun _ _ _ _ _ _ us hl => match us, hl with | [_, _, _, _, _, _, _, _], _ => rfl) fun cdv A outer s H E hr =>
  (n_cons (n_expr (d_call (ok_check_number T) hr (by decide) rfl (T.glo 25) (a_cons (p_var 1) (a_cons (p_gint (T.gint 24)) a_nil)))) (n_cons (n_expr (d_call (ok_check_number T) hr (by decide) rfl (T.glo 25) (a_cons (p_var 2) (a_cons (p_gint (T.gint 26)) a_nil)))) (n_cons (n_not (t_bool (w_or (t_not (t_of (d_callB call_isi (isi_ok (T.isi 21)) bt_isinstance rfl (T.free 20) (a_cons (p_var 3) (a_cons (d_bty rfl (T.free 27) bt_str) a_nil))))) (w_or1 (t_notInA (hu_of hr) (p_var 3) (p_gtup (T.gtup 28 29))))))) (n_cons (n_expr (d_call (ok_check_number T) hr (by decide) rfl (T.glo 25) (a_cons (p_var 4) (a_cons (p_var 2) a_nil)))) (n_cons (n_expr (d_call (ok_check_number T) hr (by decide) rfl (T.glo 25) (a_cons (p_var 5) (a_cons (p_var 2) a_nil)))) (n_cons (n_not (t_bool (w_or (t_not (t_of (d_callB call_isi (isi_ok (T.isi 21)) bt_isinstance rfl (T.free 20) (a_cons (p_var 6) (a_cons (d_bty rfl (T.free 27) bt_str) a_nil))))) (w_or1 (t_notInA (hu_of hr) (p_var 6) (p_gtup (T.gtup 30 31))))))) (n_cons (n_expr (d_call (ok_check_hosts T) hr (by decide) rfl (T.glo 44) (a_cons (p_var 7) (a_cons (p_var 1) a_nil)))) (n_cons (p_nfld "Ring" (T.cls 45) (T.noat 46) (d_tup (a_cons (p_var 1) (a_cons (p_var 2) (a_cons (p_var 4) (a_cons (p_var 5) a_nil)))))) (n_cons (p_nfld "Ring" (T.cls 45) (T.noat 47) (d_tup (a_cons (p_var 3) (a_cons (p_var 6) a_nil)))) (n_cons (p_nfld "Ring" (T.cls 45) (T.noat 48) (p_var 7)) (n_cons (p_nfld "Ring" (T.cls 45) (T.noat 49) (d_frz (f_dc (own := [("name", 8), ("rack", 9), ("marks", 10)]) rfl rfl sc_Ring___init__.nd (i_seq (p_var 7)) (blkOk_by rfl) (ct_tup (by decide) rfl) (fun _ _ _ _ _ => (p_ctup 3 sc_Ring___init__.nd (nm_cons 8 (nm_cons 9 (nm_cons 10 nm_nil))))) (fun _ _ _ _ _ => pts_yes) (fun _ _ _ _ _ => (p_var 8)) (fun _ _ _ _ _ => (p_var 9))))) (n_cons (p_nfld "Ring" (T.cls 45) (T.noat 50) (d_frz (f_bltF cr_sortZ bt_sorted rfl (T.free 15) (a_cons (d_frz (f_lc2 (own := [("name", 8), ("rack", 9), ("marks", 10), ("mark", 11)]) rfl rfl sc_Ring___init__.nd (i_seq (p_var 7)) (blkOk_by rfl) (by decide) (ct_tup (by decide) rfl) (ct_nm (by decide)) (fun _ _ _ _ _ => (p_ctup 3 sc_Ring___init__.nd (nm_cons 8 (nm_cons 9 (nm_cons 10 nm_nil))))) (fun _ _ _ _ _ => pts_yes) (fun _ _ _ _ _ => (i_seq (p_var 10))) (fun _ _ _ _ _ => (p_cnm 11 sc_Ring___init__.nd)) (fun _ _ _ _ _ => pts_yes) (fun _ _ _ _ _ => (d_tup (a_cons (p_var 11) (a_cons (p_var 8) a_nil)))))) a_nil)))) n_nil))))))))))))
theorem ok_written (T : TxZ w K mg) : DfZ P w K mg base 1 d_written ps_written (spM K u_written) := dfz_M (T.fun_ 19) sc_written rfl rfl (by decide) (fun fd F => F.bindsN fun _ _ _ _ _ _ us hl => match us, hl with | [_], _ => rfl) fun cdv A outer s H E hr =>
  (s_cons (s_if (t_bool (w_or (t_not (t_lele d_int (d_callB call_len len_ok bt_len rfl (T.free 0) (a_cons (p_var 0) a_nil)) (p_gint (T.gint 53)))) (w_or1 (t_not (t_of (d_callB (cr_all rfl) all_ok bt_all rfl (T.free 37) (a_cons (d_frz (f_lc (own := [("sign", 1)]) rfl rfl sc_written.nd (i_seq (p_var 0)) (blkOk_by rfl) (ct_nm (by decide)) (fun _ _ _ _ _ => (p_cnm 1 sc_written.nd)) (fun _ _ _ _ _ => pts_yes) (fun _ _ _ _ _ => (d_inA (hu_of hr) (p_var 1) (p_gstr (T.gstr 36)))))) a_nil))))))) (s_one (s_ret d_non)) s_nil) (s_one (s_ret (d_if (t_bool (w_and (t_eq (hu_of hr) (d_idx (p_var 0) d_int) d_str) (w_and1 (t_gt (d_callB call_len len_ok bt_len rfl (T.free 0) (a_cons (p_var 0) a_nil)) d_int)))) d_non (d_callT (CallR.or call_int1 call_int_str) int_okC bt_int rfl (T.free 5) (a_cons (p_var 0) a_nil))))))
theorem ok_host_of (T : TxZ w K mg) : DfZ P w K mg base 2 d_host_of ps_host_of (spM K u_host_of) := dfz_M (T.fun_ 20) sc_host_of rfl rfl (by decide) (fun fd F => F.bindsN fun _ _ _ _ _ _ us hl => match us, hl with | [_], _ => rfl) fun cdv A outer s H E hr =>
  (s_cons (p_set 1 sc_host_of.nd (d_frz (f_split (p_var 0) d_str))) (s_cons (s_if (t_bool (w_or (t_ne (hu_of hr) (d_idx (p_var 1) d_int) d_str) (w_or1 (t_lt (d_callB call_len len_ok bt_len rfl (T.free 0) (a_cons (p_var 1) a_nil)) d_int)))) (s_one (s_ret d_non)) s_nil) (s_one (s_ret (d_tup (a_cons (d_idx (p_var 1) d_int) (a_cons (d_idx (p_var 1) d_int) (a_cons (d_callT call_tuple_of tuple_ok bt_tuple rfl (T.free 16) (a_cons (d_frz (f_lc (own := [("word", 2)]) rfl rfl sc_host_of.nd (i_seq (d_frz (f_sl (p_var 1) (o_some d_int) o_none))) (blkOk_by rfl) (ct_nm (by decide)) (fun _ _ _ _ _ => (p_cnm 2 sc_host_of.nd)) (fun _ _ _ _ _ => pts_yes) (fun _ _ _ _ _ => (d_call (ok_written T) hr (by decide) rfl (T.glo 54) (a_cons (p_var 2) a_nil))))) a_nil)) a_nil))))))))
theorem ok_Ring_read (T : TxZ w K mg) : DfZ P w K mg base 7 d_Ring_read ps_Ring_read (spM K u_Ring_read) := dfz_M (T.fun_ 21) sc_Ring_read rfl rfl (by decide) (fun fd F => F.bindsN fun _ _ _ _ _ _ us hl => match us, hl with | [_, _], _ => rfl) fun cdv A outer s H E hr =>
  (s_cons (s_if (t_not (t_of (d_callB call_isi (isi_ok (T.isi 21)) bt_isinstance rfl (T.free 20) (a_cons (p_var 1) (a_cons (d_bty rfl (T.free 27) bt_str) a_nil))))) (s_one s_die) s_nil) (s_cons (s_asg (d_frz (f_split (p_var 1) d_str)) (g_star (i := 1) (n := 2) rfl (gs_cons (p_nm 2 sc_Ring_read.nd) (pgs_star (gs_cons (p_nm 3 sc_Ring_read.nd) gs_nil))))) (s_cons (p_set 4 sc_Ring_read.nd (d_frz (f_split (p_var 2) d_str))) (s_cons (p_set 5 sc_Ring_read.nd (d_callT call_tuple_of tuple_ok bt_tuple rfl (T.free 16) (a_cons (d_frz (f_lc (own := [("row", 6)]) rfl rfl sc_Ring_read.nd (i_seq (p_var 3)) (blkOk_by rfl) (ct_nm (by decide)) (fun _ _ _ _ _ => (p_cnm 6 sc_Ring_read.nd)) (fun _ _ _ _ _ => pts_yes) (fun _ _ _ _ _ => (d_call (ok_host_of T) hr (by decide) rfl (T.glo 55) (a_cons (p_var 6) a_nil))))) a_nil))) (s_cons (s_if (t_bool (w_or (t_ne (hu_of hr) (d_callB call_len len_ok bt_len rfl (T.free 0) (a_cons (p_var 4) a_nil)) (p_gint (T.gint 56))) (w_or (t_ne (hu_of hr) (d_idx (p_var 4) d_int) d_str) (w_or1 (t_inA (hu_of hr) d_non (p_var 5)))))) (s_one s_die) s_nil) (s_cons (s_asg (p_var 4) (g_seq (n := 7) rfl (gs_cons (p_nm 7 sc_Ring_read.nd) (gs_cons (p_nm 8 sc_Ring_read.nd) (gs_cons (p_nm 9 sc_Ring_read.nd) (gs_cons (p_nm 10 sc_Ring_read.nd) (gs_cons (p_nm 11 sc_Ring_read.nd) (gs_cons (p_nm 12 sc_Ring_read.nd) (gs_cons (p_nm 13 sc_Ring_read.nd) gs_nil))))))) (gsLen1 (gsLen1 (gsLen1 (gsLen1 (gsLen1 (gsLen1 (gsLen1 gsLen0))))))))) (s_cons (p_try (s_one (p_set 14 sc_Ring_read.nd (d_frz (f_cls (i := 0) rfl (vis_of rfl) (ok_Ring___init__ T) hr (by decide) (T.mkr 51) (a_cons (d_call (ok_written T) hr (by decide) rfl (T.glo 54) (a_cons (p_var 8) a_nil)) (a_cons (d_call (ok_written T) hr (by decide) rfl (T.glo 54) (a_cons (p_var 9) a_nil)) (a_cons (p_var 10) (a_cons (d_call (ok_written T) hr (by decide) rfl (T.glo 54) (a_cons (p_var 11) a_nil)) (a_cons (d_call (ok_written T) hr (by decide) rfl (T.glo 54) (a_cons (p_var 12) a_nil)) (a_cons (p_var 13) (a_cons (p_var 5) a_nil)))))))))))) (s_one (s_ret (p_var 14))))))))))
theorem ok__law_sheet (T : TxZ w K mg) : DfZ P w K mg base 1 d__law_sheet ps__law_sheet (spM K u__law_sheet) := dfz_M (T.fun_ 22) sc__law_sheet rfl rfl (by decide) (fun fd F => F.bindsN fun _ _ _ _ _ _ us hl => match us, hl with | [_], _ => rfl) fun cdv A outer s H E hr =>
  (s_cons (s_asg (p_var 0) (g_seq (n := 7) rfl (gs_cons (p_nm 1 sc__law_sheet.nd) (gs_cons (p_nm 2 sc__law_sheet.nd) (gs_cons (p_nm 3 sc__law_sheet.nd) (gs_cons (p_nm 4 sc__law_sheet.nd) (gs_cons (p_nm 5 sc__law_sheet.nd) (gs_cons (p_nm 6 sc__law_sheet.nd) (gs_cons (p_nm 7 sc__law_sheet.nd) gs_nil))))))) (gsLen1 (gsLen1 (gsLen1 (gsLen1 (gsLen1 (gsLen1 (gsLen1 gsLen0))))))))) (s_cons (p_own 8 sc__law_sheet.nd (f_lst (a_cons (d_join d_str (d_frz (f_lst (a_cons d_str (a_cons (d_callT (CallR.or call_str_int SkE.call_str_str) str_ok bt_str rfl (T.free 27) (a_cons (p_var 1) a_nil)) (a_cons (d_callT (CallR.or call_str_int SkE.call_str_str) str_ok bt_str rfl (T.free 27) (a_cons (p_var 2) a_nil)) (a_cons (p_var 3) (a_cons (d_callT (CallR.or call_str_int SkE.call_str_str) str_ok bt_str rfl (T.free 27) (a_cons (p_var 4) a_nil)) (a_cons (d_callT (CallR.or call_str_int SkE.call_str_str) str_ok bt_str rfl (T.free 27) (a_cons (p_var 5) a_nil)) (a_cons (p_var 6) a_nil)))))))))) a_nil))) (s_cons (s_for (passes_of rfl) rfl (i_seq (p_var 7)) (g_seq (n := 3) rfl (gs_cons (p_nm 9 sc__law_sheet.nd) (gs_cons (p_nm 10 sc__law_sheet.nd) (gs_cons (p_nm 11 sc__law_sheet.nd) gs_nil))) (gsLen1 (gsLen1 (gsLen1 gsLen0)))) (s_one (p_app 8 (d_join d_str (d_addA (d_frz (f_lst (a_cons d_str (a_cons (p_var 9) (a_cons (p_var 10) a_nil))))) (d_frz (f_lc (own := [("_law_spot", 12)]) rfl rfl sc__law_sheet.nd (i_seq (p_var 11)) (blkOk_by rfl) (ct_nm (by decide)) (fun _ _ _ _ _ => (p_cnm 12 sc__law_sheet.nd)) (fun _ _ _ _ _ => pts_yes) (fun _ _ _ _ _ => (d_callT (CallR.or call_str_int SkE.call_str_str) str_ok bt_str rfl (T.free 27) (a_cons (p_var 12) a_nil)))))))))) (s_one (s_frz1 (i := 8) (s_ret (d_join d_str (p_var 8))))))))
theorem ok__law_made (T : TxZ w K mg) : DfZ P w K mg base 8 d__law_made ps__law_made (spM K u__law_made) := dfz_M (T.fun_ 23) sc__law_made rfl rfl (by decide) (fun fd F => F.bindsN fun _ _ _ _ _ _ us hl => match us, hl with | [_, _], _ => rfl) fun cdv A outer s H E hr =>
  (s_cons (p_set 2 sc__law_made.nd (d_call (ok__law_dip T) hr (by decide) rfl (T.glo 6) (a_cons (p_var 0) (a_cons d_int a_nil)))) (s_cons (s_asg (p_var 1) (g_seq (n := 7) rfl (gs_cons (p_nm 3 sc__law_made.nd) (gs_cons (p_nm 4 sc__law_made.nd) (gs_cons (p_nm 5 sc__law_made.nd) (gs_cons (p_nm 6 sc__law_made.nd) (gs_cons (p_nm 7 sc__law_made.nd) (gs_cons (p_nm 8 sc__law_made.nd) (gs_cons (p_nm 9 sc__law_made.nd) gs_nil))))))) (gsLen1 (gsLen1 (gsLen1 (gsLen1 (gsLen1 (gsLen1 (gsLen1 gsLen0))))))))) (s_cons (s_if (t_eq (hu_of hr) (p_var 2) d_int) (s_one (s_ret (d_frz (f_make (ok_Ring___init__ T) hr (by decide) (T.mkr 51) rfl (T.glo 52) (a_cons (p_var 3) (a_cons (p_var 4) (a_cons (p_var 5) (a_cons (p_var 6) (a_cons (p_var 7) (a_cons (p_var 8) (a_cons (p_var 9) a_nil))))))))))) s_nil) (s_cons (s_if (t_eq (hu_of hr) (p_var 2) d_int) (s_one (s_ret (d_frz (f_makeK (ok_Ring___init__ T) hr (by decide) (T.mkr 51) (fun fd F => kwz (ps := ps_Ring___init__) (ks := ["hosts", "pending", "read", "write", "spread", "factor", "points"]) (n := 1) (ix := [6, 5, 4, 3, 2, 1, 0]) F fun _ _ _ _ _ _ us ws h1 h2 => match us, ws, h1, h2 with | [_], [_, _, _, _, _, _, _], _, _ => rfl) rfl (T.glo 52) (k_cons (p_var 9) (k_cons (p_var 8) (k_cons (p_var 7) (k_cons (p_var 6) (k_cons (p_var 5) (k_cons (p_var 4) (k_cons (p_var 3) k_nil))))))) (len_cons (len_cons (len_cons (len_cons (len_cons (len_cons (len_cons len_nil))))))))))) s_nil) (s_one (s_ret (d_cm (d := d_Ring_read) "Ring" (d_ty rfl (T.glo 52)) (T.cmR 58) (T.cmM 58) (ok_Ring_read T) hr (by decide) (a_cons (d_call (ok__law_sheet T) hr (by decide) rfl (T.glo 57) (a_cons (p_var 1) a_nil)) a_nil))))))))
theorem ok__law_other_crew (T : TxZ w K mg) : DfZ P w K mg base 2 d__law_other_crew ps__law_other_crew (spM K u__law_other_crew) := dfz_M (T.fun_ 24) sc__law_other_crew rfl rfl (by decide) (fun fd F => F.bindsN fun _ _ _ _ _ _ us hl => match us, hl with | [_, _, _], _ => rfl) fun cdv A outer s H E hr =>
  (s_cons (p_par2 3 4 sc__law_other_crew.nd (x_val (d_call (ok__law_dip T) hr (by decide) rfl (T.glo 6) (a_cons (p_var 0) (a_cons (d_callB call_len len_ok bt_len rfl (T.free 0) (a_cons (p_var 2) a_nil)) a_nil))) (x_val (d_call (ok__law_dip T) hr (by decide) rfl (T.glo 6) (a_cons (p_var 0) (a_cons d_int a_nil))) x_nil))) (s_cons (s_asg (d_idx (p_var 2) (p_var 3)) (g_seq (n := 3) rfl (gs_cons (p_nm 5 sc__law_other_crew.nd) (gs_cons (p_nm 6 sc__law_other_crew.nd) (gs_cons (p_nm 7 sc__law_other_crew.nd) gs_nil))) (gsLen1 (gsLen1 (gsLen1 gsLen0))))) (s_cons (p_set 8 sc__law_other_crew.nd (d_frz (f_lst a_nil))) (s_cons (s_for (passes_of rfl) rfl (i_seq (p_var 2)) (p_nm 9 sc__law_other_crew.nd) (s_one (p_set 8 sc__law_other_crew.nd (d_addA (p_var 8) (d_frz (f_callT call_list_of list_ok bt_list rfl (T.free 60) (a_cons (d_idx (p_var 9) d_int) a_nil))))))) (s_cons (p_set 10 sc__law_other_crew.nd (d_frz (f_lst (a_cons d_int (a_cons (d_sub (p_var 1) d_int) (a_cons (d_fdiv (p_var 1) d_int) (a_cons (d_add (d_idx (p_var 7) d_int) d_int) (a_cons (d_sub (d_idx (p_var 7) (d_neg d_int)) d_int) a_nil)))))))) (s_cons (s_ownLc (own := [("_law_spot", 12)]) (i := 11) rfl rfl sc__law_other_crew.nd rfl rfl rfl (i_seq (p_var 10)) (blkOk_by rfl) (ct_nm (by decide)) (fun _ _ _ _ _ => (p_cnm 12 sc__law_other_crew.nd)) (fun _ _ _ _ _ => (pts_t (t_bool (w_and (t_lelt d_int (p_var 12) (p_var 1)) (w_and1 (t_notInA (hu_of hr) (p_var 12) (p_var 8))))))) (fun _ _ _ _ _ => (p_var 12))) (s_cons (s_if (t_eq (hu_of hr) (p_var 4) d_int) (s_one (s_ret (d_add (d_sl (p_var 2) (o_some (p_var 3)) o_none) (d_sl (p_var 2) o_none (o_some (p_var 3)))))) s_nil) (s_cons (s_if (t_eq (hu_of hr) (p_var 4) d_int) (s_one (s_ret (d_revT (p_var 2)))) s_nil) (s_cons (s_if (t_bool (w_and (t_eq (hu_of hr) (p_var 4) d_int) (w_and1 (t_gt (d_callB call_len len_ok bt_len rfl (T.free 0) (a_cons (p_var 2) a_nil)) d_int)))) (s_one (s_ret (d_add (d_sl (p_var 2) o_none (o_some (p_var 3))) (d_sl (p_var 2) (o_some (d_add (p_var 3) d_int)) o_none)))) s_nil) (s_cons (s_if (t_eq (hu_of hr) (p_var 4) d_int) (s_one (s_ret (d_add (d_add (d_sl (p_var 2) o_none (o_some (p_var 3))) (d_tup (a_cons (d_tup (a_cons (p_var 5) (a_cons (d_add (d_sl (p_var 6) o_none (o_some d_int)) d_str) (a_cons (p_var 7) a_nil)))) a_nil))) (d_sl (p_var 2) (o_some (d_add (p_var 3) d_int)) o_none)))) s_nil) (s_cons (s_if (t_bool (w_and (t_eq (hu_of hr) (p_var 4) d_int) (w_and1 (t_notInA (hu_of hr) (d_add (d_sl (p_var 5) o_none (o_some d_int)) d_str) (d_frz (f_lc (own := [("_law_each", 9)]) rfl rfl sc__law_other_crew.nd (i_seq (p_var 2)) (blkOk_by rfl) (ct_nm (by decide)) (fun _ _ _ _ _ => (p_cnm 9 sc__law_other_crew.nd)) (fun _ _ _ _ _ => pts_yes) (fun _ _ _ _ _ => (d_idx (p_var 9) d_int)))))))) (s_one (s_ret (d_add (d_add (d_sl (p_var 2) o_none (o_some (p_var 3))) (d_tup (a_cons (d_tup (a_cons (d_add (d_sl (p_var 5) o_none (o_some d_int)) d_str) (a_cons (p_var 6) (a_cons (p_var 7) a_nil)))) a_nil))) (d_sl (p_var 2) (o_some (d_add (p_var 3) d_int)) o_none)))) s_nil) (s_cons (s_frz1 (i := 11) (s_if (t_bool (w_or (t_eq (hu_of hr) (p_var 11) (d_frz (f_lst a_nil))) (w_or1 (t_eq (hu_of hr) (d_callB call_len len_ok bt_len rfl (T.free 0) (a_cons (p_var 7) a_nil)) d_int)))) (s_cons (p_set 13 sc__law_other_crew.nd (d_if (t_gt (d_callB call_len len_ok bt_len rfl (T.free 0) (a_cons (p_var 7) a_nil)) d_int) (d_sl (p_var 7) o_none (o_some (d_neg d_int))) (p_var 7))) (s_one (s_ret (d_add (d_add (d_sl (p_var 2) o_none (o_some (p_var 3))) (d_tup (a_cons (d_tup (a_cons (p_var 5) (a_cons (p_var 6) (a_cons (p_var 13) a_nil)))) a_nil))) (d_sl (p_var 2) (o_some (d_add (p_var 3) d_int)) o_none))))) s_nil)) (s_cons (s_if (t_eq (hu_of hr) (p_var 4) d_int) (s_one (s_ret (d_add (d_add (d_sl (p_var 2) o_none (o_some (p_var 3))) (d_tup (a_cons (d_tup (a_cons (p_var 5) (a_cons (p_var 6) (a_cons (d_callT call_tuple_of tuple_ok bt_tuple rfl (T.free 16) (a_cons (d_frz (f_bltF cr_sortT bt_sorted rfl (T.free 15) (a_cons (d_add (p_var 7) (d_tup (a_cons (d_idx (p_var 11) d_int) a_nil))) a_nil))) a_nil)) a_nil)))) a_nil))) (d_sl (p_var 2) (o_some (d_add (p_var 3) d_int)) o_none)))) s_nil) (s_one (s_ret (d_add (d_add (d_sl (p_var 2) o_none (o_some (p_var 3))) (d_tup (a_cons (d_tup (a_cons (p_var 5) (a_cons (p_var 6) (a_cons (d_callT call_tuple_of tuple_ok bt_tuple rfl (T.free 16) (a_cons (d_frz (f_bltF cr_sortT bt_sorted rfl (T.free 15) (a_cons (d_add (d_sl (p_var 7) (o_some d_int) o_none) (d_tup (a_cons (d_idx (p_var 11) (d_neg d_int)) a_nil))) a_nil))) a_nil)) a_nil)))) a_nil))) (d_sl (p_var 2) (o_some (d_add (p_var 3) d_int)) o_none)))))))))))))))))
theorem ok__law_other (T : TxZ w K mg) : DfZ P w K mg base 8 d__law_other ps__law_other (spM K u__law_other) := dfz_M (T.fun_ 25) sc__law_other rfl rfl (by decide) (fun fd F => F.bindsN fun _ _ _ _ _ _ us hl => match us, hl with | [_, _], _ => rfl) fun cdv A outer s H E hr =>
  (s_cons (s_asg (p_var 1) (g_seq (n := 7) rfl (gs_cons (p_nm 2 sc__law_other.nd) (gs_cons (p_nm 3 sc__law_other.nd) (gs_cons (p_nm 4 sc__law_other.nd) (gs_cons (p_nm 5 sc__law_other.nd) (gs_cons (p_nm 6 sc__law_other.nd) (gs_cons (p_nm 7 sc__law_other.nd) (gs_cons (p_nm 8 sc__law_other.nd) gs_nil))))))) (gsLen1 (gsLen1 (gsLen1 (gsLen1 (gsLen1 (gsLen1 (gsLen1 gsLen0))))))))) (s_cons (p_set 9 sc__law_other.nd (d_call (ok__law_dip T) hr (by decide) rfl (T.glo 6) (a_cons (p_var 0) (a_cons d_int a_nil)))) (s_cons (s_if (t_eq (hu_of hr) (p_var 9) d_int) (s_one (s_ret (d_call (ok__law_build T) hr (by decide) rfl (T.glo 19) (a_cons (p_var 0) (a_cons (p_var 2) (a_cons d_int (a_cons d_int a_nil))))))) s_nil) (s_cons (s_if (t_eq (hu_of hr) (p_var 9) d_int) (s_one (s_ret (d_addA (d_frz (f_lst (a_cons (d_callB (call_min2 rfl) min2_ok bt_min rfl (T.free 1) (a_cons (d_add (p_var 2) d_int) (a_cons (d_pow d_int d_int) a_nil))) a_nil))) (d_frz (f_sl (p_var 1) (o_some d_int) o_none))))) s_nil) (s_cons (s_if (t_eq (hu_of hr) (p_var 9) d_int) (s_one (s_ret (d_addA (d_frz (f_lst (a_cons (p_var 2) (a_cons (d_callB (call_min2 rfl) min2_ok bt_min rfl (T.free 1) (a_cons (d_add (p_var 3) d_int) (a_cons d_int a_nil))) a_nil)))) (d_frz (f_sl (p_var 1) (o_some d_int) o_none))))) s_nil) (s_cons (s_if (t_eq (hu_of hr) (p_var 9) d_int) (s_one (s_ret (d_addA (d_addA (d_frz (f_sl (p_var 1) o_none (o_some d_int))) (d_frz (f_lst (a_cons (d_if (t_eq (hu_of hr) (p_var 4) d_str) d_str d_str) a_nil)))) (d_frz (f_sl (p_var 1) (o_some d_int) o_none))))) s_nil) (s_cons (s_if (t_eq (hu_of hr) (p_var 9) d_int) (s_one (s_ret (d_addA (d_addA (d_frz (f_sl (p_var 1) o_none (o_some d_int))) (d_frz (f_lst (a_cons (d_add (d_mod (d_callT (CallR.or call_int1 call_int_str) int_okC bt_int rfl (T.free 5) (a_cons (p_var 5) a_nil)) (p_var 3)) d_int) a_nil)))) (d_frz (f_sl (p_var 1) (o_some d_int) o_none))))) s_nil) (s_cons (s_if (t_eq (hu_of hr) (p_var 9) d_int) (s_one (s_ret (d_addA (d_addA (d_frz (f_sl (p_var 1) o_none (o_some d_int))) (d_frz (f_lst (a_cons (d_add (d_mod (d_callT (CallR.or call_int1 call_int_str) int_okC bt_int rfl (T.free 5) (a_cons (p_var 6) a_nil)) (p_var 3)) d_int) a_nil)))) (d_frz (f_sl (p_var 1) (o_some d_int) o_none))))) s_nil) (s_cons (s_if (t_eq (hu_of hr) (p_var 9) d_int) (s_one (s_ret (d_addA (d_frz (f_sl (p_var 1) o_none (o_some d_int))) (d_frz (f_lst (a_cons (d_if (t_eq (hu_of hr) (p_var 7) d_str) d_str d_str) (a_cons (p_var 8) a_nil))))))) s_nil) (s_one (s_ret (d_if (t_eq (hu_of hr) (p_var 9) d_int) (p_var 1) (d_addA (d_frz (f_sl (p_var 1) o_none (o_some d_int))) (d_frz (f_lst (a_cons (d_call (ok__law_other_crew T) hr (by decide) rfl (T.glo 61) (a_cons (p_var 0) (a_cons (p_var 2) (a_cons (p_var 8) a_nil)))) a_nil))))))))))))))))
theorem ok_Ring_spread (T : TxZ w K mg) : DfZ P w K mg base 1 d_Ring_spread ps_Ring_spread (spM K u_Ring_spread) := dfz_M (T.fun_ 26) sc_Ring_spread rfl rfl (by decide) (fun fd F => F.bindsN fun _ _ _ _ _ _ us hl => match us, hl with | [_], _ => rfl) fun cdv A outer s H E hr =>
  (s_one (s_ret (d_idx (d_fld "Ring" (p_var 0) (T.cls 45) (T.noat 47)) d_int)))
theorem ok_Ring_pending (T : TxZ w K mg) : DfZ P w K mg base 1 d_Ring_pending ps_Ring_pending (spM K u_Ring_pending) := dfz_M (T.fun_ 27) sc_Ring_pending rfl rfl (by decide) (fun fd F => F.bindsN fun _ _ _ _ _ _ us hl => match us, hl with | [_], _ => rfl) fun cdv A outer s H E hr =>
  (s_one (s_ret (d_idx (d_fld "Ring" (p_var 0) (T.cls 45) (T.noat 47)) d_int)))
theorem ok_Ring___str__ (T : TxZ w K mg) : DfZ P w K mg base 3 d_Ring___str__ ps_Ring___str__ (spM K u_Ring___str__) := dfz_M (T.fun_ 28) sc_Ring___str__ rfl rfl (by decide) (fun fd F => F.bindsN fun _ _ _ _ _ _ us hl => match us, hl with | [_], _ => rfl) fun cdv A outer s H E hr =>
  (s_cons (s_asg (d_fld "Ring" (p_var 0) (T.cls 45) (T.noat 46)) (g_seq (n := 4) rfl (gs_cons (p_nm 1 sc_Ring___str__.nd) (gs_cons (p_nm 2 sc_Ring___str__.nd) (gs_cons (p_nm 3 sc_Ring___str__.nd) (gs_cons (p_nm 4 sc_Ring___str__.nd) gs_nil)))) (gsLen1 (gsLen1 (gsLen1 (gsLen1 gsLen0)))))) (s_cons (p_set 5 sc_Ring___str__.nd (d_frz (f_lst (a_cons d_str (a_cons (d_callT (CallR.or call_str_int SkE.call_str_str) str_ok bt_str rfl (T.free 27) (a_cons (p_var 1) a_nil)) (a_cons (d_callT (CallR.or call_str_int SkE.call_str_str) str_ok bt_str rfl (T.free 27) (a_cons (p_var 2) a_nil)) (a_cons (d_prop (d := d_Ring_spread) "Ring" (p_var 0) (T.cls 45) (T.prop 63) (ok_Ring_spread T) hr (by decide)) (a_cons (d_callT (CallR.or call_str_int SkE.call_str_str) str_ok bt_str rfl (T.free 27) (a_cons (p_var 3) a_nil)) (a_cons (d_callT (CallR.or call_str_int SkE.call_str_str) str_ok bt_str rfl (T.free 27) (a_cons (p_var 4) a_nil)) (a_cons (d_prop (d := d_Ring_pending) "Ring" (p_var 0) (T.cls 45) (T.prop 64) (ok_Ring_pending T) hr (by decide)) a_nil)))))))))) (s_cons (s_ownLc (own := [("name", 8), ("rack", 9), ("marks", 10)]) (i := 6) rfl rfl sc_Ring___str__.nd rfl rfl rfl (i_seq (d_fld "Ring" (p_var 0) (T.cls 45) (T.noat 48))) (blkOk_by rfl) (ct_tup (by decide) rfl) (fun _ _ _ _ _ => (p_ctup 3 sc_Ring___str__.nd (nm_cons 8 (nm_cons 9 (nm_cons 10 nm_nil))))) (fun _ _ _ _ _ => pts_yes) (fun _ _ _ _ _ => (d_join d_str (d_frz (f_lst (a_cons d_str (a_cons (p_var 8) (a_cons (p_var 9) (a_star (d_frz (f_lc (own := [("mark", 7)]) rfl rfl sc_Ring___str__.nd (i_seq (p_var 10)) (blkOk_by rfl) (ct_nm (by decide)) (fun _ _ _ _ _ => (p_cnm 7 sc_Ring___str__.nd)) (fun _ _ _ _ _ => pts_yes) (fun _ _ _ _ _ => (d_callT (CallR.or call_str_int SkE.call_str_str) str_ok bt_str rfl (T.free 27) (a_cons (p_var 7) a_nil))))) a_nil))))))))) (s_one (s_frz1 (i := 6) (s_ret (d_join d_str (d_frz (f_lst (a_cons (d_join d_str (p_var 5)) (a_star (p_var 6) a_nil)))))))))))
theorem ok_Ring___eq__ (T : TxZ w K mg) : DfZ P w K mg base 6 d_Ring___eq__ ps_Ring___eq__ (spM K u_Ring___eq__) := dfz_M (T.fun_ 29) sc_Ring___eq__ rfl rfl (by decide) (fun fd F => F.bindsN fun _ _ _ _ _ _ us hl => match us, hl with | [_, _], _ => rfl) fun cdv A outer s H E hr =>
  (s_one (s_ret (d_and (d_callB call_isi (isi_ok (T.isi 21)) bt_isinstance rfl (T.free 20) (a_cons (p_var 1) (a_cons (d_ty rfl (T.glo 52)) a_nil))) (d_one (d_eq (hu_of hr) (d_tyM (cr_str (ok_Ring___str__ T) (hr.mono (by decide)) (T.meth 65)) bt_str rfl (T.free 27) (a_cons (p_var 0) a_nil)) (d_tyM (cr_str (ok_Ring___str__ T) (hr.mono (by decide)) (T.meth 65)) bt_str rfl (T.free 27) (a_cons (p_var 1) a_nil)))))))
theorem ok__law_pair_right (T : TxZ w K mg) : DfZ P w K mg base 8 d__law_pair_right ps__law_pair_right (spM K u__law_pair_right) := dfz_M (T.fun_ 30) sc__law_pair_right rfl rfl (by decide) (fun fd F => F.bindsN fun _ _ _ _ _ _ us hl => match us, hl with | [_, _, _], _ => rfl) fun cdv A outer s H E hr =>
  (s_cons (p_set 3 sc__law_pair_right.nd (d_frz (f_lst (a_cons (d_ownAnyE "Ring" (ok_Ring___eq__ T) hr (by decide) (T.meth 67) (T.fact 66 (f := fun K => oeB K "Ring") rfl) (p_var 0) (p_var 1)) (a_cons (d_ownAnyE "Ring" (ok_Ring___eq__ T) hr (by decide) (T.meth 67) (T.fact 66 (f := fun K => oeB K "Ring") rfl) (p_var 1) (p_var 0)) (a_cons (d_ownAnyN "Ring" (ok_Ring___eq__ T) hr (by decide) (T.meth 67) (T.fact 68 (f := fun K => neC K "Ring") rfl) (T.fact 66 (f := fun K => oeB K "Ring") rfl) (p_var 0) (p_var 1)) (a_cons (d_ownAnyN "Ring" (ok_Ring___eq__ T) hr (by decide) (T.meth 67) (T.fact 68 (f := fun K => neC K "Ring") rfl) (T.fact 66 (f := fun K => oeB K "Ring") rfl) (p_var 1) (p_var 0)) a_nil))))))) (s_one (s_ret (d_eq (hu_of hr) (d_bltM (cr_repr (hu_of hr) hr.gd) bt_repr rfl (T.free 69) (a_cons (p_var 3) a_nil)) (d_bltM (cr_repr (hu_of hr) hr.gd) bt_repr rfl (T.free 69) (a_cons (d_frz (f_lst (a_cons (p_var 2) (a_cons (p_var 2) (a_cons (d_not (p_var 2)) (a_cons (d_not (p_var 2)) a_nil)))))) a_nil))))))
theorem ok__law_value (T : TxZ w K mg) : DfZ P w K mg base 3 d__law_value ps__law_value (spM K u__law_value) := dfz_M (T.fun_ 31) sc__law_value rfl rfl (by decide) (fun fd F => F.bindsN fun _ _ _ _ _ _ us hl => match us, hl with | [_], _ => rfl) fun cdv A outer s H E hr =>
  (s_cons (p_set 1 sc__law_value.nd (d_frz (f_lst (a_cons d_non (a_cons d_bl (a_cons d_bl (a_cons d_int (a_cons d_int (a_cons (d_neg d_int) (a_cons d_int (a_cons (d_pow d_int d_int) (a_cons d_str (a_cons d_str (a_cons d_str (a_cons d_str (a_cons (d_tup a_nil) (a_cons (d_tup (a_cons d_int a_nil)) (a_cons (d_frz (f_lst a_nil)) (a_cons (d_frz (f_lst (a_cons d_int a_nil))) (a_cons (d_frz f_dic0) (a_cons (d_frz (f_disp (pps_cons d_str d_int pps_nil))) (a_cons (d_tup (a_cons d_str (a_cons d_non a_nil))) a_nil)))))))))))))))))))))) (s_one (s_ret (d_call (ok__law_of T) hr (by decide) rfl (T.glo 7) (a_cons (p_var 0) (a_cons (d_addA (p_var 1) (d_frz (f_lst (a_cons (d_tup (a_cons d_str (a_cons d_str (a_cons (d_tup (a_cons d_int a_nil)) a_nil)))) (a_cons (d_tup (a_cons (d_tup (a_cons d_str (a_cons d_str (a_cons (d_tup (a_cons d_int a_nil)) a_nil)))) a_nil)) (a_cons (d_frz (f_lst (a_cons d_str (a_cons d_str (a_cons (d_frz (f_lst (a_cons d_int a_nil))) a_nil))))) (a_cons d_str (a_cons d_str a_nil)))))))) a_nil))))))
theorem ok__law_right (T : TxZ w K mg) : DfZ P w K mg base 9 d__law_right ps__law_right (spM K u__law_right) := dfz_M (T.fun_ 32) sc__law_right rfl rfl (by decide) (fun fd F => F.bindsN fun _ _ _ _ _ _ us hl => match us, hl with | [_], _ => rfl) fun cdv A outer s H E hr =>
  (s_cons (p_set 1 sc__law_right.nd (d_call (ok__law_build T) hr (by decide) rfl (T.glo 19) (a_cons (p_var 0) (a_cons (d_call (ok__law_width T) hr (by decide) rfl (T.glo 18) (a_cons (p_var 0) a_nil)) (a_cons (d_call (ok__law_of T) hr (by decide) rfl (T.glo 7) (a_cons (p_var 0) (a_cons (d_frz (f_lst (a_cons d_int (a_cons d_int (a_cons d_int a_nil))))) a_nil))) (a_cons d_int a_nil)))))) (s_cons (p_par2 2 3 sc__law_right.nd (x_val (d_call (ok__law_made T) hr (by decide) rfl (T.glo 59) (a_cons (p_var 0) (a_cons (p_var 1) a_nil))) (x_val (d_call (ok__law_sheet T) hr (by decide) rfl (T.glo 57) (a_cons (p_var 1) a_nil)) x_nil))) (s_cons (s_for (passes_of rfl) rfl (i_rng1 rfl (T.free 3) (a_cons d_int a_nil)) (p_nm 4 sc__law_right.nd) (s_cons (p_set 5 sc__law_right.nd (d_call (ok__law_other T) hr (by decide) rfl (T.glo 62) (a_cons (p_var 0) (a_cons (p_var 1) a_nil)))) (s_cons (p_set 6 sc__law_right.nd (d_call (ok__law_made T) hr (by decide) rfl (T.glo 59) (a_cons (p_var 0) (a_cons (p_var 5) a_nil)))) (s_one (s_if (t_bool (w_or (t_not (t_of (d_call (ok__law_pair_right T) hr (by decide) rfl (T.glo 70) (a_cons (p_var 2) (a_cons (p_var 6) (a_cons (d_eq (hu_of hr) (d_call (ok__law_sheet T) hr (by decide) rfl (T.glo 57) (a_cons (p_var 5) a_nil)) (p_var 3)) a_nil)))))) (w_or1 (t_ne (hu_of hr) (d_tyM (cr_str (ok_Ring___str__ T) (hr.mono (by decide)) (T.meth 65)) bt_str rfl (T.free 27) (a_cons (p_var 2) a_nil)) (p_var 3))))) (s_one (s_ret d_bl)) s_nil))))) (s_cons (s_for (passes_of rfl) rfl (i_seq (d_frz (f_lst (a_cons (p_var 3) (a_cons (p_var 1) (a_cons (d_callT call_tuple_of tuple_ok bt_tuple rfl (T.free 16) (a_cons (p_var 1) a_nil)) (a_cons (d_idx (p_var 1) d_int) (a_cons (d_callB call_len len_ok bt_len rfl (T.free 0) (a_cons (d_idx (p_var 1) d_int) a_nil)) (a_cons d_non (a_cons d_bl (a_cons (d_call (ok__law_value T) hr (by decide) rfl (T.glo 71) (a_cons (p_var 0) a_nil)) a_nil))))))))))) (p_nm 7 sc__law_right.nd) (s_one (s_if (t_not (t_of (d_call (ok__law_pair_right T) hr (by decide) rfl (T.glo 70) (a_cons (p_var 2) (a_cons (p_var 7) (a_cons d_bl a_nil)))))) (s_one (s_ret d_bl)) s_nil))) (s_one (s_ret d_bl))))))
theorem ok__law_filled (T : TxZ w K mg) : DfZ P w K mg base 1 d__law_filled ps__law_filled (spF K u__law_filled) := dfz_F (T.fun_ 33) sc__law_filled rfl rfl (by decide) (fun fd F => F.bindsN fun _ _ _ _ _ _ us hl => match us, hl with | [_, _], _ => rfl) fun cdv A outer s H E hr =>
  (s_cons (p_set 2 sc__law_filled.nd (d_if (t_lt (p_var 1) (d_callB call_len len_ok bt_len rfl (T.free 0) (a_cons (p_var 0) a_nil))) (d_idx (p_var 0) (p_var 1)) d_int)) (s_cons (p_set 3 sc__law_filled.nd (d_add d_int (d_mul d_int (p_var 1)))) (s_cons (s_for (passes_of rfl) rfl (i_seq (d_frz (f_sl (p_var 0) o_none (o_some d_int)))) (p_nm 4 sc__law_filled.nd) (s_one (p_set 3 sc__law_filled.nd (d_mod (d_callT (CallR.or call_int1 call_int_str) int_okC bt_int rfl (T.free 5) (a_cons (d_add (d_add (d_mul (p_var 3) d_int) (d_mul (p_var 4) d_int)) d_int) a_nil)) d_int)))) (s_one (s_rto (f_lst (a_cons (d_if (t_bool (w_or (t_lt (p_var 2) d_int) (w_or1 (t_ge (p_var 2) (d_pow d_int d_int))))) (d_callB call_abs abs_ok bt_abs rfl (T.free 72) (a_cons (p_var 2) a_nil)) d_int) (a_cons (d_mod (d_callT (CallR.or call_int1 call_int_str) int_okC bt_int rfl (T.free 5) (a_cons (d_add (d_add (d_mul (p_var 3) d_int) (d_mul (p_var 2) (p_var 2))) (d_mul d_int (p_var 1))) a_nil)) d_int) (a_cons d_int a_nil)))))))))
theorem ok_law (T : TxZ w K mg) : DfZ P w K mg base 10 d_law ps_law (spM K u_law) := dfz_M (T.fun_ 34) sc_law rfl rfl (by decide) (fun fd F => F.bindsN fun _ _ _ _ _ _ us hl => match us, hl with | [_], _ => rfl) fun cdv A outer s H E hr =>
  (s_one (s_ret (d_callB (cr_all rfl) all_ok bt_all rfl (T.free 37) (a_cons (d_frz (f_lc (own := [("_law_turn", 1)]) rfl rfl sc_law.nd (i_rng1 rfl (T.free 3) (a_cons (d_callB (call_max2 rfl) max2_ok bt_max rfl (T.free 2) (a_cons d_int (a_cons (d_callB (call_min2 rfl) min2_ok bt_min rfl (T.free 1) (a_cons (d_callB call_len len_ok bt_len rfl (T.free 0) (a_cons (p_var 0) a_nil)) (a_cons d_int a_nil))) a_nil))) a_nil)) (blkOk_by rfl) (ct_nm (by decide)) (fun _ _ _ _ _ => (p_cnm 1 sc_law.nd)) (fun _ _ _ _ _ => pts_yes) (fun _ _ _ _ _ => (d_call (ok__law_right T) hr (by decide) rfl (T.glo 74) (a_cons (d_cel (f_call (ok__law_filled T) hr (by decide) rfl (T.glo 73) (a_cons (p_var 0) (a_cons (p_var 1) a_nil)))) a_nil))))) a_nil))))
end
end K08
end Z

set_option Elab.async false
set_option linter.all false
set_option maxRecDepth 100000
set_option maxHeartbeats 0
namespace Z
namespace K08
open PySem PySem.Spec PyProof.Rows L2
theorem facts {P : Program} {w : World} {K : PySem.W.Frag} {h : Heap} {mg : PySem.Str → Option Value} {f : Addr} (X : K.In h) (G : h.Ns mainGlobals mg) (hfa : mg ("law" : PySem.Str) = some (.ref f)) (c : SaysZ exF fnL K) :
    noLstB K = true ∧ ∃ fd : FuncData, (∀ (s : Shared) (u : Value), BindsTo s fd ⟨[u], []⟩ [("_law_script", u)]) ∧ ∀ base : Heap, K.In base → base.Ns mainGlobals mg → FnZ P w K mg base NoX 10 f fd ["_law_script"] (spM K u_law) := by
  have T : TxZ w K mg := ⟨c, h, X, G⟩
  have e := hfa.symm.trans (T.glo 75)
  cases e
  exact ⟨T.fact 76 (f := noLstB) rfl, law_fd (T.fun_ 34 (d := d_law)) rfl rfl (fun _ _ _ _ _ _ us hl => match us, hl with | [_], _ => rfl) fun base => ok_law T⟩
end K08
end Z
open PySem PySem.W PySem.Calls PyProof.Rows
theorem PySem.Challenge.cw_ringshares_k08_rings_compared_holds : PySem.Challenge.rw_ringshares_k08_rings_compared.Holds := by
  w_on; o_law
  refine HandSHeadRun.head_any (r := OpenLaw.row PySem.Challenge.rw_ringshares_k08_rings_compared) (q := view (OpenLaw.row PySem.Challenge.rw_ringshares_k08_rings_compared).prog [59]) (H := Z.K08.hk) (ob := Z.K08.ob) (M := 20000) (loose := Z.K08.names) (d := HandSHeadRun.topDef (OpenLaw.row PySem.Challenge.rw_ringshares_k08_rings_compared).prog 59) (kwd := []) Z.K08.ob_eq
    (by kernel_rfl) (fun s => by kernel_rfl) Z.K08.run (by kernel_rfl) (by kernel_rfl) (by kernel_rfl) (by rfl) (by first | assumption | decide +kernel) (by decide +kernel) ⟨rfl, rfl, rfl, rfl, rfl, by decide +kernel⟩ ?hw ?hc
  case hw => w_witness2
  case hc =>
    refine Z.walk_Z (l := PySem.Challenge.rw_ringshares_k08_rings_compared) (n := 63) (k := 10) (x := "_law_script") (md := Z.K08.u_law) rfl (by decide) (by kernel_rfl) ⟨rfl, by decide, by decide⟩ ?F Z.K08.plain
    intro w mg fa h Y G hmg0
    obtain ⟨K, KX, c⟩ := Y
    have hmg : mg ("law" : PySem.Str) = some (.ref fa) := by
      have e : (HandSHeadRun.topDef (OpenLaw.row PySem.Challenge.rw_ringshares_k08_rings_compared).prog 59).name = ("law" : PySem.Str) := by kernel_rfl
      rw [← e]
      exact hmg0
    obtain ⟨n0, fd, hb, hF⟩ := Z.K08.facts (P := (PySem.Challenge.rw_ringshares_k08_rings_compared).prog) (w := w) KX G hmg c
    exact ⟨K, fd, KX, n0, hb, hF⟩

