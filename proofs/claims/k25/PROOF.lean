import PyProof.Rows.All
import Wide.All
import OpenK.AllK
import Wide.FinOn
import HandS.Base
import HandS.Call
import HandS.Exc
import HandS.Defaults
import HandS.Property
import HandS.ClsMeth
import HandS.HeadHook1
import HandS.HeadHook2
import KE.KStateDown
import HandS.Words
import HandS.Head0
import HandS.Head1
import HandS.Head2
import HandS.ForMost
import HandS.Wide
import HandS.TupAny
import HandS.Flow
import HandS.Star
import HandS.IsInst
import HandS.SortInts
import HandS.RaiseMore
import HandS.Conv
import HandS.NoneIn
import HandS.Style
import HandS.Zip
import HandS.Iter
import HandS.DictComp
import HandS.MakeKw
import HandS.SetKeys
import KE.KSortTup
import HandS.Sort
import HandS.SortOrd
import HandS.SortRule
import PyProof.TupleCall
import KE.KDictList
import KE.KDictSum
import HandS.More
import PyProof.EnumMake
import PyProof.Draws
import KE.GoesMore
import HandS.RevTup
import PyProof.CallStr
import PyProof.Conv_bool
import KE.KFmtOwn
import HandS.Small
import HandS.OwnEq
import PyProof.P3In
import KE.KUnpack
import KE.KUnpackStar
import PyProof.DictCompW
import HandS.AnyAll
import HandS.Ends
import HandS.HeadEnd
import HandS.EndBits
import HandS.Dict
import KE.KRevSl
import HandS.List
import HandS.Strs
import HandS.SetFor
import HandS.ListItems
import HandS.ExcValue
import KE.KItemsList
import PyProof.FactsDict
import PyProof.MeetsSeq2
import HandS.TupSets
import PyProof.Rows.SortShellAny
import Lean
import PySem.Challenge.RW_ringshares_k25_whole_moves_counted
set_option Elab.async false
set_option linter.all false
set_option maxRecDepth 100000
set_option maxHeartbeats 4000000
namespace Z
open PySem PySem.Spec PyProof.Rows L2
/-! ### where a def stands -/
inductive At where
  | g (x : Str) | m (c x : Str) | p (c x : Str) | cm (c x : Str)
def recAd (K : PySem.W.Frag) (T : String) (p : Addr) : Addr := match PySem.W.recIn K p T with
  | some (.ref f :: _) => f
  | _ => 0
def recB (K : PySem.W.Frag) (T : String) (p : Addr) : Bool := match PySem.W.recIn K p T with
  | some (.ref _ :: _) => true
  | _ => false
theorem recB_ok {K : PySem.W.Frag} {T : String} {p : Addr} (h : recB K T p = true) : ∃ rest, PySem.W.recIn K p T = some (.ref (recAd K T p) :: rest) := by
  unfold recB at h
  unfold recAd
  generalize PySem.W.recIn K p T = q at h ⊢
  split at h
  · exact ⟨_, rfl⟩
  · cases h
def At.ad (K : PySem.W.Frag) : At → Addr
  | .g x => He.ga K x
  | .m c x => He.ma K (He.ga K c) x
  | .p c x => recAd K "property" (He.ma K (He.ga K c) x)
  | .cm c x => recAd K "classmethod" (He.ma K (He.ga K c) x)
/-- one def of the text -/
structure DefZ where
  at_ : At
  name : Str
  qual : Str
  params : Arguments
  body : List Stmt
  scope : Scope
  dfl : List He.Dv
def DefZ.ad (K : PySem.W.Frag) (d : DefZ) : Addr := d.at_.ad K
def DefZ.dvs (K : PySem.W.Frag) (d : DefZ) : List V := d.dfl.map (He.Dv.v K)
abbrev FnOb : Type := Option (Str × Str × Arguments × FuncBody × Scope × Addr × List (Str × Addr) × Addr)
def fnOb (K : PySem.W.Frag) (a : Addr) : FnOb := match K.lookup a with
  | some ⟨_, _, .func fd, _⟩ => some (fd.name, fd.qualname, fd.params, fd.body, fd.scope, fd.globals, fd.closure, fd.builtins)
  | _ => none
def DefZ.val (d : DefZ) : FnOb := some (d.name, d.qual, d.params, .stmts d.body, d.scope, mainGlobals, [], builtinsNs)
def DefZ.ok (K : PySem.W.Frag) (d : DefZ) : Bool := PySem.W.keepIn K (.ref (d.ad K)) && (match K.lookup (d.ad K) with
  | some ⟨_, _, .func fd, _⟩ => PySem.W.codeIn K fd.code d.qual && He.dflB K fd.defaults (d.dvs K)
  | _ => false)
abbrev FunZ (K : PySem.W.Frag) (d : DefZ) (fd : FuncData) : Prop := FunD K d.name d.qual d.params d.body d.scope (d.dvs K) [] (d.ad K) fd
theorem DefZ.fun {K : PySem.W.Frag} {d : DefZ} (e : fnOb K (d.ad K) = d.val) (c : d.ok K = true) : ∃ fd, FunZ K d fd := by
  obtain ⟨kp, c2⟩ := He.ba c
  unfold fnOb at e
  generalize hq : K.lookup (d.ad K) = q at e c2
  match q, hq, e, c2 with
  | some ⟨oc, od, .func fd, osl⟩, hq, e, c2 =>
    obtain ⟨k1, k2⟩ := He.ba c2
    obtain ⟨a1, a2, a3, a4, a5, a6, a7, a8, a9, a10, a11, a12, a13, a14, a15⟩ := fd
    have e : (some (a1, a2, a3, a4, a5, a6, a7, a15) : FnOb) = some (d.name, d.qual, d.params, .stmts d.body, d.scope, mainGlobals, [], builtinsNs) := e
    simp only [Option.some.injEq, Prod.mk.injEq] at e
    obtain ⟨rfl, rfl, rfl, rfl, rfl, rfl, rfl, rfl⟩ := e
    exact ⟨_, ⟨oc, od, a8, a9, a10, a11, a12, a13, a14, osl, rfl, hq, k1, He.dflB_ok k2, .inl rfl⟩, kp⟩
/-! ### what the head is to tell -/
abbrev AlZ : Type := Bool × List FnOb
def obsK (ex : PySem.W.Frag → Bool) (fn : List DefZ) (K : PySem.W.Frag) : AlZ := (ex K && fn.all fun d => d.ok K, fn.map fun d => fnOb K (d.ad K))
def valZ (fn : List DefZ) : AlZ := (true, fn.map DefZ.val)
def SaysZ (ex : PySem.W.Frag → Bool) (fn : List DefZ) (K : PySem.W.Frag) : Prop := obsK ex fn K = valZ fn
/-- what an object names, its dict and its record's parts too -/
def namesZ (o : Obj) : List Addr := He.refsD o
def growZ (g : Addr → Option Obj) (as : List Addr) : List Addr := (as ++ as.flatMap fun a => match g a with
  | some o => namesZ o
  | none => []).eraseDups
def asZ (g : Addr → Option Obj) : Nat → List Addr
  | 0 => [mainGlobals, cStatics]
  | n + 1 => growZ g (asZ g n)
def obsZG (n : Nat) (ex : PySem.W.Frag → Bool) (fn : List DefZ) (g : Addr → Option Obj) : AlZ := obsK ex fn (He.frG g (asZ g n))
def hookZ (n : Nat) (ex : PySem.W.Frag → Bool) (fn : List DefZ) : PySem.W.Hook where
  α := AlZ
  obs := fun s => obsZG n ex fn s.heap.get?
  val := fun _ => valZ fn
  says := fun _ h => ∃ K : PySem.W.Frag, K.In h ∧ SaysZ ex fn K
  of := fun _ _ e => ⟨_, He.frG_in, e⟩
  keeps := fun _ _ _ ⟨K, hK, c⟩ k => ⟨K, PySem.W.Frag.In.keeps hK k, c⟩
section
variable {ex : PySem.W.Frag → Bool} {fn : List DefZ} {K : PySem.W.Frag}
theorem SaysZ.ex_ok (c : SaysZ ex fn K) : ex K = true := (He.ba (congrArg (fun z : AlZ => z.1) c)).1
theorem SaysZ.at_ (c : SaysZ ex fn K) (i : Nat) {d : DefZ} (h : fn[i]? = some d := by rfl) : ∃ fd, FunZ K d fd := by
  have c2 : (fn.all fun d => d.ok K) = true := (He.ba (congrArg (fun z : AlZ => z.1) c)).2
  have e : fn.map (fun d => fnOb K (d.ad K)) = fn.map DefZ.val := congrArg (fun z : AlZ => z.2) c
  have e2 : (fn.map fun d => fnOb K (d.ad K))[i]? = (fn.map DefZ.val)[i]? := by rw [e]
  rw [List.getElem?_map, List.getElem?_map, h] at e2
  exact DefZ.fun (Option.some.inj e2) (List.all_eq_true.mp c2 d (List.mem_of_getElem? h))
end
/-! ### facts as Bools -/
/-- f is a property of the class c -/
def propB (K : PySem.W.Frag) (c f : Str) : Bool := He.eqO (PySem.W.findIn K (.ref (He.ga K c)) f) (some (some (.ref (He.ma K (He.ga K c) f)))) && (He.eqO (PySem.W.specialIn K (.ref (He.ma K (He.ga K c) f)) "__get__") (some (some (.builtin "property.__get__"))) && (decide (PySem.W.takesIn K (.ref (He.ma K (He.ga K c) f)) = some true) &&
  recB K "property" (He.ma K (He.ga K c) f)))
theorem propB_ok {K : PySem.W.Frag} {c f : Str} (h : propB K c f = true) : PropOf K (He.ga K c) f (He.ma K (He.ga K c) f) (At.ad K (.p c f)) := by
  obtain ⟨h1, h⟩ := He.ba h
  obtain ⟨h2, h⟩ := He.ba h
  obtain ⟨h3, h4⟩ := He.ba h
  exact ⟨He.eqO_ok h1, He.eqO_ok h2, of_decide_eq_true h3, recB_ok h4⟩
/-- m is a classmethod of the class c -/
def cmetB (K : PySem.W.Frag) (c m : Str) : Bool := PySem.W.readsIn K (He.ga K c) (.type "type") && (He.eqO (PySem.W.specialIn K (.ref (He.ga K c)) "__getattribute__") (some (some (.builtin "type.__getattribute__"))) &&
  ((match PySem.W.findCls K (.ref (He.ga K c)) (.type "type") m with
    | some (.get (.builtin b) (.ref p) .none (.ref C)) => decide (b = "classmethod.__get__") && (decide (p = He.ma K (He.ga K c) m) && decide (C = He.ga K c))
    | _ => false) && (recB K "classmethod" (He.ma K (He.ga K c) m) && PySem.W.fnIn K (At.ad K (.cm c m)))))
end Z

set_option Elab.async false
set_option linter.all false
set_option maxRecDepth 100000
namespace Z
open PySem PySem.Spec PyProof.Rows L2
/-! ### the head in one run: the heap is laid out as a list first, the facts are looked at there -/
def frO {α : Type} (o : Obj) (k : Obj → α) : α := match o with
  | ⟨c, d, dt, sl⟩ => k ⟨c, d, dt, sl⟩
theorem frO_eq {α : Type} (o : Obj) (k : Obj → α) : frO o k = k o := by cases o; rfl
def frL {α : Type} : PySem.W.Frag → (PySem.W.Frag → α) → α
  | [], k => k []
  | (a, o) :: r, k => frO o fun o => frL r fun r => k ((a, o) :: r)
theorem frL_eq {α : Type} : ∀ (l : PySem.W.Frag) (k : PySem.W.Frag → α), frL l k = k l
  | [], _ => rfl
  | (a, o) :: r, k => by
    show (frO o fun o => frL r fun r => k ((a, o) :: r)) = _
    rw [frO_eq, frL_eq r]
def downTo : Nat → List Addr
  | 0 => []
  | n + 1 => n :: downTo n
def obsF (n : Nat) (ex : PySem.W.Frag → Bool) (fn : List DefZ) (g : Addr → Option Obj) : AlZ := frL (He.frG g (downTo n)) (obsK ex fn)
def hookF (n : Nat) (ex : PySem.W.Frag → Bool) (fn : List DefZ) : PySem.W.Hook where
  α := AlZ
  obs := fun s => obsF n ex fn s.heap.get?
  val := fun _ => valZ fn
  says := fun _ h => ∃ K : PySem.W.Frag, K.In h ∧ SaysZ ex fn K
  of := fun _ _ e => ⟨_, He.frG_in, (frL_eq _ _).symm.trans e⟩
  keeps := fun _ _ _ ⟨K, hK, c⟩ k => ⟨K, PySem.W.Frag.In.keeps hK k, c⟩
theorem obsF_eq {n : Nat} {ex : PySem.W.Frag → Bool} {fn : List DefZ} {g : Addr → Option Obj} {s : Shared} (h : ∀ a, g a = s.heap.get? a) : obsF n ex fn g = (hookF n ex fn).obs s := by
  have e : g = s.heap.get? := funext h
  rw [e] <;> rfl
/-! facts that are looked at early (the same as isiB, noLstB) -/
def insF (K : PySem.W.Frag) (c : Str) : Bool := (He.Fa.cls c).ok K && (He.eqO (PySem.W.findIn K (.ref (He.ga K c)) "__class__") (some (some (.builtin "object.__class__"))) && (He.eqO (PySem.W.specialIn K (.builtin "object.__class__") "__get__") (some (some (.builtin "getset_descriptor.__get__"))) &&
  (decide (PySem.W.takesIn K (.builtin "object.__class__") = some true) && decide (PySem.W.mroIn K (He.ga K c) (.type "object") = some true))))
def isiF (K : PySem.W.Frag) (cs : List Str) (tys : List String) : Bool := (cs.all fun c => insF K c) && ((cs.all fun c => tys.all fun T => decide (PySem.W.kitOne K (.ref (He.ga K c)) (.type T) = some false)) &&
  ((cs.all fun c => cs.all fun C => decide (PySem.W.kitOne K (.ref (He.ga K c)) (.ref (He.ga K C)) = some (decide (c = C)))) && (["NoneType", "bool", "int", "str", "tuple", "list", "dict"].all fun t => cs.all fun C => decide (PySem.W.kitOne K (.type t) (.ref (He.ga K C)) = some false))))
def noLstF (K : PySem.W.Frag) : Bool := K.all fun p => match p.2.cls with
  | .type t => !decide (t = "list")
  | _ => true
end Z

set_option Elab.async false
set_option linter.all false
set_option maxRecDepth 100000
set_option maxHeartbeats 0
namespace Z
namespace K25
open PySem PySem.Spec PyProof.Rows L2
def top (i : Nat) : Stmt := PySem.Challenge.pw_ringshares_k25_whole_moves_counted.main.body.getD i (.Pass ⟨0, 0, 0, 0⟩)
abbrev st__law_draw : Stmt := top 52
def d__law_draw : DefZ := ⟨.g "_law_draw", "_law_draw", "_law_draw", defArgs st__law_draw, defBody st__law_draw, defScope st__law_draw, []⟩
abbrev st__law_pick : Stmt := top 53
def d__law_pick : DefZ := ⟨.g "_law_pick", "_law_pick", "_law_pick", defArgs st__law_pick, defBody st__law_pick, defScope st__law_pick, []⟩
abbrev st__law_marks : Stmt := top 56
def d__law_marks : DefZ := ⟨.g "_law_marks", "_law_marks", "_law_marks", defArgs st__law_marks, defBody st__law_marks, defScope st__law_marks, []⟩
abbrev st__law_ring : Stmt := top 57
def d__law_ring : DefZ := ⟨.g "_law_ring", "_law_ring", "_law_ring", defArgs st__law_ring, defBody st__law_ring, defScope st__law_ring, []⟩
abbrev st__law_walk : Stmt := top 54
def d__law_walk : DefZ := ⟨.g "_law_walk", "_law_walk", "_law_walk", defArgs st__law_walk, defBody st__law_walk, defScope st__law_walk, []⟩
abbrev st__law_keepers : Stmt := top 55
def d__law_keepers : DefZ := ⟨.g "_law_keepers", "_law_keepers", "_law_keepers", defArgs st__law_keepers, defBody st__law_keepers, defScope st__law_keepers, []⟩
abbrev st__law_due : Stmt := top 59
def d__law_due : DefZ := ⟨.g "_law_due", "_law_due", "_law_due", defArgs st__law_due, defBody st__law_due, defScope st__law_due, []⟩
abbrev st_is_integer : Stmt := top 22
def d_is_integer : DefZ := ⟨.g "is_integer", "is_integer", "is_integer", defArgs st_is_integer, defBody st_is_integer, defScope st_is_integer, []⟩
abbrev st_check_number : Stmt := top 30
def d_check_number : DefZ := ⟨.g "check_number", "check_number", "check_number", defArgs st_check_number, defBody st_check_number, defScope st_check_number, []⟩
abbrev st_is_name : Stmt := top 23
def d_is_name : DefZ := ⟨.g "is_name", "is_name", "is_name", defArgs st_is_name, defBody st_is_name, defScope st_is_name, []⟩
abbrev st_are_points : Stmt := top 25
def d_are_points : DefZ := ⟨.g "are_points", "are_points", "are_points", defArgs st_are_points, defBody st_are_points, defScope st_are_points, []⟩
abbrev st_is_host : Stmt := top 31
def d_is_host : DefZ := ⟨.g "is_host", "is_host", "is_host", defArgs st_is_host, defBody st_is_host, defScope st_is_host, []⟩
abbrev st_check_hosts : Stmt := top 32
def d_check_hosts : DefZ := ⟨.g "check_hosts", "check_hosts", "check_hosts", defArgs st_check_hosts, defBody st_check_hosts, defScope st_check_hosts, []⟩
abbrev st_Ring___init__ : Stmt := inClass (top 34) 0
def d_Ring___init__ : DefZ := ⟨.m "Ring" "__init__", "__init__", "Ring.__init__", defArgs st_Ring___init__, defBody st_Ring___init__, defScope st_Ring___init__, []⟩
abbrev st_P_law_made : Stmt := top 58
def d_P_law_made : DefZ := ⟨.g "_law_made", "_law_made", "_law_made", defArgs st_P_law_made, defBody st_P_law_made, defScope st_P_law_made, []⟩
abbrev st_check_ring : Stmt := top 38
def d_check_ring : DefZ := ⟨.g "check_ring", "check_ring", "check_ring", defArgs st_check_ring, defBody st_check_ring, defScope st_check_ring, []⟩
abbrev st_Ring_points : Stmt := inClass (top 34) 2
def d_Ring_points : DefZ := ⟨.p "Ring" "points", "points", "Ring.points", defArgs st_Ring_points, defBody st_Ring_points, defScope st_Ring_points, []⟩
abbrev st_check_both : Stmt := top 39
def d_check_both : DefZ := ⟨.g "check_both", "check_both", "check_both", defArgs st_check_both, defBody st_check_both, defScope st_check_both, []⟩
abbrev st_Cell___init__ : Stmt := inClass (top 43) 0
def d_Cell___init__ : DefZ := ⟨.m "Cell" "__init__", "__init__", "Cell.__init__", defArgs st_Cell___init__, defBody st_Cell___init__, defScope st_Cell___init__, []⟩
abbrev st_cut : Stmt := top 44
def d_cut : DefZ := ⟨.g "cut", "cut", "cut", defArgs st_cut, defBody st_cut, defScope st_cut, []⟩
abbrev st_marks_of : Stmt := top 45
def d_marks_of : DefZ := ⟨.g "marks_of", "marks_of", "marks_of", defArgs st_marks_of, defBody st_marks_of, defScope st_marks_of, []⟩
abbrev st_Ring_spread : Stmt := inClass (top 34) 6
def d_Ring_spread : DefZ := ⟨.p "Ring" "spread", "spread", "Ring.spread", defArgs st_Ring_spread, defBody st_Ring_spread, defScope st_Ring_spread, []⟩
abbrev st_Ring_factor : Stmt := inClass (top 34) 3
def d_Ring_factor : DefZ := ⟨.p "Ring" "factor", "factor", "Ring.factor", defArgs st_Ring_factor, defBody st_Ring_factor, defScope st_Ring_factor, []⟩
abbrev st_chosen : Stmt := top 36
def d_chosen : DefZ := ⟨.g "chosen", "chosen", "chosen", defArgs st_chosen, defBody st_chosen, defScope st_chosen, []⟩
abbrev st_walk_of : Stmt := top 35
def d_walk_of : DefZ := ⟨.g "walk_of", "walk_of", "walk_of", defArgs st_walk_of, defBody st_walk_of, defScope st_walk_of, []⟩
abbrev st_keepers_of : Stmt := top 37
def d_keepers_of : DefZ := ⟨.g "keepers_of", "keepers_of", "keepers_of", defArgs st_keepers_of, defBody st_keepers_of, defScope st_keepers_of, []⟩
abbrev st_common_of : Stmt := top 46
def d_common_of : DefZ := ⟨.g "common_of", "common_of", "common_of", defArgs st_common_of, defBody st_common_of, defScope st_common_of, []⟩
abbrev st_moves : Stmt := top 48
def d_moves : DefZ := ⟨.g "moves", "moves", "moves", defArgs st_moves, defBody st_moves, defScope st_moves, []⟩
abbrev st_moved : Stmt := top 49
def d_moved : DefZ := ⟨.g "moved", "moved", "moved", defArgs st_moved, defBody st_moved, defScope st_moved, []⟩
abbrev st__law_right : Stmt := top 60
def d__law_right : DefZ := ⟨.g "_law_right", "_law_right", "_law_right", defArgs st__law_right, defBody st__law_right, defScope st__law_right, []⟩
abbrev st__law_purse : Stmt := top 51
def d__law_purse : DefZ := ⟨.g "_law_purse", "_law_purse", "_law_purse", defArgs st__law_purse, defBody st__law_purse, defScope st__law_purse, []⟩
abbrev st_law : Stmt := top 61
def d_law : DefZ := ⟨.g "law", "law", "law", defArgs st_law, defBody st_law, defScope st_law, []⟩
def ex0 : List (PySem.W.Frag → Bool) := [fun K => (He.Fa.free "len").ok K,
  fun K => (He.Fa.free "min").ok K,
  fun K => (He.Fa.free "max").ok K,
  fun K => (He.Fa.free "range").ok K,
  fun K => (He.Fa.free "int").ok K,
  fun K => (He.Fa.free "divmod").ok K,
  fun K => (He.Fa.glo "_law_draw").ok K,
  fun K => (He.Fa.glo "_law_pick").ok K,
  fun K => (He.Fa.free "sorted").ok K,
  fun K => (He.Fa.free "tuple").ok K,
  fun K => (He.Fa.glo "_law_marks").ok K,
  fun K => (He.Fa.free "list").ok K,
  fun K => (He.Fa.glo "_law_ring").ok K,
  fun K => (He.Fa.free "set").ok K,
  fun K => (He.Fa.free "dict").ok K,
  fun K => (He.Fa.glo "_law_walk").ok K,
  fun K => (He.Fa.glo "_law_keepers").ok K,
  fun K => (He.Fa.glo "_law_due").ok K,
  fun K => (He.Fa.free "isinstance").ok K,
  fun K => isiF K ["Ring"] ["int", "bool", "str", "tuple"]]
def ex1 : List (PySem.W.Frag → Bool) := [fun K => (He.Fa.free "bool").ok K,
  fun K => (He.Fa.glo "is_integer").ok K,
  fun K => (He.Fa.int "MOST_POINTS" 1000000000000000000).ok K,
  fun K => (He.Fa.glo "check_number").ok K,
  fun K => (He.Fa.int "MOST_FACTOR" 5).ok K,
  fun K => (He.Fa.free "str").ok K,
  fun K => (He.Fa.glo "SPREADS").ok K,
  fun K => He.tupB K "SPREADS" ((["hosts", "racks"] : List PySem.Str).map He.Dv.str),
  fun K => (He.Fa.glo "PENDINGS").ok K,
  fun K => He.tupB K "PENDINGS" ((["plain", "with"] : List PySem.Str).map He.Dv.str),
  fun K => (He.Fa.free "enumerate").ok K,
  fun K => (He.Fa.int "MOST_HOSTS" 12).ok K,
  fun K => (He.Fa.int "LONGEST_NAME" 8).ok K,
  fun K => (He.Fa.str "LETTERS" "abcdefghijklmnopqrstuvwxyz").ok K,
  fun K => (He.Fa.str "DIGITS" "0123456789").ok K,
  fun K => (He.Fa.free "all").ok K,
  fun K => (He.Fa.glo "is_name").ok K,
  fun K => (He.Fa.free "zip").ok K,
  fun K => (He.Fa.int "MOST_MARKS" 16).ok K,
  fun K => (He.Fa.glo "are_points").ok K]
def ex2 : List (PySem.W.Frag → Bool) := [fun K => (He.Fa.free "any").ok K,
  fun K => (He.Fa.glo "is_host").ok K,
  fun K => (He.Fa.glo "check_hosts").ok K,
  fun K => (He.Fa.cls "Ring").ok K,
  fun K => (He.Fa.noat "Ring" "numbers").ok K,
  fun K => (He.Fa.noat "Ring" "words").ok K,
  fun K => (He.Fa.noat "Ring" "held_hosts").ok K,
  fun K => (He.Fa.noat "Ring" "racks").ok K,
  fun K => (He.Fa.noat "Ring" "marks").ok K,
  fun K => (He.Fa.mkr "Ring").ok K,
  fun K => (He.Fa.glo "Ring").ok K,
  fun K => (He.Fa.glo "_law_made").ok K,
  fun K => (He.Fa.glo "check_ring").ok K,
  fun K => propB K "Ring" "points",
  fun K => (He.Fa.glo "check_both").ok K,
  fun K => (He.Fa.cls "Cell").ok K,
  fun K => (He.Fa.noat "Cell" "first").ok K,
  fun K => (He.Fa.noat "Cell" "many").ok K,
  fun K => (He.Fa.noat "Cell" "last").ok K,
  fun K => (He.Fa.mkr "Cell").ok K]
def ex3 : List (PySem.W.Frag → Bool) := [fun K => (He.Fa.glo "Cell").ok K,
  fun K => (He.Fa.glo "marks_of").ok K,
  fun K => (He.Fa.glo "cut").ok K,
  fun K => propB K "Ring" "spread",
  fun K => propB K "Ring" "factor",
  fun K => (He.Fa.glo "walk_of").ok K,
  fun K => (He.Fa.glo "chosen").ok K,
  fun K => (He.Fa.glo "keepers_of").ok K,
  fun K => (He.Fa.glo "common_of").ok K,
  fun K => (He.Fa.glo "moves").ok K,
  fun K => (He.Fa.free "repr").ok K,
  fun K => (He.Fa.free "sum").ok K,
  fun K => (He.Fa.glo "moved").ok K,
  fun K => (He.Fa.free "abs").ok K,
  fun K => (He.Fa.glo "_law_purse").ok K,
  fun K => (He.Fa.glo "_law_right").ok K,
  fun K => (He.Fa.glo "law").ok K,
  fun K => noLstF K]
def exC : List (List (PySem.W.Frag → Bool)) := [ex0, ex1, ex2, ex3]
def exL : List (PySem.W.Frag → Bool) := exC.flatten
def fn0 : List DefZ := [d__law_draw, d__law_pick, d__law_marks, d__law_ring, d__law_walk, d__law_keepers, d__law_due, d_is_integer, d_check_number, d_is_name, d_are_points, d_is_host, d_check_hosts, d_Ring___init__, d_P_law_made, d_check_ring, d_Ring_points, d_check_both, d_Cell___init__, d_cut]
def fn1 : List DefZ := [d_marks_of, d_Ring_spread, d_Ring_factor, d_chosen, d_walk_of, d_keepers_of, d_common_of, d_moves, d_moved, d__law_right, d__law_purse, d_law]
def fnC : List (List DefZ) := [fn0, fn1]
def fnL : List DefZ := fnC.flatten
def names0 : List PySem.Str := ["_wall", "BadValue", "BadName", "InvalidText", "InvalidNumber", "InvalidSpread", "InvalidPending", "InvalidPoint", "NotARing", "OtherPoints", "InvalidHosts", "UnknownName", "MOST_POINTS", "MOST_FACTOR", "MOST_HOSTS", "MOST_MARKS", "LETTERS", "DIGITS", "LONGEST_NAME", "LONGEST_NUMBER", "is_integer", "is_name", "written", "are_points", "SPREADS", "PENDINGS", "HEAD_WORDS", "check_number", "is_host", "check_hosts"]
def names1 : List PySem.Str := ["host_of", "Ring", "walk_of", "chosen", "keepers_of", "check_ring", "check_both", "check_point", "check_host", "Cell", "cut", "marks_of", "common_of", "moves", "moved", "_law_purse", "_law_draw", "_law_pick", "_law_walk", "_law_keepers", "_law_marks", "_law_ring", "_law_made", "_law_due", "_law_right"]
def names : List PySem.Str := names0 ++ names1
abbrev exF : PySem.W.Frag → Bool := fun K => exL.all fun f => f K
abbrev R : PySem.W.OpenRow := PySem.W.OpenLaw.row PySem.Challenge.rw_ringshares_k25_whole_moves_counted
abbrev hk : PySem.W.Hook := hookF 1000 exF fnL
def ob (s : PySem.W.SharedT) : AlZ := obsF 1000 exF fnL (HandSHeadRun.getT s)
theorem ob_eq (s : PySem.W.SharedT) : ob s = hk.obs s.abs := obsF_eq (HandSHeadRun.getT_eq s)
theorem run (w : World) : HandSHeadRun.RunEq R (PySem.W.view R.prog [61]) hk ob 20000 names w := by
  intro os
  kernel_rfl
end K25
end Z

set_option Elab.async false
set_option linter.all false
set_option maxRecDepth 100000
set_option maxHeartbeats 4000000
namespace Z
open PySem PySem.Spec PyProof.Rows L2
/-! ### pure values -/
inductive D where
  | non | bl (b : Bool) | int (i : Int) | str (x : Str)
  | tup (ds : List D) | lst (ds : List D) | dic (kvs : List (Key × D)) | obj (c : Str) (fs : List (Str × D)) | cel (n : Nat) | opq (v : V) | ty (c : Str)
/-- the ghost: what is frozen, where the cells lie -/
structure G where
  F : Hp
  ad : List Addr
section
variable (K : PySem.W.Frag) (g : G)
mutual
inductive Rep : V → D → Prop
  | non : Rep .non .non
  | bl (b : Bool) : Rep (.bl b) (.bl b)
  | int (i : Int) : Rep (.int i) (.int i)
  | str (x : Str) : Rep (.str x) (.str x)
  | tup {a vs ds} : SqT K g.F a vs → RepL vs ds → Rep (.ref a) (.tup ds)
  | lst {a vs ds} : Rd g.F a (.lst vs) → RepL vs ds → Rep (.ref a) (.lst ds)
  | dic {a kvs ds} : g.F a = some (.dK kvs) → RepK kvs ds → Rep (.ref a) (.dic ds)
  | obj {a dx c fs ds} : g.F a = some (.ins (He.ga K c) dx fs) → RepF fs ds → Rep (.ref a) (.obj c ds)
  | cel {a n} : g.ad[n]? = some a → Rep (.ref a) (.cel n)
  | opq (v : V) : Rep v (.opq v)
  | ty (c : Str) : Rep (.ref (He.ga K c)) (.ty c)
inductive RepL : List V → List D → Prop
  | nil : RepL [] []
  | cons {v d vs ds} : Rep v d → RepL vs ds → RepL (v :: vs) (d :: ds)
inductive RepK : List (Key × V) → List (Key × D) → Prop
  | nil : RepK [] []
  | cons {k v d vs ds} : Rep v d → RepK vs ds → RepK ((k, v) :: vs) ((k, d) :: ds)
inductive RepF : List (Str × V) → List (Str × D) → Prop
  | nil : RepF [] []
  | cons {k v d vs ds} : Rep v d → RepF vs ds → RepF ((k, v) :: vs) ((k, d) :: ds)
end
end
section
variable {K : PySem.W.Frag} {g g' : G}
/-- the ghost grows -/
structure GLe (g g' : G) : Prop where
  F : ∀ (a : Addr) (u : HO), g.F a = some u → g'.F a = some u
  ad : ∀ (n : Nat) (a : Addr), g.ad[n]? = some a → g'.ad[n]? = some a
theorem GLe.refl : GLe g g := ⟨fun _ _ h => h, fun _ _ h => h⟩
theorem GLe.trans {g'' : G} (a : GLe g g') (b : GLe g' g'') : GLe g g'' := ⟨fun x u h => b.F x u (a.F x u h), fun n x h => b.ad n x (a.ad n x h)⟩
theorem rd_mono {F F' : Hp} {a : Addr} {u : HO} (h : ∀ a u, F a = some u → F' a = some u) (r : Rd F a u) : Rd F' a u := by
  rcases r with r | ⟨o, r⟩
  · exact .inl (h _ _ r)
  · exact .inr ⟨o, h _ _ r⟩
theorem sqT_mono {F F' : Hp} {a : Addr} {vs : List V} (h : ∀ a u, F a = some u → F' a = some u) (r : SqT K F a vs) : SqT K F' a vs := by
  rcases r with r | r
  · exact .inl (rd_mono h r)
  · exact .inr r
mutual
theorem Rep.mono (L : GLe g g') : ∀ {v d}, Rep K g v d → Rep K g' v d
  | _, _, .non => .non
  | _, _, .bl b => .bl b
  | _, _, .int i => .int i
  | _, _, .str x => .str x
  | _, _, .tup h r => .tup (sqT_mono L.F h) (RepL.mono L r)
  | _, _, .lst h r => .lst (rd_mono L.F h) (RepL.mono L r)
  | _, _, .dic h r => .dic (L.F _ _ h) (RepK.mono L r)
  | _, _, .obj h r => .obj (L.F _ _ h) (RepF.mono L r)
  | _, _, .cel h => .cel (L.ad _ _ h)
  | _, _, .opq v => .opq v
  | _, _, .ty c => .ty c
theorem RepL.mono (L : GLe g g') : ∀ {v d}, RepL K g v d → RepL K g' v d
  | _, _, .nil => .nil
  | _, _, .cons h r => .cons (Rep.mono L h) (RepL.mono L r)
theorem RepK.mono (L : GLe g g') : ∀ {v d}, RepK K g v d → RepK K g' v d
  | _, _, .nil => .nil
  | _, _, .cons h r => .cons (Rep.mono L h) (RepK.mono L r)
theorem RepF.mono (L : GLe g g') : ∀ {v d}, RepF K g v d → RepF K g' v d
  | _, _, .nil => .nil
  | _, _, .cons h r => .cons (Rep.mono L h) (RepF.mono L r)
end
theorem RepL.length : ∀ {vs ds}, RepL K g vs ds → vs.length = ds.length
  | _, _, .nil => rfl
  | _, _, .cons _ r => by simp [RepL.length r]
theorem RepL.append : ∀ {vs ds ws es}, RepL K g vs ds → RepL K g ws es → RepL K g (vs ++ ws) (ds ++ es)
  | _, _, _, _, .nil, s => s
  | _, _, _, _, .cons h r, s => .cons h (RepL.append r s)
theorem RepL.get : ∀ {vs : List V} {ds : List D} {i : Nat} {d : D}, RepL K g vs ds → ds[i]? = some d → ∃ v, vs[i]? = some v ∧ Rep K g v d
  | _, _, _, _, .nil, e => by simp at e
  | _, _, 0, _, .cons h r, e => by simp at e; subst e; exact ⟨_, rfl, h⟩
  | _, _, i + 1, _, .cons h r, e => by
    obtain ⟨v, h1, h2⟩ := RepL.get r (i := i) (by simpa using e)
    exact ⟨v, by simpa using h1, h2⟩
theorem RepL.getV : ∀ {vs : List V} {ds : List D} {i : Nat} {v : V}, RepL K g vs ds → vs[i]? = some v → ∃ d, ds[i]? = some d ∧ Rep K g v d
  | _, _, _, _, .nil, e => by simp at e
  | _, _, 0, _, .cons h r, e => by simp at e; subst e; exact ⟨_, rfl, h⟩
  | _, _, i + 1, _, .cons h r, e => by
    obtain ⟨v, h1, h2⟩ := RepL.getV r (i := i) (by simpa using e)
    exact ⟨v, by simpa using h1, h2⟩
theorem RepL.set {v d} (h : Rep K g v d) : ∀ {vs ds} (i : Nat), RepL K g vs ds → RepL K g (vs.set i v) (ds.set i d)
  | _, _, _, .nil => .nil
  | _, _, 0, .cons _ r => .cons h r
  | _, _, i + 1, .cons q r => .cons q (RepL.set h i r)
theorem RepL.take : ∀ {vs ds} (n : Nat), RepL K g vs ds → RepL K g (vs.take n) (ds.take n)
  | _, _, 0, _ => .nil
  | _, _, _ + 1, .nil => .nil
  | _, _, n + 1, .cons q r => .cons q (RepL.take n r)
theorem RepL.drop : ∀ {vs ds} (n : Nat), RepL K g vs ds → RepL K g (vs.drop n) (ds.drop n)
  | _, _, 0, r => r
  | _, _, _ + 1, .nil => .nil
  | _, _, n + 1, .cons q r => RepL.drop n r
/-! ### what stands at a cell, at an owned slot -/
def OwnAt (K : PySem.W.Frag) (g : G) (H : Hp) (a : Addr) : D → Prop
  | .lst ds => ∃ vs, H a = some (.lst vs) ∧ RepL K g vs ds
  | .dic ds => ∃ kvs, H a = some (.dK kvs) ∧ RepK K g kvs ds
  | .obj c ds => ∃ dx fs, H a = some (.ins (He.ga K c) dx fs) ∧ RepF K g fs ds
  | _ => False
theorem OwnAt.has {H : Hp} {a : Addr} {d : D} (h : OwnAt K g H a d) : ∃ u, H a = some u := by
  cases d with
  | lst ds => obtain ⟨_, h, _⟩ := h; exact ⟨_, h⟩
  | dic ds => obtain ⟨_, h, _⟩ := h; exact ⟨_, h⟩
  | obj c ds => obtain ⟨_, _, h, _⟩ := h; exact ⟨_, h⟩
  | _ => exact h.elim
theorem OwnAt.mono {H H' : Hp} {a : Addr} {d : D} (L : GLe g g') (e : ∀ u, H a = some u → H' a = some u) (h : OwnAt K g H a d) : OwnAt K g' H' a d := by
  cases d with
  | lst ds => obtain ⟨vs, h, r⟩ := h; exact ⟨vs, e _ h, r.mono L⟩
  | dic ds => obtain ⟨vs, h, r⟩ := h; exact ⟨vs, e _ h, r.mono L⟩
  | obj c ds => obtain ⟨dx, fs, h, r⟩ := h; exact ⟨dx, fs, e _ h, r.mono L⟩
  | _ => exact h.elim
abbrev S := List D
inductive Sl where
  | unb | val (d : D) | own (d : D)
abbrev EnvD := List Sl
structure SRel (K : PySem.W.Frag) (g : G) (H : Hp) (s : S) : Prop where
  sub : ∀ a u, g.F a = some u → H a = some u ∨ ((∃ kvs, u = .dK kvs) ∧ ∃ o, H a = some (.frz o u))
  len : g.ad.length = s.length
  cell : ∀ (n : Nat) (c : D), s[n]? = some c → ∃ a, g.ad[n]? = some a ∧ g.F a = none ∧ OwnAt K g H a c
  inj : ∀ (n m : Nat) (a : Addr), g.ad[n]? = some a → g.ad[m]? = some a → n = m
theorem SRel.has {H : Hp} {s : S} (r : SRel K g H s) {a : Addr} (h : a ∈ g.ad) : ∃ u, H a = some u := by
  obtain ⟨n, hn⟩ := List.mem_iff_getElem?.mp h
  have hl : n < s.length := by rw [← r.len]; exact (List.getElem?_eq_some_iff.mp hn).1
  obtain ⟨b, h1, _, h2⟩ := r.cell n s[n] (List.getElem?_eq_getElem hl)
  rw [hn] at h1
  cases h1
  exact h2.has
structure EnvRel (K : PySem.W.Frag) (g : G) (H : Hp) (σ : L2.St) (e : EnvD) : Prop where
  len : e.length = σ.length
  val : ∀ (i : Nat) (d : D), e[i]? = some (Sl.val d) → ∃ v, σ[i]? = some (some v) ∧ Rep K g v d
  own : ∀ (i : Nat) (d : D), e[i]? = some (Sl.own d) → ∃ a, σ[i]? = some (some (.ref a)) ∧ g.F a = none ∧ a ∉ g.ad ∧ OwnAt K g H a d
  apart : ∀ (i j : Nat) (d d' : D) (a : Addr), e[i]? = some (Sl.own d) → e[j]? = some (Sl.own d') → σ[i]? = some (some (.ref a)) → σ[j]? = some (some (.ref a)) → i = j
/-- an expression's step: all but the cells stays -/
structure Step (K : PySem.W.Frag) (g : G) (H : Hp) (g' : G) (H' : Hp) (s' : S) : Prop where
  rel : SRel K g' H' s'
  le : GLe g g'
  new : ∀ a u, g'.F a = some u → g.F a = some u ∨ H a = none
  newc : ∀ a, a ∈ g'.ad → a ∈ g.ad ∨ H a = none
  keep : ∀ a u, H a = some u → a ∉ g.ad → H' a = some u
theorem Step.refl {H : Hp} {s : S} (r : SRel K g H s) : Step K g H g H s := ⟨r, .refl, fun _ _ h => .inl h, fun _ h => .inl h, fun _ _ h _ => h⟩
theorem mem_ad (L : GLe g g') {a : Addr} (h : a ∈ g.ad) : a ∈ g'.ad := by
  obtain ⟨n, hn⟩ := List.mem_iff_getElem?.mp h
  exact List.mem_iff_getElem?.mpr ⟨n, L.ad n a hn⟩
theorem Step.has {H H' : Hp} {s' : S} (x : Step K g H g' H' s') {a : Addr} {u : HO} (h : H a = some u) : ∃ u', H' a = some u' := by
  by_cases ha : a ∈ g.ad
  · exact x.rel.has (mem_ad x.le ha)
  · exact ⟨u, x.keep a u h ha⟩
theorem Step.noneOf {H H' : Hp} {s' : S} (x : Step K g H g' H' s') {a : Addr} (h : H' a = none) : H a = none := by
  cases e : H a with
  | none => rfl
  | some u => obtain ⟨u', q⟩ := x.has e; rw [h] at q; cases q
theorem Step.trans {g'' : G} {H H' H'' : Hp} {s' s'' : S} (x : Step K g H g' H' s') (y : Step K g' H' g'' H'' s'') : Step K g H g'' H'' s'' where
  rel := y.rel
  le := x.le.trans y.le
  new := fun a u h => by
    rcases y.new a u h with q | q
    · exact x.new a u q
    · exact .inr (x.noneOf q)
  newc := fun a h => by
    rcases y.newc a h with q | q
    · exact x.newc a q
    · exact .inr (x.noneOf q)
  keep := fun a u h ha => by
    have h1 := x.keep a u h ha
    refine y.keep a u h1 fun z => ?_
    rcases x.newc a z with q | q
    · exact ha q
    · rw [h] at q; cases q
theorem EnvRel.step {σ : L2.St} {e : EnvD} {H H' : Hp} {s' : S} (r : EnvRel K g H σ e) (x : Step K g H g' H' s') : EnvRel K g' H' σ e where
  len := r.len
  val := fun i d h => by
    obtain ⟨v, h1, h2⟩ := r.val i d h
    exact ⟨v, h1, h2.mono x.le⟩
  own := fun i d h => by
    obtain ⟨a, h1, h2, h3, h4⟩ := r.own i d h
    obtain ⟨u, hu⟩ := h4.has
    refine ⟨a, h1, ?_, fun z => ?_, h4.mono x.le fun u hu => x.keep a u hu h3⟩
    · cases q : g'.F a with
      | none => rfl
      | some u' =>
        rcases x.new a u' q with z | z
        · rw [h2] at z; cases z
        · rw [hu] at z; cases z
    · rcases x.newc a z with z | z
      · exact h3 z
      · rw [hu] at z; cases z
  apart := r.apart
/-! ### readings -/
abbrev ME := EnvD → S → Option (D × S)
def trE (K : PySem.W.Frag) (m : ME) : TE := fun σ H Q => ∃ g e s d s', SRel K g H s ∧ EnvRel K g H σ e ∧ m e s = some (d, s') ∧ ∀ v g' H', Step K g H g' H' s' → Rep K g' v d → Q v H'
abbrev MT := EnvD → S → Option (Bool × S)
def trT (K : PySem.W.Frag) (m : MT) : TT := fun σ H Q => ∃ g e s b s', SRel K g H s ∧ EnvRel K g H σ e ∧ m e s = some (b, s') ∧ ∀ g' H', Step K g H g' H' s' → Q b H'
abbrev MA := EnvD → S → Option (List D × S)
def trA (K : PySem.W.Frag) (m : MA) : TA := fun σ H Q => ∃ g e s ds s', SRel K g H s ∧ EnvRel K g H σ e ∧ m e s = some (ds, s') ∧ ∀ vs g' H', Step K g H g' H' s' → RepL K g' vs ds → Q vs H'
/-- a new object, owned by nobody yet -/
def trF (K : PySem.W.Frag) (m : ME) : TE := fun σ H Q => ∃ g e s d s', SRel K g H s ∧ EnvRel K g H σ e ∧ m e s = some (d, s') ∧
  ∀ a g' H', Step K g H g' H' s' → H a = none → g'.F a = none → a ∉ g'.ad → OwnAt K g' H' a d → Q (.ref a) H'
theorem PE.imp {X : Cx} {e : Expr} {t t' : TE} (h : PE X e t) (i : ∀ σ H Q, t' σ H Q → t σ H Q) : PE X e t' := ⟨fun pins s σ H Q I q => h.run pins s σ H Q I (i _ _ _ q)⟩
theorem PT.imp {X : Cx} {e : Expr} {t t' : TT} (h : PT X e t) (i : ∀ σ H Q, t' σ H Q → t σ H Q) : PT X e t' := ⟨fun pins s σ H Q I q => h.run pins s σ H Q I (i _ _ _ q)⟩
theorem PW.imp {X : Cx} {e : Expr} {t t' : TT} (h : PW X e t) (i : ∀ σ H Q, t' σ H Q → t σ H Q) : PW X e t' := ⟨fun w pins s σ H Q I q => h.run w pins s σ H Q I (i _ _ _ q)⟩
theorem PA.imp {X : Cx} {es : List Expr} {t t' : TA} (h : PA X es t) (i : ∀ σ H Q, t' σ H Q → t σ H Q) : PA X es t' := ⟨fun p pins s σ H Q I q => h.run p pins s σ H Q I (i _ _ _ q)⟩
theorem PS.imp {X : Cx} {e : Stmt} {t t' : TS} (h : PS X e t) (i : ∀ D σ H, t' D σ H → t D σ H) : PS X e t' := ⟨fun pins s σ H D I q => h.run pins s σ H D I (i _ _ _ q)⟩
theorem PSs.imp {X : Cx} {e : List Stmt} {t t' : TS} (h : PSs X e t) (i : ∀ D σ H, t' D σ H → t D σ H) : PSs X e t' := ⟨fun pins s σ H D I q => h.run pins s σ H D I (i _ _ _ q)⟩
theorem PI.imp {X : Cx} {tg e : Expr} {t t' : TI} (h : PI X tg e t) (i : ∀ σ H Q, t' σ H Q → t σ H Q) : PI X tg e t' := ⟨fun pins s σ H Q I q => h.run pins s σ H Q I (i _ _ _ q)⟩
theorem PG.imp {X : Cx} {e : Expr} {t t' : TG} (h : PG X e t) (i : ∀ v σ H Q, t' v σ H Q → t v σ H Q) : PG X e t' := ⟨fun pins s σ H v u Q I r q => h.run pins s σ H v u Q I r (i _ _ _ _ q)⟩
theorem PE.or {X : Cx} {e : Expr} {t t' : TE} (h : PE X e t) (h' : PE X e t') : PE X e (fun σ H Q => t σ H Q ∨ t' σ H Q) := ⟨fun pins s σ H Q I q => q.elim (h.run pins s σ H Q I) (h'.run pins s σ H Q I)⟩
theorem PS.or {X : Cx} {e : Stmt} {t t' : TS} (h : PS X e t) (h' : PS X e t') : PS X e (fun D σ H => t D σ H ∨ t' D σ H) := ⟨fun pins s σ H Q I q => q.elim (h.run pins s σ H Q I) (h'.run pins s σ H Q I)⟩
theorem PI.or {X : Cx} {tg e : Expr} {t t' : TI} (h : PI X tg e t) (h' : PI X tg e t') : PI X tg e (fun σ H Q => t σ H Q ∨ t' σ H Q) := ⟨fun pins s σ H Q I q => q.elim (h.run pins s σ H Q I) (h'.run pins s σ H Q I)⟩
/-- frozen: a new object is one of the values -/
def G.frz (g : G) (a : Addr) (u : HO) : G := ⟨upd g.F a u, g.ad⟩
theorem GLe.frz {a : Addr} {u : HO} (h : g.F a = none) : GLe g (g.frz a u) := ⟨fun b w e => by
  show upd g.F a u b = some w
  rw [upd_ne (fun z => by subst z; rw [h] at e; cases e)]; exact e, fun _ _ e => e⟩
theorem OwnAt.frozen {H : Hp} {a : Addr} {d : D} (h : OwnAt K g H a d) (hf : g.F a = none) : ∃ u, H a = some u ∧ Rep K (g.frz a u) (.ref a) d ∧ (∀ o w, u ≠ .frz o w) := by
  cases d with
  | lst ds => obtain ⟨vs, h, r⟩ := h; exact ⟨_, h, .lst (.inl upd_same) (r.mono (.frz hf)), fun _ _ z => nomatch z⟩
  | dic ds => obtain ⟨vs, h, r⟩ := h; exact ⟨_, h, .dic upd_same (r.mono (.frz hf)), fun _ _ z => nomatch z⟩
  | obj c ds => obtain ⟨dx, vs, h, r⟩ := h; exact ⟨_, h, .obj upd_same (r.mono (.frz hf)), fun _ _ z => nomatch z⟩
  | _ => exact h.elim
theorem SRel.frz {H : Hp} {s : S} {a : Addr} {u : HO} (r : SRel K g H s) (h : H a = some u) (hf : g.F a = none) (hc : a ∉ g.ad) : SRel K (g.frz a u) H s where
  sub := fun b w e => by
    by_cases hb : b = a
    · subst hb
      have e : upd g.F b u b = some w := e
      rw [upd_same] at e; cases e
      exact .inl h
    · have e : upd g.F a u b = some w := e
      rw [upd_ne hb] at e
      exact r.sub b w e
  len := r.len
  cell := fun n c e => by
    obtain ⟨b, h1, h2, h3⟩ := r.cell n c e
    refine ⟨b, h1, ?_, h3.mono (.frz hf) fun _ q => q⟩
    show upd g.F a u b = none
    rw [upd_ne fun z => by subst z; exact hc (List.mem_iff_getElem?.mpr ⟨n, h1⟩)]
    exact h2
  inj := r.inj
theorem Step.frz {H H' : Hp} {s' : S} {a : Addr} {u : HO} (x : Step K g H g' H' s') (hn : H a = none) (h : H' a = some u) (hf : g'.F a = none) (hc : a ∉ g'.ad) : Step K g H (g'.frz a u) H' s' where
  rel := x.rel.frz h hf hc
  le := x.le.trans (.frz hf)
  new := fun b w e => by
    by_cases hb : b = a
    · subst hb; exact .inr hn
    · have e : upd g'.F a u b = some w := e
      rw [upd_ne hb] at e
      exact x.new b w e
  newc := x.newc
  keep := x.keep
/-- what is new may be a value -/
theorem trF.E {m : ME} {σ : L2.St} {H : Hp} {Q : VK} (h : trE K m σ H Q) : trF K m σ H Q := by
  obtain ⟨g, e, s, d, s', r, r', hm, k⟩ := h
  refine ⟨g, e, s, d, s', r, r', hm, fun a g' H' st hn hf hc o => ?_⟩
  obtain ⟨u, h1, h2, _⟩ := o.frozen hf
  exact k _ _ _ (st.frz hn h1 hf hc) h2
theorem d_frz {X : Cx} {e : Expr} {m : ME} (h : PE X e (trF X.K m)) : PE X e (trE X.K m) := PE.imp h fun _ _ _ q => trF.E q
end
end Z

set_option Elab.async false
set_option linter.all false
set_option maxRecDepth 100000
set_option maxHeartbeats 4000000
namespace Z
open PySem PySem.Spec PyProof.Rows L2
/-! ### combinators -/
def bnd {α β : Type} (x : Option (α × S)) (f : α → S → Option (β × S)) : Option (β × S) := match x with
  | some (a, s) => f a s
  | none => none
def lft {α : Type} (x : Option α) (s : S) : Option (α × S) := match x with
  | some a => some (a, s)
  | none => none
theorem bnd_some {α β : Type} {x : Option (α × S)} {f : α → S → Option (β × S)} {r : β × S} (h : bnd x f = some r) : ∃ a s, x = some (a, s) ∧ f a s = some r := by
  cases x with
  | none => cases h
  | some p => exact ⟨p.1, p.2, rfl, h⟩
theorem lft_some {α : Type} {x : Option α} {s : S} {r : α × S} (h : lft x s = some r) : x = some r.1 ∧ r.2 = s := by
  cases x with
  | none => cases h
  | some p => cases h; exact ⟨rfl, rfl⟩
def mVar (i : Nat) : ME := fun e s => match e[i]? with
  | some (.val d) => some (d, s)
  | _ => none
def mC (d : D) : ME := fun _ s => some (d, s)
def mOp (f : D → D → Option D) (ma mb : ME) : ME := fun e s => bnd (ma e s) fun a s => bnd (mb e s) fun b s => lft (f a b) s
def mUn (f : D → Option D) (ma : ME) : ME := fun e s => bnd (ma e s) fun a s => lft (f a) s
section
variable {X : Cx} {K : PySem.W.Frag} {g : G} {H : Hp} {s : S}
/-- what a two-place operation does with values -/
def OpOk (K : PySem.W.Frag) (r : R2) (f : D → D → Option D) : Prop := ∀ (g : G) (H : Hp) (s : S) (x y : V) (a b d : D) (Q : VK), SRel K g H s → Rep K g x a → Rep K g y b → f a b = some d →
  (∀ v g' H', Step K g H g' H' s → Rep K g' v d → Q v H') → r x y H Q
/-- .. that makes an object -/
def OpOkF (K : PySem.W.Frag) (r : R2) (f : D → D → Option D) : Prop := ∀ (g : G) (H : Hp) (s : S) (x y : V) (a b d : D) (Q : VK), SRel K g H s → Rep K g x a → Rep K g y b → f a b = some d →
  (∀ p g' H', Step K g H g' H' s → H p = none → g'.F p = none → p ∉ g'.ad → OwnAt K g' H' p d → Q (.ref p) H') → r x y H Q
theorem OpOkF.E {r : R2} {f : D → D → Option D} (h : OpOkF K r f) : OpOk K r f := fun g H s x y a b d Q R ra rb e k => h g H s x y a b d Q R ra rb e fun p g' H' st hn hf hc o => by
  obtain ⟨u, h1, h2, _⟩ := o.frozen hf
  exact k _ _ _ (st.frz hn h1 hf hc) h2
theorem trE_op {r : R2} {f : D → D → Option D} {ma mb : ME} (h : OpOk K r f) {σ : L2.St} {H : Hp} {Q : VK} (q : trE K (mOp f ma mb) σ H Q) : tOp r (trE K ma) (trE K mb) σ H Q := by
  obtain ⟨g, e, s, d, s', R, E, hm, k⟩ := q
  obtain ⟨a, s1, h1, hm⟩ := bnd_some hm
  obtain ⟨b, s2, h2, hm⟩ := bnd_some hm
  obtain ⟨h3, h4⟩ := lft_some hm
  dsimp only at h3 h4
  subst h4
  refine ⟨g, e, s, a, s1, R, E, h1, fun x g1 H1 st1 ra => ⟨g1, e, s1, b, s', st1.rel, E.step st1, h2, fun y g2 H2 st2 rb => ?_⟩⟩
  exact h g2 H2 s' x y a b d Q st2.rel (ra.mono st2.le) rb h3 fun v g3 H3 st3 rd => k v g3 H3 ((st1.trans st2).trans st3) rd
/-- .. of one value -/
def UnOk (K : PySem.W.Frag) (r : V → Hp → VK → Prop) (f : D → Option D) : Prop := ∀ (g : G) (H : Hp) (s : S) (x : V) (a d : D) (Q : VK), SRel K g H s → Rep K g x a → f a = some d →
  (∀ v g' H', Step K g H g' H' s → Rep K g' v d → Q v H') → r x H Q
/-! ### names, constants -/
theorem d_var {i : Nat} {x : Str} {pos : Pos} (hN : X.N[i]? = some x) (hv : Vis X.env.scope x) (hd : (x == ("__debug__" : Str)) = false := by decide +kernel) (hcd : (x == ("__classdict__" : Str)) = false := by decide +kernel) : PE X (.Name x pos) (trE X.K (mVar i)) :=
  PE.imp (pe_var hN hv hd hcd) fun σ H Q ⟨g, e, s, d, s', R, E, hm, k⟩ => by
    unfold mVar at hm
    split at hm
    · rename_i d' h
      cases hm
      obtain ⟨v, h1, h2⟩ := E.val i d h
      exact ⟨v, h1, k _ _ _ (.refl R) h2⟩
    · cases hm
theorem d_c {e : Expr} {v : V} {d : D} (h : PE X e (tC v)) (r : ∀ g, Rep X.K g v d) : PE X e (trE X.K (mC d)) := PE.imp h fun σ H Q ⟨g, e, s, d, s', R, E, hm, k⟩ => by
  cases hm
  exact k _ _ _ (.refl R) (r g)
theorem d_int {i : Int} {j pos} : PE X (.Constant (.int i) j pos) (trE X.K (mC (.int i))) := d_c pe_int fun _ => .int i
theorem d_bl {b : Bool} {j pos} : PE X (.Constant (.bool b) j pos) (trE X.K (mC (.bl b))) := d_c pe_bl fun _ => .bl b
theorem d_str {x : Str} {j pos} : PE X (.Constant (.str x) j pos) (trE X.K (mC (.str x))) := d_c pe_str fun _ => .str x
/-- a constant of the module -/
theorem d_glob {x : Str} {v : V} {d : D} {pos : Pos} (hg : Gl X x) (hm : ∃ u, X.mg x = some u ∧ RelV v u) (r : ∀ g, Rep X.K g v d) (hd : (x == ("__debug__" : Str)) = false := by decide +kernel) : PE X (.Name x pos) (trE X.K (mC d)) := by
  obtain ⟨u, h1, h2⟩ := hm
  exact d_c (pe_glob hg h1 h2 hd) r
/-! ### arithmetic -/
def CMulZ (i j : Int) : Prop := i.natAbs.log2 + j.natAbs.log2 < 100000000
instance (i j : Int) : Decidable (CMulZ i j) := inferInstanceAs (Decidable (_ < _))
theorem CMulZ.ok {i j : Int} (h : CMulZ i j) : IntMulOk i j := by
  have b : ∀ x : Int, Builtin.Int.intBits x ≤ x.natAbs.log2 + 1 := fun x => by
    unfold Builtin.Int.intBits
    split <;> omega
  have h1 := b i
  have h2 := b j
  have h3 : i.natAbs.log2 + j.natAbs.log2 < 100000000 := h
  have eb : bitsLine = 134217728 := by decide
  intro w
  rw [Bool.and_eq_true] at w
  have w2 := of_decide_eq_true (show decide _ = true from w.2)
  rw [eb] at w2
  omega
theorem op_mulZ : OpR X (binaryOp .Mult) (rI CMulZ fun i j => .int (i * j)) := opI fun _ _ _ _ _ _ _ hc q => mul_int q hc.ok
def addD : D → D → Option D
  | .int i, .int j => some (.int (i + j))
  | .str x, .str y => if x.length + y.length ≤ sizeLine then some (.str (x ++ y)) else none
  | .tup a, .tup b => if a.length + b.length ≤ sizeLine then some (.tup (a ++ b)) else none
  | _, _ => none
def catD : D → D → Option D
  | .lst a, .lst b => if a.length + b.length ≤ sizeLine then some (.lst (a ++ b)) else none
  | _, _ => none
theorem fresh_upd {H : Hp} {p : Addr} {u : HO} {d : D} (R : SRel K g H s) (hp : H p = none) (h : ∀ g', GLe g g' → OwnAt K g' (upd H p u) p d) :
    Step K g H g (upd H p u) s ∧ g.F p = none ∧ p ∉ g.ad ∧ OwnAt K g (upd H p u) p d := by
  have hk : ∀ a w, H a = some w → upd H p u a = some w := fun a w e => by rw [upd_ne (ne_of_none e hp)]; exact e
  have hf : g.F p = none := by
    cases q : g.F p with
    | none => rfl
    | some w =>
      rcases R.sub p w q with z | ⟨_, o, z⟩ <;> (rw [hp] at z; cases z)
  have hc : p ∉ g.ad := fun z => by
    obtain ⟨w, q⟩ := R.has z
    rw [hp] at q; cases q
  refine ⟨⟨⟨fun a w e => ?_, R.len, fun n c e => ?_, R.inj⟩, .refl, fun _ _ h => .inl h, fun _ h => .inl h, fun a w e _ => hk a w e⟩, hf, hc, h g .refl⟩
  · rcases R.sub a w e with z | ⟨z1, o, z⟩
    · exact .inl (hk _ _ z)
    · exact .inr ⟨z1, o, hk _ _ z⟩
  · obtain ⟨a, h1, h2, h3⟩ := R.cell n c e
    exact ⟨a, h1, h2, h3.mono .refl fun u hu => hk _ _ hu⟩
/-- a new tuple, frozen at once -/
theorem fresh_tup {H : Hp} {p : Addr} {vs : List V} {ds : List D} (R : SRel K g H s) (hp : H p = none) (r : RepL K g vs ds) :
    ∃ g', Step K g H g' (upd H p (.tup vs)) s ∧ Rep K g' (.ref p) (.tup ds) := by
  have hk : ∀ a w, H a = some w → upd H p (.tup vs) a = some w := fun a w e => by rw [upd_ne (ne_of_none e hp)]; exact e
  have hf : g.F p = none := by
    cases q : g.F p with
    | none => rfl
    | some w =>
      rcases R.sub p w q with z | ⟨_, o, z⟩ <;> (rw [hp] at z; cases z)
  have hc : p ∉ g.ad := fun z => by
    obtain ⟨w, q⟩ := R.has z
    rw [hp] at q; cases q
  have R' : SRel K g (upd H p (.tup vs)) s := ⟨fun a w e => by
      rcases R.sub a w e with z | ⟨z1, o, z⟩
      · exact .inl (hk _ _ z)
      · exact .inr ⟨z1, o, hk _ _ z⟩, R.len, fun n c e => by
      obtain ⟨a, h1, h2, h3⟩ := R.cell n c e
      exact ⟨a, h1, h2, h3.mono .refl fun u hu => hk _ _ hu⟩, R.inj⟩
  have st : Step K g H g (upd H p (.tup vs)) s := ⟨R', .refl, fun _ _ h => .inl h, fun _ h => .inl h, fun a w e _ => hk a w e⟩
  exact ⟨_, st.frz hp upd_same hf hc, .tup (.inl (.inl upd_same)) (r.mono (.frz hf))⟩
theorem sqT_H {a : Addr} {vs : List V} (R : SRel K g H s) (h : SqT K g.F a vs) : SqT K H a vs := by
  rcases h with (h | ⟨o, h⟩) | h
  · rcases R.sub _ _ h with z | ⟨⟨_, z⟩, _⟩
    · exact .inl (.inl z)
    · cases z
  · rcases R.sub _ _ h with z | ⟨⟨_, z⟩, _⟩
    · exact .inl (.inr ⟨o, z⟩)
    · cases z
  · exact .inr h
theorem rd_H {a : Addr} {vs : List V} (R : SRel K g H s) (h : Rd g.F a (.lst vs)) : Rd H a (.lst vs) := by
  rcases h with h | ⟨o, h⟩
  · rcases R.sub _ _ h with z | ⟨⟨_, z⟩, _⟩
    · exact .inl z
    · cases z
  · rcases R.sub _ _ h with z | ⟨⟨_, z⟩, _⟩
    · exact .inr ⟨o, z⟩
    · cases z
/-- two lists added -/
def rCatZ : R2 := fun x y H Q => ∃ l b xs zs, x = .ref l ∧ y = .ref b ∧ Rd H l (.lst xs) ∧ Rd H b (.lst zs) ∧ xs.length + zs.length ≤ sizeLine ∧ ∀ p, H p = none → Q (.ref p) (upd H p (.lst (xs ++ zs)))
theorem op_catZ : OpR X (binaryOp .Add) rCatZ := by
  intro pins s σ H x y v u Q I rx ry h
  obtain ⟨l, b, xs, zs, rfl, rfl, hH, hB, hz, q⟩ := h
  cases rx
  cases ry
  obtain ⟨z, its, n, r, e⟩ := hH.ok I.hok
  obtain ⟨z2, its2, n2, r2, e2⟩ := hB.ok I.hok
  have l1 := r.length
  have l2 := r2.length
  refine PySem.P.add_list e e2 ?_ (by rw [List.size_toArray, List.size_toArray]; omega)
  have ea : its.toArray ++ its2.toArray = (its ++ its2).toArray := by simp
  rw [ea]
  have hf : H s.heap.objs.size = none := I.hok.fresh (Nat.le_refl _)
  refine ⟨.ref s.heap.objs.size, _, I.laid (t' := s.toks) (fun b u e => Heap.get?_push_of_some _ e) (Nat.le_refl _) ?_, rfl, q _ hf⟩
  exact ⟨by rw [List.length_append]; exact hz, its ++ its2, 0, r.append r2, Heap.get?_push_size _ rfl⟩
theorem OpR.or {f : Value → Value → Sem Value} {r r' : R2} (h : OpR X f r) (h' : OpR X f r') : OpR X f (fun x y H Q => r x y H Q ∨ r' x y H Q) := fun pins s σ H x y v u Q I rx ry q => q.elim (h pins s σ H x y v u Q I rx ry) (h' pins s σ H x y v u Q I rx ry)
theorem cat_ok : OpOkF K rCatZ catD := by
  intro g H s x y a b d Q R ra rb e k
  unfold catD at e
  split at e
  · rename_i as bs
    split at e
    · cases e
      cases ra with
      | lst h1 r1 =>
        cases rb with
        | lst h2 r2 =>
          refine ⟨_, _, _, _, rfl, rfl, rd_H R h1, rd_H R h2, by rw [r1.length, r2.length]; assumption, fun p hp => ?_⟩
          obtain ⟨st, hf, hc, o⟩ := fresh_upd (u := .lst _) (d := .lst (as ++ bs)) R hp fun g' L => ⟨_, upd_same, (r1.append r2).mono L⟩
          exact k p g _ st hp hf hc o
    · cases e
  · cases e
abbrev rAddZ (K : PySem.W.Frag) : R2 := fun x y H Q => rI0 (fun i j => .int (i + j)) x y H Q ∨ (∃ i j, x = .str i ∧ y = .str j ∧ i.length + j.length ≤ sizeLine ∧ Q (.str (i ++ j)) H) ∨ rCatA K x y H Q
theorem op_addZ : OpR X (binaryOp .Add) (rAddZ X.K) := OpR.or op_add (OpR.or op_add_str op_catA)
theorem add_ok : OpOk K (rAddZ K) addD := by
  intro g H s x y a b d Q R ra rb e k
  unfold addD at e
  split at e
  · cases e
    cases ra; cases rb
    exact .inl ⟨_, _, rfl, rfl, k _ _ _ (.refl R) (.int _)⟩
  · split at e
    · cases e
      cases ra; cases rb
      exact .inr (.inl ⟨_, _, rfl, rfl, by assumption, k _ _ _ (.refl R) (.str _)⟩)
    · cases e
  · rename_i as bs
    split at e
    · cases e
      cases ra with
      | tup h1 r1 =>
        cases rb with
        | tup h2 r2 =>
          refine .inr (.inr ⟨_, _, _, _, rfl, rfl, sqT_H R h1, sqT_H R h2, by rw [r1.length, r2.length]; assumption, fun z => ?_, fun _ z => ?_, fun _ _ p hp => ?_⟩)
          · subst z
            cases r1
            exact k _ _ _ (.refl R) (.tup h2 r2)
          · subst z
            cases r2
            rw [List.append_nil] at k
            exact k _ _ _ (.refl R) (.tup h1 r1)
          · obtain ⟨g', st, r⟩ := fresh_tup R hp (r1.append r2)
            exact k _ _ _ st r
    · cases e
  · cases e
theorem d_add {a b : Expr} {ma mb : ME} {pos : Pos} (ha : PE X a (trE X.K ma)) (hb : PE X b (trE X.K mb)) : PE X (.BinOp a .Add b pos) (trE X.K (mOp addD ma mb)) := PE.imp (pe_op op_addZ ha hb) fun _ _ _ => trE_op add_ok
theorem int_ok {C : Int → Int → Prop} {f : Int → Int → V} {f' : D → D → Option D} (h : ∀ a b d, f' a b = some d → ∃ i j d', a = .int i ∧ b = .int j ∧ C i j ∧ d = d' ∧ ∀ g, Rep K g (f i j) d') : OpOk K (rI C f) f' := by
  intro g H s x y a b d Q R ra rb e k
  obtain ⟨i, j, d', rfl, rfl, hc, rfl, r⟩ := h a b d e
  cases ra; cases rb
  exact ⟨_, _, rfl, rfl, hc, k _ _ _ (.refl R) (r g)⟩
def subD : D → D → Option D
  | .int i, .int j => some (.int (i - j))
  | _, _ => none
def mulD : D → D → Option D
  | .int i, .int j => if CMulZ i j then some (.int (i * j)) else none
  | _, _ => none
def fdivD : D → D → Option D
  | .int i, .int j => if 0 < j ∧ j.natAbs.log2 < 9000 then some (.int (i / j)) else none
  | _, _ => none
def modD : D → D → Option D
  | .int i, .int j => if 0 < j then some (.int (i % j)) else none
  | _, _ => none
def powD : D → D → Option D
  | .int i, .int j => if 0 ≤ j ∧ j ≤ 1000000 ∧ i.natAbs < 2 ^ 64 then some (.int (i ^ j.toNat)) else none
  | _, _ => none
theorem d_sub {a b : Expr} {ma mb : ME} {pos : Pos} (ha : PE X a (trE X.K ma)) (hb : PE X b (trE X.K mb)) : PE X (.BinOp a .Sub b pos) (trE X.K (mOp subD ma mb)) := PE.imp (pe_op op_sub ha hb) fun _ _ _ => trE_op (by
  intro g H s x y a b d Q R ra rb e k
  unfold subD at e
  split at e
  · cases e; cases ra; cases rb
    exact ⟨_, _, rfl, rfl, k _ _ _ (.refl R) (.int _)⟩
  · cases e)
theorem d_mul {a b : Expr} {ma mb : ME} {pos : Pos} (ha : PE X a (trE X.K ma)) (hb : PE X b (trE X.K mb)) : PE X (.BinOp a .Mult b pos) (trE X.K (mOp mulD ma mb)) := PE.imp (pe_op op_mulZ ha hb) fun _ _ _ => trE_op (by
  intro g H s x y a b d Q R ra rb e k
  unfold mulD at e
  split at e
  · split at e
    · cases e; cases ra; cases rb
      exact ⟨_, _, rfl, rfl, by assumption, k _ _ _ (.refl R) (.int _)⟩
    · cases e
  · cases e)
theorem d_fdiv {a b : Expr} {ma mb : ME} {pos : Pos} (ha : PE X a (trE X.K ma)) (hb : PE X b (trE X.K mb)) : PE X (.BinOp a .FloorDiv b pos) (trE X.K (mOp fdivD ma mb)) := PE.imp (pe_op op_fdivW ha hb) fun _ _ _ => trE_op (by
  intro g H s x y a b d Q R ra rb e k
  unfold fdivD at e
  split at e
  · split at e
    · cases e; cases ra; cases rb
      exact ⟨_, _, rfl, rfl, by assumption, k _ _ _ (.refl R) (.int _)⟩
    · cases e
  · cases e)
theorem d_mod {a b : Expr} {ma mb : ME} {pos : Pos} (ha : PE X a (trE X.K ma)) (hb : PE X b (trE X.K mb)) : PE X (.BinOp a .Mod b pos) (trE X.K (mOp modD ma mb)) := PE.imp (pe_op op_mod ha hb) fun _ _ _ => trE_op (by
  intro g H s x y a b d Q R ra rb e k
  unfold modD at e
  split at e
  · split at e
    · cases e; cases ra; cases rb
      exact ⟨_, _, rfl, rfl, by assumption, k _ _ _ (.refl R) (.int _)⟩
    · cases e
  · cases e)
theorem d_pow {a b : Expr} {ma mb : ME} {pos : Pos} (ha : PE X a (trE X.K ma)) (hb : PE X b (trE X.K mb)) : PE X (.BinOp a .Pow b pos) (trE X.K (mOp powD ma mb)) := PE.imp (pe_op op_pow ha hb) fun _ _ _ => trE_op (by
  intro g H s x y a b d Q R ra rb e k
  unfold powD at e
  split at e
  · split at e
    · cases e; cases ra; cases rb
      exact ⟨_, _, rfl, rfl, by assumption, k _ _ _ (.refl R) (.int _)⟩
    · cases e
  · cases e)
def negD : D → Option D
  | .int i => some (.int (-i))
  | _ => none
/-- xs * n, n below 2 ^ 24 -/
def repD : D → D → Option D
  | .lst a, .int n => if 0 ≤ n ∧ n ≤ 1000 ∧ a.length ≤ 1000 then some (.lst (List.replicate n.toNat a).flatten) else none
  | _, _ => none
def rRepZ : R2 := fun x y H Q => ∃ l k xs, x = .ref l ∧ y = .int k ∧ Rd H l (.lst xs) ∧ 0 ≤ k ∧ k ≤ 1000 ∧ xs.length ≤ 1000 ∧ ∀ p, H p = none → Q (.ref p) (upd H p (.lst (List.replicate k.toNat xs).flatten))
end
end Z

set_option Elab.async false
set_option linter.all false
set_option maxRecDepth 100000
set_option maxHeartbeats 4000000
namespace Z
open PySem PySem.Spec PyProof.Rows L2
/-! ### data -/
mutual
def toP : D → Option PyData
  | .non => some .none
  | .bl b => some (.bool b)
  | .int i => some (.int i)
  | .str x => some (.str x)
  | .tup ds => (toPL ds).map .tuple
  | .lst ds => (toPL ds).map .list
  | _ => none
def toPL : List D → Option (List PyData)
  | [] => some []
  | d :: ds => match toP d with
    | some p => (toPL ds).map (p :: ·)
    | none => none
end
section
variable {X : Cx} {K : PySem.W.Frag} {g : G} {H : Hp} {s : S}
mutual
theorem dp_of (R : SRel K g H s) : ∀ {v : V} {d : D} {p : PyData}, Rep K g v d → toP d = some p → Dp K H v p
  | _, _, _, .non, e => by simp only [toP] at e; cases e; exact .non
  | _, _, _, .bl b, e => by simp only [toP] at e; cases e; exact .bl b
  | _, _, _, .int b, e => by simp only [toP] at e; cases e; exact .int b
  | _, _, _, .str b, e => by simp only [toP] at e; cases e; exact .str b
  | _, _, _, .tup h r, e => by
    simp only [toP] at e
    obtain ⟨q, h1, rfl⟩ := Option.map_eq_some_iff.mp e
    exact .tup (sqT_H R h) (dpL_of R r h1)
  | _, _, _, .lst h r, e => by
    simp only [toP] at e
    obtain ⟨q, h1, rfl⟩ := Option.map_eq_some_iff.mp e
    exact .lst (.inl (rd_H R h)) (dpL_of R r h1)
  | _, _, _, .dic _ _, e => by simp only [toP] at e; cases e
  | _, _, _, .obj _ _, e => by simp only [toP] at e; cases e
  | _, _, _, .cel _, e => by simp only [toP] at e; cases e
  | _, _, _, .opq _, e => by simp only [toP] at e; cases e
theorem dpL_of (R : SRel K g H s) : ∀ {v : List V} {d : List D} {p : List PyData}, RepL K g v d → toPL d = some p → DpAll K H v p
  | _, _, _, .nil, e => by simp only [toPL] at e; cases e; exact .nil
  | _, _, _, .cons h r, e => by
    simp only [toPL] at e
    split at e
    · rename_i p hp
      obtain ⟨q, h1, rfl⟩ := Option.map_eq_some_iff.mp e
      exact .cons (dp_of R h hp) (dpL_of R r h1)
    · cases e
end
/-! ### == -/
def toV0 : D → Option V
  | .non => some .non
  | .bl b => some (.bl b)
  | .int i => some (.int i)
  | .str x => some (.str x)
  | _ => none
theorem rep_V0 {v : V} {d : D} {x : V} (r : Rep K g v d) (h : toV0 d = some x) : v = x := by
  cases r <;> simp only [toV0] at h <;> cases h <;> rfl
def eqB (a b : D) : Option Bool := match toV0 a, toV0 b with
  | some x, some y => if scal x y = true then some (decide (x = y)) else none
  | _, _ => match toP a, toP b with
    | some p, some q => if SeqAt.shaped p = true ∧ SeqAt.shaped q = true then some (PyData.eqv p q) else none
    | _, _ => none
def eqD (a b : D) : Option D := (eqB a b).map .bl
def neD (a b : D) : Option D := (eqB a b).map fun k => .bl (!k)
abbrev rEqZ (K : PySem.W.Frag) : R2 := fun x y H Q => rEq x y H Q ∨ rEqD K x y H Q
abbrev rNeZ (K : PySem.W.Frag) : R2 := fun x y H Q => rNe x y H Q ∨ rNeD K x y H Q
theorem eq_ok : OpOk K (rEqZ K) eqD := by
  intro g H s x y a b d Q R ra rb e k
  unfold eqD at e
  obtain ⟨c, h, rfl⟩ := Option.map_eq_some_iff.mp e
  unfold eqB at h
  split at h
  · rename_i u w h1 h2
    split at h
    · cases h
      rw [rep_V0 ra h1, rep_V0 rb h2]
      exact .inl ⟨by assumption, k _ _ _ (.refl R) (.bl _)⟩
    · cases h
  · split at h
    · rename_i p q h1 h2
      split at h
      · rename_i hs
        cases h
        exact .inr ⟨p, q, dp_of R ra h1, dp_of R rb h2, hs.1, hs.2, k _ _ _ (.refl R) (.bl _)⟩
      · cases h
    · cases h
theorem ne_ok : OpOk K (rNeZ K) neD := by
  intro g H s x y a b d Q R ra rb e k
  unfold neD at e
  obtain ⟨c, h, rfl⟩ := Option.map_eq_some_iff.mp e
  unfold eqB at h
  split at h
  · rename_i u w h1 h2
    split at h
    · cases h
      rw [rep_V0 ra h1, rep_V0 rb h2]
      exact .inl ⟨by assumption, k _ _ _ (.refl R) (.bl _)⟩
    · cases h
  · split at h
    · rename_i p q h1 h2
      split at h
      · rename_i hs
        cases h
        exact .inr ⟨p, q, dp_of R ra h1, dp_of R rb h2, hs.1, hs.2, k _ _ _ (.refl R) (.bl _)⟩
      · cases h
    · cases h
variable {a b c : Expr} {ma mb mc : ME} {pos : Pos}
theorem d_eq (hu : X.A.units + 64 < cLine) (ha : PE X a (trE X.K ma)) (hb : PE X b (trE X.K mb)) : PE X (.Compare a [.Eq] [b] pos) (trE X.K (mOp eqD ma mb)) := PE.imp (pe_cmpR (OpR.or op_eq (op_eqD hu)) ha hb (nomark _)) fun _ _ _ => trE_op eq_ok
/-! ### order -/
def ltD : D → D → Option D
  | .int i, .int j => some (.bl (decide (i < j)))
  | .str x, .str y => some (.bl (decide (x.cps.toList < y.cps.toList)))
  | _, _ => none
def leD : D → D → Option D
  | .int i, .int j => some (.bl (decide (i ≤ j)))
  | .str x, .str y => some (.bl (!decide (y.cps.toList < x.cps.toList)))
  | _, _ => none
def gtD : D → D → Option D
  | .int i, .int j => some (.bl (decide (j < i)))
  | .str x, .str y => some (.bl (decide (y.cps.toList < x.cps.toList)))
  | _, _ => none
def geD : D → D → Option D
  | .int i, .int j => some (.bl (decide (j ≤ i)))
  | .str x, .str y => some (.bl (!decide (x.cps.toList < y.cps.toList)))
  | _, _ => none
abbrev rSS (f : Str → Str → Bool) : R2 := fun x y H Q => ∃ i j, x = .str i ∧ y = .str j ∧ Q (.bl (f i j)) H
theorem ord_ok {fi : Int → Int → Bool} {fs : Str → Str → Bool} {f : D → D → Option D} (h1 : ∀ i j, f (.int i) (.int j) = some (.bl (fi i j))) (h2 : ∀ i j, f (.str i) (.str j) = some (.bl (fs i j)))
    (h3 : ∀ a b d, f a b = some d → (∃ i j, a = .int i ∧ b = .int j) ∨ ∃ i j, a = .str i ∧ b = .str j) : OpOk K (fun x y H Q => rI0 (fun i j => .bl (fi i j)) x y H Q ∨ rSS fs x y H Q) f := by
  intro g H s x y a b d Q R ra rb e k
  rcases h3 a b d e with ⟨i, j, rfl, rfl⟩ | ⟨i, j, rfl, rfl⟩
  · rw [h1] at e; cases e; cases ra; cases rb
    exact .inl ⟨_, _, rfl, rfl, k _ _ _ (.refl R) (.bl _)⟩
  · rw [h2] at e; cases e; cases ra; cases rb
    exact .inr ⟨_, _, rfl, rfl, k _ _ _ (.refl R) (.bl _)⟩
theorem lt_ok : OpOk K (fun x y H Q => rI0 (fun i j => .bl (decide (i < j))) x y H Q ∨ rSS (fun x y => decide (x.cps.toList < y.cps.toList)) x y H Q) ltD := ord_ok (fun _ _ => rfl) (fun _ _ => rfl) fun a b d h => by
  unfold ltD at h; split at h <;> first | exact .inl ⟨_, _, rfl, rfl⟩ | exact .inr ⟨_, _, rfl, rfl⟩ | cases h
theorem le_ok : OpOk K (fun x y H Q => rI0 (fun i j => .bl (decide (i ≤ j))) x y H Q ∨ rSS (fun x y => !decide (y.cps.toList < x.cps.toList)) x y H Q) leD := ord_ok (fun _ _ => rfl) (fun _ _ => rfl) fun a b d h => by
  unfold leD at h; split at h <;> first | exact .inl ⟨_, _, rfl, rfl⟩ | exact .inr ⟨_, _, rfl, rfl⟩ | cases h
theorem gt_ok : OpOk K (fun x y H Q => rI0 (fun i j => .bl (decide (j < i))) x y H Q ∨ rSS (fun x y => decide (y.cps.toList < x.cps.toList)) x y H Q) gtD := ord_ok (fun _ _ => rfl) (fun _ _ => rfl) fun a b d h => by
  unfold gtD at h; split at h <;> first | exact .inl ⟨_, _, rfl, rfl⟩ | exact .inr ⟨_, _, rfl, rfl⟩ | cases h
theorem ge_ok : OpOk K (fun x y H Q => rI0 (fun i j => .bl (decide (j ≤ i))) x y H Q ∨ rSS (fun x y => !decide (x.cps.toList < y.cps.toList)) x y H Q) geD := ord_ok (fun _ _ => rfl) (fun _ _ => rfl) fun a b d h => by
  unfold geD at h; split at h <;> first | exact .inl ⟨_, _, rfl, rfl⟩ | exact .inr ⟨_, _, rfl, rfl⟩ | cases h
abbrev oLt : OpR X (compareOp .Lt) (fun x y H Q => rI0 (fun i j => .bl (decide (i < j))) x y H Q ∨ rSS (fun x y => decide (x.cps.toList < y.cps.toList)) x y H Q) := OpR.or op_lt op_lt_str
abbrev oLe : OpR X (compareOp .LtE) (fun x y H Q => rI0 (fun i j => .bl (decide (i ≤ j))) x y H Q ∨ rSS (fun x y => !decide (y.cps.toList < x.cps.toList)) x y H Q) := OpR.or op_le op_le_str
abbrev oGt : OpR X (compareOp .Gt) (fun x y H Q => rI0 (fun i j => .bl (decide (j < i))) x y H Q ∨ rSS (fun x y => decide (y.cps.toList < x.cps.toList)) x y H Q) := OpR.or op_gt op_gt_str
abbrev oGe : OpR X (compareOp .GtE) (fun x y H Q => rI0 (fun i j => .bl (decide (j ≤ i))) x y H Q ∨ rSS (fun x y => !decide (x.cps.toList < y.cps.toList)) x y H Q) := OpR.or op_ge op_ge_str
theorem d_lt (ha : PE X a (trE X.K ma)) (hb : PE X b (trE X.K mb)) : PE X (.Compare a [.Lt] [b] pos) (trE X.K (mOp ltD ma mb)) := PE.imp (pe_cmpR oLt ha hb (nomark _)) fun _ _ _ => trE_op lt_ok
/-- a op b op' c -/
def mChain (f f' : D → D → Option D) (ma mb mc : ME) : ME := fun e s => bnd (ma e s) fun a s => bnd (mb e s) fun b s => bnd (lft (f a b) s) fun k s => match k with
  | .bl true => bnd (mc e s) fun c s => lft (f' b c) s
  | .bl false => some (.bl false, s)
  | _ => none
theorem trE_chain {r r' : R2} {f f' : D → D → Option D} (h : OpOk K r f) (h' : OpOk K r' f') {σ : L2.St} {H : Hp} {Q : VK} (q : trE K (mChain f f' ma mb mc) σ H Q) : tChain r r' (trE K ma) (trE K mb) (trE K mc) σ H Q := by
  obtain ⟨g, e, s, d, s', R, E, hm, k⟩ := q
  obtain ⟨a, s1, h1, hm1⟩ := bnd_some hm
  obtain ⟨b, s2, h2, hm2⟩ := bnd_some hm1
  obtain ⟨z, s3, h3, hm3⟩ := bnd_some hm2
  obtain ⟨h4, h5⟩ := lft_some h3
  dsimp only at h4 h5
  subst h5
  refine ⟨g, e, s, a, s1, R, E, h1, fun x g1 H1 st1 ra => ⟨g1, e, s1, b, s3, st1.rel, E.step st1, h2, fun y g2 H2 st2 rb => ?_⟩⟩
  have rd := ra.mono st2.le
  refine h g2 H2 s3 x y a b z _ st2.rel rd rb h4 fun v g3 H3 st3 rz => ?_
  have st := (st1.trans st2).trans st3
  split at hm3
  · cases rz
    refine ⟨true, rfl, ?_⟩
    rw [if_pos rfl]
    obtain ⟨cc, s5, h6, hm4⟩ := bnd_some hm3
    obtain ⟨h7, h8⟩ := lft_some hm4
    dsimp only at h7 h8
    subst h8
    refine ⟨g3, e, s3, cc, s', st.rel, E.step st, h6, fun w g4 H4 st4 rc => ?_⟩
    exact h' g4 H4 s' y w b cc d Q st4.rel (rb.mono (st3.le.trans st4.le)) rc h7 fun v g5 H5 st5 rv => k v g5 H5 ((st.trans st4).trans st5) rv
  · cases rz
    cases hm3
    refine ⟨false, rfl, ?_⟩
    rw [if_neg Bool.false_ne_true]
    exact k _ _ _ st (.bl _)
  · cases hm3
theorem d_lele (ha : PE X a (trE X.K ma)) (hb : PE X b (trE X.K mb)) (hc : PE X c (trE X.K mc)) : PE X (.Compare a [.LtE, .LtE] [b, c] pos) (trE X.K (mChain leD leD ma mb mc)) := PE.imp (pe_chain oLe oLe ha hb hc (nomark c)) fun _ _ _ => trE_chain le_ok le_ok
/-! ### is None -/
def isND : D → Option D
  | .non => some (.bl true)
  | .opq _ => none
  | _ => some (.bl false)
def notND : D → Option D
  | .non => some (.bl false)
  | .opq _ => none
  | _ => some (.bl true)
end
end Z

set_option Elab.async false
set_option linter.all false
set_option maxRecDepth 100000
set_option maxHeartbeats 4000000
namespace Z
open PySem PySem.Spec PyProof.Rows L2
section
variable {X : Cx} {K : PySem.W.Frag} {g : G} {H : Hp} {s : S}
/-! ### dicts: looking -/
def keyD : D → Option Key
  | .int i => some (.inl i)
  | .str x => some (.inr x)
  | _ => none
theorem rep_key {v : V} {d : D} {k : Key} (r : Rep K g v d) (h : keyD d = some k) : v = kV k := by
  cases r <;> simp only [keyD] at h <;> cases h <;> rfl
def lookD (kvs : List (Key × D)) (k : Key) : Option D := (kvs.find? fun kv => decide (kv.1 = k)).map (·.2)
theorem repK_look {k : Key} : ∀ {vs : List (Key × V)} {ds : List (Key × D)}, RepK K g vs ds → (valV vs k = none ∧ lookD ds k = none) ∨ ∃ v d, valV vs k = some v ∧ lookD ds k = some d ∧ Rep K g v d
  | _, _, .nil => .inl ⟨rfl, rfl⟩
  | _, _, .cons (k := k') (v := v) (d := d) h r => by
    by_cases e : k' = k
    · exact .inr ⟨v, d, by simp [valV, e], by simp [lookD, e], h⟩
    · rcases repK_look (k := k) r with ⟨h1, h2⟩ | ⟨v, d, h1, h2, h3⟩
      · exact .inl ⟨by rw [← h1]; simp [valV, e], by rw [← h2]; simp [lookD, e]⟩
      · exact .inr ⟨v, d, by rw [← h1]; simp [valV, e], by rw [← h2]; simp [lookD, e], h3⟩
theorem rdK_H {a : Addr} {kvs : List (Key × V)} (R : SRel K g H s) (h : g.F a = some (.dK kvs)) : Rd H a (.dK kvs) := by
  rcases R.sub _ _ h with z | ⟨_, o, z⟩
  · exact .inl z
  · exact .inr ⟨o, z⟩
/-! ### in -/
def memS (w z : Str) : Bool := match w.cps.toList with
  | [c] => decide (c ∈ z.cps.toList)
  | _ => !(Builtin.Str.occurrences z w 0 z.length 1).isEmpty
def flats : List D → Option (List V)
  | [] => some []
  | d :: ds => match toV0 d with
    | some v => (flats ds).map (v :: ·)
    | none => none
def inB (x y : D) : Option Bool := match y with
  | .str z => match x with
    | .str w => some (memS w z)
    | _ => none
  | .lst ys => match toV0 x, flats ys with
    | some v, some vs => some (inV v vs)
    | _, _ => none
  | .tup ys => match toV0 x, flats ys with
    | some v, some vs => some (inV v vs)
    | _, _ => none
  | _ => none
def inD (x y : D) : Option D := (inB x y).map .bl
def notInD (x y : D) : Option D := (inB x y).map fun b => .bl (!b)
theorem flat_V0 {d : D} {v : V} (h : toV0 d = some v) : flatV v = true := by
  cases d <;> simp only [toV0] at h <;> cases h <;> rfl
theorem flats_of : ∀ {us : List V} {ds : List D} {vs : List V}, RepL K g us ds → flats ds = some vs → us = vs ∧ vs.all flatV = true
  | _, _, _, .nil, e => by simp only [flats] at e; cases e; exact ⟨rfl, rfl⟩
  | _, _, _, .cons h r, e => by
    simp only [flats] at e
    split at e
    · rename_i v hv
      obtain ⟨q, h1, rfl⟩ := Option.map_eq_some_iff.mp e
      obtain ⟨e1, e2⟩ := flats_of r h1
      rw [rep_V0 h hv, e1]
      exact ⟨rfl, by rw [List.all_cons, flat_V0 hv, e2]; rfl⟩
    · cases e
abbrev rInZ (K : PySem.W.Frag) : R2 := fun x y H Q => (∃ (c : Nat) (z : Str), x = .str ⟨#[c]⟩ ∧ y = .str z ∧ Q (.bl (decide (c ∈ z.cps.toList))) H) ∨ (∃ i j, x = .str i ∧ y = .str j ∧ Q (.bl (!(Builtin.Str.occurrences j i 0 j.length 1).isEmpty)) H) ∨ rIn K false x y H Q
abbrev rNotInZ (K : PySem.W.Frag) : R2 := fun x y H Q => (∃ (c : Nat) (z : Str), x = .str ⟨#[c]⟩ ∧ y = .str z ∧ Q (.bl (!decide (c ∈ z.cps.toList))) H) ∨ (∃ i j, x = .str i ∧ y = .str j ∧ Q (.bl (!(!(Builtin.Str.occurrences j i 0 j.length 1).isEmpty))) H) ∨ rIn K true x y H Q
theorem str_one {w : Str} {c : Nat} (h : w.cps.toList = [c]) : w = ⟨#[c]⟩ := by
  obtain ⟨⟨l⟩⟩ := w
  cases h
  rfl
theorem in_ok : OpOk K (rInZ K) inD := by
  intro g H s x y a b d Q R ra rb e k
  unfold inD at e
  obtain ⟨c, h, rfl⟩ := Option.map_eq_some_iff.mp e
  unfold inB at h
  split at h
  · split at h
    · cases h; cases ra; cases rb
      rename_i z _ w
      have hk := k _ _ _ (.refl R) (.bl (memS w z))
      unfold memS at hk
      split at hk
      · rename_i c hc
        exact .inl ⟨c, z, by rw [str_one hc], rfl, hk⟩
      · exact .inr (.inl ⟨_, _, rfl, rfl, hk⟩)
    · cases h
  · split at h
    · rename_i v vs h1 h2
      cases h
      cases rb with
      | lst hl rl =>
        obtain ⟨rfl, hf⟩ := flats_of rl h2
        rw [rep_V0 ra h1]
        exact .inr (.inr ⟨_, _, rfl, .inl (.inl (rd_H R hl)), flat_V0 h1, hf, k _ _ _ (.refl R) (.bl _)⟩)
    · cases h
  · split at h
    · rename_i v vs h1 h2
      cases h
      cases rb with
      | tup hl rl =>
        obtain ⟨rfl, hf⟩ := flats_of rl h2
        rw [rep_V0 ra h1]
        exact .inr (.inr ⟨_, _, rfl, .inr (sqT_H R hl), flat_V0 h1, hf, k _ _ _ (.refl R) (.bl _)⟩)
    · cases h
  · cases h
theorem notIn_ok : OpOk K (rNotInZ K) notInD := by
  intro g H s x y a b d Q R ra rb e k
  unfold notInD at e
  obtain ⟨c, h, rfl⟩ := Option.map_eq_some_iff.mp e
  unfold inB at h
  split at h
  · split at h
    · cases h; cases ra; cases rb
      rename_i z _ w
      have hk := k _ _ _ (.refl R) (.bl (!memS w z))
      unfold memS at hk
      split at hk
      · rename_i c hc
        exact .inl ⟨c, z, by rw [str_one hc], rfl, hk⟩
      · exact .inr (.inl ⟨_, _, rfl, rfl, hk⟩)
    · cases h
  · split at h
    · rename_i v vs h1 h2
      cases h
      cases rb with
      | lst hl rl =>
        obtain ⟨rfl, hf⟩ := flats_of rl h2
        rw [rep_V0 ra h1]
        exact .inr (.inr ⟨_, _, rfl, .inl (.inl (rd_H R hl)), flat_V0 h1, hf, k _ _ _ (.refl R) (.bl _)⟩)
    · cases h
  · split at h
    · rename_i v vs h1 h2
      cases h
      cases rb with
      | tup hl rl =>
        obtain ⟨rfl, hf⟩ := flats_of rl h2
        rw [rep_V0 ra h1]
        exact .inr (.inr ⟨_, _, rfl, .inr (sqT_H R hl), flat_V0 h1, hf, k _ _ _ (.refl R) (.bl _)⟩)
    · cases h
  · cases h
variable {a b c : Expr} {ma mb mc : ME} {pos : Pos}
theorem oIn : OpR X (compareOp .In) (rInZ X.K) := OpR.or op_in_sign (OpR.or op_in_str op_in_seq)
theorem oNotIn : OpR X (compareOp .NotIn) (rNotInZ X.K) := OpR.or op_notIn_sign (OpR.or op_notIn_str op_notIn_seq)
/-- k in d -/
def inDic (x y : D) : Option D := match y with
  | .dic kvs => (keyD x).map fun k => .bl (lookD kvs k).isSome
  | _ => none
def notInDic (x y : D) : Option D := match y with
  | .dic kvs => (keyD x).map fun k => .bl (!(lookD kvs k).isSome)
  | _ => none
theorem dget_of {x y : V} {kvs : List (Key × D)} {k : Key} {a : D} (R : SRel K g H s) (rx : Rep K g x (.dic kvs)) (ry : Rep K g y a) (hk : keyD a = some k) : ∃ p o, x = .ref p ∧ DGet H p y o ∧ (o = none ∧ lookD kvs k = none ∨ ∃ v d, o = some v ∧ lookD kvs k = some d ∧ Rep K g v d) := by
  cases rx with
  | dic h r =>
    refine ⟨_, _, rfl, .inl ⟨_, k, rdK_H R h, rep_key ry hk, rfl⟩, ?_⟩
    exact repK_look r
theorem inDic_ok : OpOk K (fun y x H Q => ∃ a o, x = .ref a ∧ DGet H a y o ∧ Q (.bl o.isSome) H) inDic := by
  intro g H s y x b a d Q R rb ra e k
  unfold inDic at e
  split at e
  · obtain ⟨kk, h, rfl⟩ := Option.map_eq_some_iff.mp e
    obtain ⟨p, o, rfl, hd, h2⟩ := dget_of R ra rb h
    refine ⟨p, o, rfl, hd, ?_⟩
    rcases h2 with ⟨rfl, h3⟩ | ⟨v, d, rfl, h3, _⟩ <;> (rw [h3] at k; exact k _ _ _ (.refl R) (.bl _))
  · cases e
theorem d_inDic (hu : X.A.units + 64 < cLine) (ha : PE X a (trE X.K ma)) (hb : PE X b (trE X.K mb)) (hm : behindInMarks .In b = false := by rfl) : PE X (.Compare a [.In] [b] pos) (trE X.K (mOp inDic ma mb)) := PE.imp (pe_cmp (pc_din (by omega) ha hb) hm) fun _ _ _ => trE_op inDic_ok
/-- either of two readings -/
def orM (m m' : ME) : ME := fun e s => match m e s with
  | some r => some r
  | none => m' e s
/-! ### truth, logic -/
def truD : D → Option Bool
  | .non => some false
  | .bl b => some b
  | .int i => some (i != 0)
  | .str y => if y.length ≤ sizeLine then some ((y.length : Int) != 0) else none
  | .lst ds => some (!ds.isEmpty)
  | .tup ds => some (!ds.isEmpty)
  | _ => none
theorem isEmpty_rep : ∀ {vs : List V} {ds : List D}, RepL K g vs ds → vs.isEmpty = ds.isEmpty
  | _, _, .nil => rfl
  | _, _, .cons _ _ => rfl
theorem tru_of {v : V} {d : D} {k : Bool} (R : SRel K g H s) (r : Rep K g v d) (h : truD d = some k) : TruV K v H k := by
  cases r with
  | non => simp only [truD] at h; cases h; rfl
  | bl b => simp only [truD] at h; cases h; rfl
  | int i => simp only [truD] at h; cases h; rfl
  | str y =>
    simp only [truD] at h
    split at h
    · cases h; exact ⟨by assumption, rfl⟩
    · cases h
  | lst hl r => simp only [truD] at h; cases h; exact .inl ⟨_, .inl (rd_H R hl), by rw [isEmpty_rep r]⟩
  | tup hl r => simp only [truD] at h; cases h; exact .inr (.inl ⟨_, sqT_H R hl, by rw [isEmpty_rep r]⟩)
  | _ => simp only [truD] at h <;> cases h
def mAnd (ma mb : ME) : ME := fun e s => bnd (ma e s) fun a s => bnd (lft (truD a) s) fun k s => match k with
  | true => mb e s
  | false => some (a, s)
def mOr (ma mb : ME) : ME := fun e s => bnd (ma e s) fun a s => bnd (lft (truD a) s) fun k s => match k with
  | true => some (a, s)
  | false => mb e s
def notD (a : D) : Option D := (truD a).map fun k => .bl (!k)
variable {rest : List Expr}
theorem d_and (ha : PE X a (trE X.K ma)) (hb : PE X (.BoolOp .And (b :: rest) pos) (trE X.K mb)) : PE X (.BoolOp .And (a :: b :: rest) pos) (trE X.K (mAnd ma mb)) := PE.imp (pe_andT ha hb) fun σ H Q ⟨g, e, s, d, s', R, E, hm, k⟩ => by
  obtain ⟨a, s1, h1, hm1⟩ := bnd_some hm
  obtain ⟨z, s2, h2, hm2⟩ := bnd_some hm1
  obtain ⟨h3, h4⟩ := lft_some h2
  dsimp only at h3 h4
  subst h4
  refine ⟨g, e, s, a, s2, R, E, h1, fun x g1 H1 st1 ra => ⟨z, tru_of st1.rel ra h3, ?_⟩⟩
  cases z with
  | true => exact ⟨g1, e, s2, d, s', st1.rel, E.step st1, hm2, fun v g2 H2 st2 rv => k v g2 H2 (st1.trans st2) rv⟩
  | false => cases hm2; exact k _ _ _ st1 ra
theorem d_one {op} (ha : PE X a (trE X.K ma)) : PE X (.BoolOp op [a] pos) (trE X.K ma) := pe_one ha
theorem d_not (ha : PE X a (trE X.K ma)) : PE X (.UnaryOp .Not a pos) (trE X.K (mUn notD ma)) := PE.imp (pe_notT ha) fun σ H Q ⟨g, e, s, d, s', R, E, hm, k⟩ => by
  obtain ⟨a, s1, h1, hm1⟩ := bnd_some hm
  obtain ⟨h3, h4⟩ := lft_some hm1
  dsimp only at h3 h4
  subst h4
  obtain ⟨z, h5, rfl⟩ := Option.map_eq_some_iff.mp h3
  exact ⟨g, e, s, a, s', R, E, h1, fun x g1 H1 st1 ra => ⟨z, tru_of st1.rel ra h5, k _ _ _ st1 (.bl _)⟩⟩
/-! ### tests -/
def mT (m : ME) : MT := fun e s => bnd (m e s) fun d s => lft (truD d) s
/-- a plain expression as a test -/
theorem t_of (ha : PE X a (trE X.K ma)) (he : ∀ whole, isTrue a X.env whole = (do let v ← whole; standAt a.pos; holding [v] (truthy v)) := by intro _; rfl) : PT X a (trT X.K (mT ma)) := PT.imp (pt_truth ha he) fun σ H Q ⟨g, e, s, b, s', R, E, hm, k⟩ => by
  obtain ⟨a, s1, h1, hm1⟩ := bnd_some hm
  obtain ⟨h3, h4⟩ := lft_some hm1
  dsimp only at h3 h4
  subst h4
  exact ⟨g, e, s, a, s', R, E, h1, fun x g1 H1 st1 ra => ⟨b, tru_of st1.rel ra h3, k _ _ st1⟩⟩
def Bly (f : D → D → Option D) : Prop := ∀ a b d, f a b = some d → ∃ k, d = .bl k
theorem trT_op {r : R2} {f : D → D → Option D} (h : OpOk K r f) (hb : Bly f) {σ : L2.St} {H : Hp} {Q : Bool → Hp → Prop} (q : trT K (mT (mOp f ma mb)) σ H Q) : tTest (tOp r (trE K ma) (trE K mb)) σ H Q := by
  obtain ⟨g, e, s, t, s', R, E, hm, k⟩ := q
  obtain ⟨d, s0, hm0, hmt⟩ := bnd_some hm
  obtain ⟨h6, h7⟩ := lft_some hmt
  dsimp only at h6 h7
  subst h7
  obtain ⟨a, s1, h1, hm1⟩ := bnd_some hm0
  obtain ⟨b, s2, h2, hm2⟩ := bnd_some hm1
  obtain ⟨h3, h4⟩ := lft_some hm2
  dsimp only at h3 h4
  subst h4
  obtain ⟨kk, rfl⟩ := hb _ _ _ h3
  cases h6
  refine ⟨g, e, s, a, s1, R, E, h1, fun x g1 H1 st1 ra => ⟨g1, e, s1, b, s', st1.rel, E.step st1, h2, fun y g2 H2 st2 rb => ?_⟩⟩
  refine h g2 H2 s' x y a b _ _ st2.rel (ra.mono st2.le) rb h3 fun v g3 H3 st3 rd => ?_
  cases rd
  exact ⟨_, rfl, k g3 H3 ((st1.trans st2).trans st3)⟩
theorem bly_eq : Bly eqD := fun a b d h => by unfold eqD at h; obtain ⟨c, _, rfl⟩ := Option.map_eq_some_iff.mp h; exact ⟨_, rfl⟩
theorem bly_ne : Bly neD := fun a b d h => by unfold neD at h; obtain ⟨c, _, rfl⟩ := Option.map_eq_some_iff.mp h; exact ⟨_, rfl⟩
theorem bly_lt : Bly ltD := fun a b d h => by unfold ltD at h; split at h <;> cases h <;> exact ⟨_, rfl⟩
theorem bly_le : Bly leD := fun a b d h => by unfold leD at h; split at h <;> cases h <;> exact ⟨_, rfl⟩
theorem bly_gt : Bly gtD := fun a b d h => by unfold gtD at h; split at h <;> cases h <;> exact ⟨_, rfl⟩
theorem bly_ge : Bly geD := fun a b d h => by unfold geD at h; split at h <;> cases h <;> exact ⟨_, rfl⟩
theorem t_eq (hu : X.A.units + 64 < cLine) (ha : PE X a (trE X.K ma)) (hb : PE X b (trE X.K mb)) : PT X (.Compare a [.Eq] [b] pos) (trT X.K (mT (mOp eqD ma mb))) := PT.imp (pt_cmpR (OpR.or op_eq (op_eqD hu)) ha hb (nomark _)) fun _ _ _ => trT_op eq_ok bly_eq
theorem t_ne (hu : X.A.units + 64 < cLine) (ha : PE X a (trE X.K ma)) (hb : PE X b (trE X.K mb)) : PT X (.Compare a [.NotEq] [b] pos) (trT X.K (mT (mOp neD ma mb))) := PT.imp (pt_cmpR (OpR.or op_ne (op_neD hu)) ha hb (nomark _)) fun _ _ _ => trT_op ne_ok bly_ne
theorem t_lt (ha : PE X a (trE X.K ma)) (hb : PE X b (trE X.K mb)) : PT X (.Compare a [.Lt] [b] pos) (trT X.K (mT (mOp ltD ma mb))) := PT.imp (pt_cmpR oLt ha hb (nomark _)) fun _ _ _ => trT_op lt_ok bly_lt
theorem t_gt (ha : PE X a (trE X.K ma)) (hb : PE X b (trE X.K mb)) : PT X (.Compare a [.Gt] [b] pos) (trT X.K (mT (mOp gtD ma mb))) := PT.imp (pt_cmpR oGt ha hb (nomark _)) fun _ _ _ => trT_op gt_ok bly_gt
theorem t_ge (ha : PE X a (trE X.K ma)) (hb : PE X b (trE X.K mb)) : PT X (.Compare a [.GtE] [b] pos) (trT X.K (mT (mOp geD ma mb))) := PT.imp (pt_cmpR oGe ha hb (nomark _)) fun _ _ _ => trT_op ge_ok bly_ge
/-- either of two readings, of tests -/
def orT (m m' : MT) : MT := fun e s => match m e s with
  | some r => some r
  | none => m' e s
variable {ta tb : MT}
def tAndZ (ta tb : MT) : MT := fun e s => bnd (ta e s) fun k s => match k with
  | true => tb e s
  | false => some (false, s)
def tOrZ (ta tb : MT) : MT := fun e s => bnd (ta e s) fun k s => match k with
  | true => some (true, s)
  | false => tb e s
def tNotZ (ta : MT) : MT := fun e s => bnd (ta e s) fun k s => some (!k, s)
theorem w_and1 (ha : PT X a (trT X.K ta)) : PW X (.BoolOp .And [a] pos) (trT X.K ta) := pw_and1 ha
theorem w_or1 (ha : PT X a (trT X.K ta)) : PW X (.BoolOp .Or [a] pos) (trT X.K ta) := pw_or1 ha
theorem w_and (ha : PT X a (trT X.K ta)) (hb : PW X (.BoolOp .And (b :: rest) pos) (trT X.K tb)) : PW X (.BoolOp .And (a :: b :: rest) pos) (trT X.K (tAndZ ta tb)) := PW.imp (pw_and ha hb) fun σ H Q ⟨g, e, s, t, s', R, E, hm, k⟩ => by
  obtain ⟨z, s1, h1, hm1⟩ := bnd_some hm
  refine ⟨g, e, s, z, s1, R, E, h1, fun g1 H1 st1 => ?_⟩
  cases z with
  | true => exact iteT ⟨g1, e, s1, t, s', st1.rel, E.step st1, hm1, fun g2 H2 st2 => k g2 H2 (st1.trans st2)⟩
  | false => cases hm1; exact iteF (k _ _ st1)
theorem w_or (ha : PT X a (trT X.K ta)) (hb : PW X (.BoolOp .Or (b :: rest) pos) (trT X.K tb)) : PW X (.BoolOp .Or (a :: b :: rest) pos) (trT X.K (tOrZ ta tb)) := PW.imp (pw_or ha hb) fun σ H Q ⟨g, e, s, t, s', R, E, hm, k⟩ => by
  obtain ⟨z, s1, h1, hm1⟩ := bnd_some hm
  refine ⟨g, e, s, z, s1, R, E, h1, fun g1 H1 st1 => ?_⟩
  cases z with
  | false => exact iteF ⟨g1, e, s1, t, s', st1.rel, E.step st1, hm1, fun g2 H2 st2 => k g2 H2 (st1.trans st2)⟩
  | true => cases hm1; exact iteT (k _ _ st1)
theorem t_bool {e : Expr} {m : MT} (h : PW X e (trT X.K m)) : PT X e (trT X.K m) := h.pt
theorem t_not (ha : PT X a (trT X.K ta)) : PT X (.UnaryOp .Not a pos) (trT X.K (tNotZ ta)) := PT.imp (pt_not ha) fun σ H Q ⟨g, e, s, t, s', R, E, hm, k⟩ => by
  obtain ⟨z, s1, h1, hm1⟩ := bnd_some hm
  cases hm1
  exact ⟨g, e, s, z, s', R, E, h1, fun g1 H1 st1 => k g1 H1 st1⟩
theorem trT_chain {r r' : R2} {f f' : D → D → Option D} (h : OpOk K r f) (h' : OpOk K r' f') (hb : Bly f') {σ : L2.St} {H : Hp} {Q : Bool → Hp → Prop} (q : trT K (mT (mChain f f' ma mb mc)) σ H Q) : tTest (tChain r r' (trE K ma) (trE K mb) (trE K mc)) σ H Q := by
  obtain ⟨g, e, s, t, s', R, E, hm, k⟩ := q
  obtain ⟨d, s0, hm0, hmt⟩ := bnd_some hm
  obtain ⟨h6, h7⟩ := lft_some hmt
  dsimp only at h6 h7
  subst h7
  have hd : ∃ kk, d = .bl kk := by
    obtain ⟨a, s1, h1, hm1⟩ := bnd_some hm0
    obtain ⟨b, s2, h2, hm2⟩ := bnd_some hm1
    obtain ⟨z, s3, h3, hm3⟩ := bnd_some hm2
    split at hm3
    · obtain ⟨c, s4, h8, hm4⟩ := bnd_some hm3
      obtain ⟨h9, h10⟩ := lft_some hm4
      exact hb _ _ _ h9
    · cases hm3; exact ⟨_, rfl⟩
    · cases hm3
  obtain ⟨kk, rfl⟩ := hd
  cases h6
  refine trE_chain h h' ⟨g, e, s, _, _, R, E, hm0, fun v g' H' st rv => ?_⟩
  cases rv
  exact ⟨_, rfl, k _ _ st⟩
theorem t_lele (ha : PE X a (trE X.K ma)) (hb : PE X b (trE X.K mb)) (hc : PE X c (trE X.K mc)) : PT X (.Compare a [.LtE, .LtE] [b, c] pos) (trT X.K (mT (mChain leD leD ma mb mc))) := PT.imp (pt_chain oLe oLe ha hb hc (nomark c)) fun _ _ _ => trT_chain le_ok le_ok bly_le
/-! ### a if t else b -/
def mIf (t : MT) (ma mb : ME) : ME := fun e s => bnd (t e s) fun k s => match k with
  | true => ma e s
  | false => mb e s
theorem d_if (hc : PT X c (trT X.K ta)) (ha : PE X a (trE X.K ma)) (hb : PE X b (trE X.K mb)) : PE X (.IfExp c a b pos) (trE X.K (mIf ta ma mb)) := PE.imp (pe_ifExp hc ha hb) fun σ H Q ⟨g, e, s, d, s', R, E, hm, k⟩ => by
  obtain ⟨z, s1, h1, hm1⟩ := bnd_some hm
  refine ⟨g, e, s, z, s1, R, E, h1, fun g1 H1 st1 => ?_⟩
  cases z with
  | true => exact iteT ⟨g1, e, s1, d, s', st1.rel, E.step st1, hm1, fun v g2 H2 st2 rv => k v g2 H2 (st1.trans st2) rv⟩
  | false => exact iteF ⟨g1, e, s1, d, s', st1.rel, E.step st1, hm1, fun v g2 H2 st2 rv => k v g2 H2 (st1.trans st2) rv⟩
end
end Z

set_option Elab.async false
set_option linter.all false
set_option maxRecDepth 100000
set_option maxHeartbeats 4000000
namespace Z
open PySem PySem.Spec PyProof.Rows L2
section
variable {X : Cx} {K : PySem.W.Frag} {g : G} {H : Hp} {s : S}
variable {a b c : Expr} {es : List Expr} {me mb mc : ME} {ma : MA} {pos : Pos}
/-! ### argument lists, displays -/
def aNil : MA := fun _ s => some ([], s)
def aCons (m : ME) (ma : MA) : MA := fun e s => bnd (m e s) fun d s => bnd (ma e s) fun ds s => some (d :: ds, s)
def itemsD : D → Option (List D)
  | .lst ds => some ds
  | .tup ds => some ds
  | _ => none
def aStar (m : ME) (ma : MA) : MA := fun e s => bnd (m e s) fun d s => bnd (lft (itemsD d) s) fun xs s => bnd (ma e s) fun ds s => some (xs ++ ds, s)
theorem a_nil : PA X [] (trA X.K aNil) := PA.imp pa_nil fun σ H Q ⟨g, e, s, ds, s', R, E, hm, k⟩ => by
  cases hm
  exact k _ _ _ (.refl R) .nil
theorem a_cons (h : PE X a (trE X.K me)) (ha : PA X es (trA X.K ma)) (hs : starEach (a :: es) X.env = (false, eval a X.env) :: starEach es X.env := by rfl) : PA X (a :: es) (trA X.K (aCons me ma)) := PA.imp (pa_cons h ha hs) fun σ H Q ⟨g, e, s, ds, s', R, E, hm, k⟩ => by
  obtain ⟨d, s1, h1, hm1⟩ := bnd_some hm
  obtain ⟨xs, s2, h2, hm2⟩ := bnd_some hm1
  cases hm2
  exact ⟨g, e, s, d, s1, R, E, h1, fun x g1 H1 st1 rx => ⟨g1, e, s1, xs, _, st1.rel, E.step st1, h2, fun vs g2 H2 st2 rv => k _ g2 H2 (st1.trans st2) (.cons (rx.mono st2.le) rv)⟩⟩
theorem a_star {p : Pos} (h : PE X a (trE X.K me)) (ha : PA X es (trA X.K ma)) : PA X (.Starred a p :: es) (trA X.K (aStar me ma)) := PA.imp (StX.pa_star h ha) fun σ H Q ⟨g, e, s, ds, s', R, E, hm, k⟩ => by
  obtain ⟨d, s1, h1, hm1⟩ := bnd_some hm
  obtain ⟨xs, s2, h2, hm2⟩ := bnd_some hm1
  obtain ⟨ys, s3, h3, hm3⟩ := bnd_some hm2
  cases hm3
  obtain ⟨h4, h5⟩ := lft_some h2
  dsimp only at h4 h5
  subst h5
  refine ⟨g, e, s, d, _, R, E, h1, fun x g1 H1 st1 rx => ?_⟩
  have rest : ∀ vs, RepL X.K g1 vs xs → trA X.K ma σ H1 (fun zs H2 => Q (vs ++ zs) H2) := fun vs rvs => ⟨g1, e, _, ys, _, st1.rel, E.step st1, h3, fun zs g2 H2 st2 rz => k _ g2 H2 (st1.trans st2) ((rvs.mono st2.le).append rz)⟩
  unfold itemsD at h4
  split at h4
  · cases h4
    cases rx with
    | lst hl r => exact ⟨_, _, rfl, .inr (.inl (rd_H st1.rel hl)), rest _ r⟩
  · cases h4
    cases rx with
    | tup hl r => exact ⟨_, _, rfl, .inl (sqT_H st1.rel hl), rest _ r⟩
  · cases h4
def mTup (ma : MA) : ME := fun e s => bnd (ma e s) fun ds s => if ds.length ≤ sizeLine then some (.tup ds, s) else none
def mLst (ma : MA) : ME := fun e s => bnd (ma e s) fun ds s => if ds.length ≤ sizeLine then some (.lst ds, s) else none
theorem d_tup {x1} (h : PA X es (trA X.K ma)) : PE X (.Tuple es x1 pos) (trE X.K (mTup ma)) := PE.imp (pe_tup h) fun σ H Q ⟨g, e, s, d, s', R, E, hm, k⟩ => by
  obtain ⟨ds, s1, h1, hm1⟩ := bnd_some hm
  split at hm1
  · cases hm1
    refine ⟨g, e, s, ds, s', R, E, h1, fun vs g1 H1 st1 rv => ⟨by rw [rv.length]; assumption, fun p hp => ?_⟩⟩
    obtain ⟨g2, st, r⟩ := fresh_tup st1.rel hp rv
    exact k _ _ _ (st1.trans st) r
  · cases hm1
theorem f_lst (h : PA X es (trA X.K ma)) : PE X (.List es pos) (trF X.K (mLst ma)) := PE.imp (pe_lst h) fun σ H Q ⟨g, e, s, d, s', R, E, hm, k⟩ => by
  obtain ⟨ds, s1, h1, hm1⟩ := bnd_some hm
  split at hm1
  · cases hm1
    refine ⟨g, e, s, ds, s', R, E, h1, fun vs g1 H1 st1 rv => ⟨by rw [rv.length]; assumption, fun p hp => ?_⟩⟩
    obtain ⟨st, hf, hc, o⟩ := fresh_upd (u := .lst vs) (d := .lst ds) st1.rel hp fun g' L => ⟨vs, upd_same, rv.mono L⟩
    exact k p g1 _ (st1.trans st) (st1.noneOf hp) hf hc o
  · cases hm1
/-! ### items -/
def atD (xs : List D) (i : Int) : Option D := atI xs i
def idxD : D → D → Option D
  | .lst ds, .int i => atI ds i
  | .tup ds, .int i => atI ds i
  | .str z, .int i => if z.length ≤ sizeLine then (atI z.cps.toList i).map fun c => .str ⟨#[c]⟩ else none
  | _, _ => none
theorem repL_at {vs : List V} {ds : List D} {i : Int} {d : D} (r : RepL K g vs ds) (h : atI ds i = some d) : ∃ v, atI vs i = some v ∧ Rep K g v d := by
  unfold atI at h ⊢
  rw [r.length]
  obtain ⟨j, h1, h2⟩ := Option.bind_eq_some_iff.mp h
  obtain ⟨v, h3, h4⟩ := r.get h2
  exact ⟨v, by rw [h1]; exact h3, h4⟩
theorem idx_ok : OpOk K (rIx K) idxD := by
  intro g H s x y a b d Q R ra rb e k
  unfold idxD at e
  split at e
  · cases rb
    cases ra with
    | lst hl r =>
      obtain ⟨v, h1, h2⟩ := repL_at r e
      exact .inl ⟨_, _, _, _, rfl, rfl, .inl (rd_H R hl), h1, k _ _ _ (.refl R) h2⟩
  · cases rb
    cases ra with
    | tup hl r =>
      obtain ⟨v, h1, h2⟩ := repL_at r e
      exact .inr (.inl ⟨_, _, _, _, rfl, rfl, sqT_H R hl, h1, k _ _ _ (.refl R) h2⟩)
  · split at e
    · cases rb; cases ra
      obtain ⟨c, h1, rfl⟩ := Option.map_eq_some_iff.mp e
      exact .inr (.inr ⟨_, _, _, rfl, rfl, by assumption, h1, k _ _ _ (.refl R) (.str _)⟩)
    · cases e
  · cases e
theorem d_idx (ha : PE X a (trE X.K me)) (hb : PE X b (trE X.K mb)) (hs : PlainIx b := by exact fun _ _ => rfl) : PE X (.Subscript a b pos) (trE X.K (mOp idxD me mb)) := PE.imp (pe_ix ix_seq ha hb hs) fun _ _ _ => trE_op idx_ok
def idxDic : D → D → Option D
  | .dic kvs, y => (keyD y).bind fun k => lookD kvs k
  | _, _ => none
theorem idxDic_ok : OpOk K (fun x y H Q => ∃ a v, x = .ref a ∧ DGet H a y (some v) ∧ Q v H) idxDic := by
  intro g H s x y a b d Q R ra rb e k
  unfold idxDic at e
  split at e
  · obtain ⟨kk, h1, h2⟩ := Option.bind_eq_some_iff.mp e
    obtain ⟨p, o, rfl, hd, h3⟩ := dget_of R ra rb h1
    rcases h3 with ⟨rfl, h4⟩ | ⟨v, d', rfl, h4, r⟩
    · rw [h2] at h4; cases h4
    · rw [h2] at h4; cases h4
      exact ⟨p, v, rfl, hd, k _ _ _ (.refl R) r⟩
  · cases e
theorem d_idxDic (hu : X.A.units + 64 < cLine) (ha : PE X a (trE X.K me)) (hb : PE X b (trE X.K mb)) (hs : NoSl b := by exact fun _ _ => rfl) : PE X (.Subscript a b pos) (trE X.K (mOp idxDic me mb)) := PE.imp (pe_dget (by omega) ha hb hs) fun _ _ _ => trE_op idxDic_ok
/-! ### slices -/
def cutL {α : Type} (xs : List α) (lo hi : Option Int) : List α := (xs.drop (HT.sIx xs.length 0 lo)).take (HT.sIx xs.length xs.length hi - HT.sIx xs.length 0 lo)
theorem repL_cut {vs : List V} {ds : List D} (r : RepL K g vs ds) (lo hi : Option Int) : RepL K g (cutV vs lo hi) (cutL ds lo hi) := by
  unfold cutV cutL
  rw [r.length]
  exact (r.drop _).take _
abbrev MO := EnvD → S → Option (Option Int × S)
def oNone : MO := fun _ s => some (none, s)
def oSome (m : ME) : MO := fun e s => bnd (m e s) fun d s => match d with
  | .int i => some (some i, s)
  | _ => none
def trO (K : PySem.W.Frag) (m : MO) : TO := fun σ H Q => ∃ g e s d s', SRel K g H s ∧ EnvRel K g H σ e ∧ m e s = some (d, s') ∧ ∀ g' H', Step K g H g' H' s' → Q d H'
theorem PO.imp {X : Cx} {e : Option Expr} {t t' : TO} (h : PO X e t) (i : ∀ σ H Q, t' σ H Q → t σ H Q) : PO X e t' := ⟨fun pins s σ H Q I q => h.run pins s σ H Q I (i _ _ _ q)⟩
theorem o_none : PO X none (trO X.K oNone) := PO.imp po_none fun σ H Q ⟨g, e, s, d, s', R, E, hm, k⟩ => by
  cases hm
  exact k _ _ (.refl R)
theorem o_some (h : PE X a (trE X.K me)) : PO X (some a) (trO X.K (oSome me)) := PO.imp (po_some h) fun σ H Q ⟨g, e, s, d, s', R, E, hm, k⟩ => by
  obtain ⟨x, s1, h1, hm1⟩ := bnd_some hm
  split at hm1
  · cases hm1
    exact ⟨g, e, s, _, s', R, E, h1, fun x g1 H1 st1 rx => by cases rx; exact ⟨_, rfl, k _ _ st1⟩⟩
  · cases hm1
def mSl (f : D → Option Int → Option Int → Option D) (m : ME) (ml mh : MO) : ME := fun e s => bnd (m e s) fun d s => bnd (ml e s) fun lo s => bnd (mh e s) fun hi s => lft (f d lo hi) s
def slD : D → Option Int → Option Int → Option D
  | .tup ds, lo, hi => some (.tup (cutL ds lo hi))
  | .str z, lo, hi => if z.length ≤ sizeLine then some (.str (cutS z lo hi)) else none
  | _, _, _ => none
def slL : D → Option Int → Option Int → Option D
  | .lst ds, lo, hi => some (.lst (cutL ds lo hi))
  | _, _, _ => none
variable {lo hi : Option Expr} {ml mh : MO} {p2 : Pos}
theorem cutL_all {xs : List V} {lo hi : Option Int} (h : HT.sIx xs.length 0 lo = 0 ∧ HT.sIx xs.length xs.length hi = xs.length) : cutV xs lo hi = xs := by
  unfold cutV
  rw [h.1, h.2]
  simp
theorem d_sl (h : PE X a (trE X.K me)) (hl : PO X lo (trO X.K ml)) (hh : PO X hi (trO X.K mh)) : PE X (.Subscript a (.Slice lo hi none p2) pos) (trE X.K (mSl slD me ml mh)) := PE.imp (pe_slice (SlR.or sl_tupA sl_str) h hl hh) fun σ H Q ⟨g, e, s, d, s', R, E, hm, k⟩ => by
  obtain ⟨x, s1, h1, hm1⟩ := bnd_some hm
  obtain ⟨l, s2, h2, hm2⟩ := bnd_some hm1
  obtain ⟨u, s3, h3, hm3⟩ := bnd_some hm2
  obtain ⟨h4, h5⟩ := lft_some hm3
  dsimp only at h4 h5
  subst h5
  refine ⟨g, e, s, x, s1, R, E, h1, fun v g1 H1 st1 rv => ⟨g1, e, s1, l, s2, st1.rel, E.step st1, h2, fun g2 H2 st2 => ⟨g2, e, s2, u, s', st2.rel, (E.step st1).step st2, h3, fun g3 H3 st3 => ?_⟩⟩⟩
  have st := (st1.trans st2).trans st3
  have rv3 := rv.mono (st2.le.trans st3.le)
  unfold slD at h4
  split at h4
  · cases h4
    cases rv3 with
    | tup hl r =>
      refine .inl ⟨_, _, rfl, sqT_H st.rel hl, fun hw => ?_, fun hw p hp => ?_⟩
      · have q := repL_cut r l u
        rw [cutL_all hw] at q
        exact k _ _ _ st (.tup hl q)
      · obtain ⟨g4, st4, r4⟩ := fresh_tup st.rel hp (repL_cut r l u)
        exact k _ _ _ (st.trans st4) r4
  · split at h4
    · cases h4
      cases rv3
      exact .inr ⟨_, rfl, by assumption, k _ _ _ st (.str _)⟩
    · cases h4
  · cases h4
theorem f_sl (h : PE X a (trE X.K me)) (hl : PO X lo (trO X.K ml)) (hh : PO X hi (trO X.K mh)) : PE X (.Subscript a (.Slice lo hi none p2) pos) (trF X.K (mSl slL me ml mh)) := PE.imp (pe_slice sl_list h hl hh) fun σ H Q ⟨g, e, s, d, s', R, E, hm, k⟩ => by
  obtain ⟨x, s1, h1, hm1⟩ := bnd_some hm
  obtain ⟨l, s2, h2, hm2⟩ := bnd_some hm1
  obtain ⟨u, s3, h3, hm3⟩ := bnd_some hm2
  obtain ⟨h4, h5⟩ := lft_some hm3
  dsimp only at h4 h5
  subst h5
  refine ⟨g, e, s, x, s1, R, E, h1, fun v g1 H1 st1 rv => ⟨g1, e, s1, l, s2, st1.rel, E.step st1, h2, fun g2 H2 st2 => ⟨g2, e, s2, u, s', st2.rel, (E.step st1).step st2, h3, fun g3 H3 st3 => ?_⟩⟩⟩
  have st := (st1.trans st2).trans st3
  have rv3 := rv.mono (st2.le.trans st3.le)
  unfold slL at h4
  split at h4
  · cases h4
    cases rv3 with
    | lst hl r =>
      refine ⟨_, _, rfl, .inl (rd_H st.rel hl), fun p hp => ?_⟩
      obtain ⟨st4, hf, hc, o⟩ := fresh_upd (u := .lst (cutV _ l u)) (d := .lst (cutL _ l u)) st.rel hp fun g' L => ⟨_, upd_same, (repL_cut r l u).mono L⟩
      exact k p g3 _ (st.trans st4) (st.noneOf hp) hf hc o
  · cases h4
/-! ### built-ins by their values -/
def CallOk (K : PySem.W.Frag) (r : List V → Hp → VK → Prop) (f : List D → Option D) : Prop := ∀ (g : G) (H : Hp) (s : S) (xs : List V) (ds : List D) (d : D) (Q : VK), SRel K g H s → RepL K g xs ds → f ds = some d →
  (∀ v g' H', Step K g H g' H' s → Rep K g' v d → Q v H') → r xs H Q
def CallOkF (K : PySem.W.Frag) (r : List V → Hp → VK → Prop) (f : List D → Option D) : Prop := ∀ (g : G) (H : Hp) (s : S) (xs : List V) (ds : List D) (d : D) (Q : VK), SRel K g H s → RepL K g xs ds → f ds = some d →
  (∀ p g' H', Step K g H g' H' s → H p = none → g'.F p = none → p ∉ g'.ad → OwnAt K g' H' p d → Q (.ref p) H') → r xs H Q
def mCall (f : List D → Option D) (ma : MA) : ME := fun e s => bnd (ma e s) fun ds s => lft (f ds) s
theorem trE_call {r : List V → Hp → VK → Prop} {f : List D → Option D} (h : CallOk K r f) {σ : L2.St} {H : Hp} {Q : VK} (q : trE K (mCall f ma) σ H Q) : tCB r (trA K ma) σ H Q := by
  obtain ⟨g, e, s, d, s', R, E, hm, k⟩ := q
  obtain ⟨ds, s1, h1, hm1⟩ := bnd_some hm
  obtain ⟨h4, h5⟩ := lft_some hm1
  dsimp only at h4 h5
  subst h5
  exact ⟨g, e, s, ds, s', R, E, h1, fun vs g1 H1 st1 rv => h g1 H1 s' vs ds d Q st1.rel rv h4 fun v g2 H2 st2 rd => k v g2 H2 (st1.trans st2) rd⟩
theorem trF_call {r : List V → Hp → VK → Prop} {f : List D → Option D} (h : CallOkF K r f) {σ : L2.St} {H : Hp} {Q : VK} (q : trF K (mCall f ma) σ H Q) : tCB r (trA K ma) σ H Q := by
  obtain ⟨g, e, s, d, s', R, E, hm, k⟩ := q
  obtain ⟨ds, s1, h1, hm1⟩ := bnd_some hm
  obtain ⟨h4, h5⟩ := lft_some hm1
  dsimp only at h4 h5
  subst h5
  exact ⟨g, e, s, ds, s', R, E, h1, fun vs g1 H1 st1 rv => h g1 H1 s' vs ds d Q st1.rel rv h4 fun p g2 H2 st2 hn hf hc o => k p g2 H2 (st1.trans st2) (st1.noneOf hn) hf hc o⟩
variable {x : Str} {p : Pos}
theorem d_callB {id : String} {r : List V → Hp → VK → Prop} {f : List D → Option D} (hc : CallR X (.builtin id) r) (ho : CallOk X.K r f) (hv : bootBuiltins x = some (.builtin id)) (hg : Gl X x) (hm : X.mg x = none) (ha : PA X (a :: es) (trA X.K ma)) (hn : x ≠ "__name__" := by decide +kernel) (hdb : (x == ("__debug__" : Str)) = false := by decide +kernel)
    (he : starEach (a :: es) X.env = (false, eval a X.env) :: starEach es X.env := by rfl) (hpl : (backTo pos (starEach es X.env)).any (·.1) = false := by rfl) : PE X (.Call (.Name x p) (a :: es) [] pos) (trE X.K (mCall f ma)) :=
  PE.imp (pe_callB hc hg hm hv ha hn hdb he hpl) fun _ _ _ => trE_call ho
theorem d_callT {T : String} {r : List V → Hp → VK → Prop} {f : List D → Option D} (hc : CallR X (.type T) r) (ho : CallOk X.K r f) (hv : bootBuiltins x = some (.type T)) (hg : Gl X x) (hm : X.mg x = none) (ha : PA X (a :: es) (trA X.K ma)) (hn : x ≠ "__name__" := by decide +kernel) (hdb : (x == ("__debug__" : Str)) = false := by decide +kernel)
    (he : starEach (a :: es) X.env = (false, eval a X.env) :: starEach es X.env := by rfl) (hpl : (backTo pos (starEach es X.env)).any (·.1) = false := by rfl) : PE X (.Call (.Name x p) (a :: es) [] pos) (trE X.K (mCall f ma)) :=
  PE.imp (pe_callTy hc hg hm hv ha hn hdb he hpl) fun _ _ _ => trE_call ho
theorem f_callT {T : String} {r : List V → Hp → VK → Prop} {f : List D → Option D} (hc : CallR X (.type T) r) (ho : CallOkF X.K r f) (hv : bootBuiltins x = some (.type T)) (hg : Gl X x) (hm : X.mg x = none) (ha : PA X (a :: es) (trA X.K ma)) (hn : x ≠ "__name__" := by decide +kernel) (hdb : (x == ("__debug__" : Str)) = false := by decide +kernel)
    (he : starEach (a :: es) X.env = (false, eval a X.env) :: starEach es X.env := by rfl) (hpl : (backTo pos (starEach es X.env)).any (·.1) = false := by rfl) : PE X (.Call (.Name x p) (a :: es) [] pos) (trF X.K (mCall f ma)) :=
  PE.imp (pe_callTy hc hg hm hv ha hn hdb he hpl) fun _ _ _ => trF_call ho
/-- len -/
def lenD : List D → Option D
  | [.str y] => if y.length ≤ sizeLine then some (.int y.length) else none
  | [.lst ds] => some (.int ds.length)
  | [.tup ds] => some (.int ds.length)
  | _ => none
theorem len_ok : CallOk K (fun xs H Q => ∃ x n, xs = [x] ∧ LenV K x H n ∧ Q (.int n) H) lenD := by
  intro g H s xs ds d Q R r e k
  unfold lenD at e
  split at e
  · split at e
    · cases e
      cases r with
      | cons r1 r2 => cases r2; cases r1; exact ⟨_, _, rfl, ⟨by assumption, rfl⟩, k _ _ _ (.refl R) (.int _)⟩
    · cases e
  · cases e
    cases r with
    | cons r1 r2 =>
      cases r2
      cases r1 with
      | lst hl rl => exact ⟨_, _, rfl, .inl ⟨_, .inl (rd_H R hl), rfl⟩, by rw [rl.length]; exact k _ _ _ (.refl R) (.int _)⟩
  · cases e
    cases r with
    | cons r1 r2 =>
      cases r2
      cases r1 with
      | tup hl rl => exact ⟨_, _, rfl, .inr ⟨_, sqT_H R hl, rfl⟩, by rw [rl.length]; exact k _ _ _ (.refl R) (.int _)⟩
  · cases e
def boolsD : List D → Option (List Bool)
  | [] => some []
  | .bl b :: ds => (boolsD ds).map (b :: ·)
  | _ => none
theorem bools_of : ∀ {vs : List V} {ds : List D} {bs : List Bool}, RepL K g vs ds → boolsD ds = some bs → vs = bs.map V.bl
  | _, _, _, .nil, e => by simp only [boolsD] at e; cases e; rfl
  | _, _, _, .cons (d := d) h r, e => by
    cases d <;> simp only [boolsD] at e <;> first | (cases e; done) | skip
    obtain ⟨q, h1, rfl⟩ := Option.map_eq_some_iff.mp e
    cases h
    rw [bools_of r h1]
    rfl
def intsD : List D → Option (List Int)
  | [] => some []
  | .int b :: ds => (intsD ds).map (b :: ·)
  | _ => none
theorem ints_of : ∀ {vs : List V} {ds : List D} {bs : List Int}, RepL K g vs ds → intsD ds = some bs → vs = bs.map V.int
  | _, _, _, .nil, e => by simp only [intsD] at e; cases e; rfl
  | _, _, _, .cons (d := d) h r, e => by
    cases d <;> simp only [intsD] at e <;> first | (cases e; done) | skip
    obtain ⟨q, h1, rfl⟩ := Option.map_eq_some_iff.mp e
    cases h
    rw [ints_of r h1]
    rfl
def strsD : List D → Option (List Str)
  | [] => some []
  | .str b :: ds => (strsD ds).map (b :: ·)
  | _ => none
theorem strs_of : ∀ {vs : List V} {ds : List D} {bs : List Str}, RepL K g vs ds → strsD ds = some bs → vs = bs.map V.str
  | _, _, _, .nil, e => by simp only [strsD] at e; cases e; rfl
  | _, _, _, .cons (d := d) h r, e => by
    cases d <;> simp only [strsD] at e <;> first | (cases e; done) | skip
    obtain ⟨q, h1, rfl⟩ := Option.map_eq_some_iff.mp e
    cases h
    rw [strs_of r h1]
    rfl
theorem repL_one {vs : List V} {d : D} (r : RepL K g vs [d]) : ∃ v, vs = [v] ∧ Rep K g v d := by
  cases r with
  | cons r1 r2 => cases r2; exact ⟨_, rfl, r1⟩
theorem repL_two {vs : List V} {d e : D} (r : RepL K g vs [d, e]) : ∃ v w, vs = [v, w] ∧ Rep K g v d ∧ Rep K g w e := by
  cases r with
  | cons r1 r2 =>
    cases r2 with
    | cons r3 r4 => cases r4; exact ⟨_, _, rfl, r1, r3⟩
def allD : List D → Option D
  | [.lst ds] => (boolsD ds).map fun bs => .bl (bs.all id)
  | _ => none
def anyD : List D → Option D
  | [.lst ds] => (boolsD ds).map fun bs => .bl (bs.any id)
  | _ => none
def sumD : List D → Option D
  | [.lst ds] => (intsD ds).map fun bs => .int bs.sum
  | _ => none
theorem all_ok : CallOk K (rAll K) allD := by
  intro g H s xs ds d Q R r e k
  unfold allD at e
  split at e
  · obtain ⟨bs, h1, rfl⟩ := Option.map_eq_some_iff.mp e
    obtain ⟨v, rfl, rv⟩ := repL_one r
    cases rv with
    | lst hl rl => exact ⟨_, bs, rfl, by rw [← bools_of rl h1]; exact .inl (rd_H R hl), k _ _ _ (.refl R) (.bl _)⟩
  · cases e
theorem any_ok : CallOk K (rAny K) anyD := by
  intro g H s xs ds d Q R r e k
  unfold anyD at e
  split at e
  · obtain ⟨bs, h1, rfl⟩ := Option.map_eq_some_iff.mp e
    obtain ⟨v, rfl, rv⟩ := repL_one r
    cases rv with
    | lst hl rl => exact ⟨_, bs, rfl, by rw [← bools_of rl h1]; exact .inl (rd_H R hl), k _ _ _ (.refl R) (.bl _)⟩
  · cases e
theorem sum_ok : CallOk K (rSum K) sumD := by
  intro g H s xs ds d Q R r e k
  unfold sumD at e
  split at e
  · obtain ⟨bs, h1, rfl⟩ := Option.map_eq_some_iff.mp e
    obtain ⟨v, rfl, rv⟩ := repL_one r
    cases rv with
    | lst hl rl => exact ⟨_, bs, rfl, by rw [← ints_of rl h1]; exact .inl (rd_H R hl), k _ _ _ (.refl R) (.int _)⟩
  · cases e
/-- max, min of two ints; abs -/
def max2D : List D → Option D
  | [.int i, .int j] => some (.int (if j > i then j else i))
  | _ => none
def min2D : List D → Option D
  | [.int i, .int j] => some (.int (if j < i then j else i))
  | _ => none
def absD : List D → Option D
  | [.int i] => some (.int (if i < 0 then -i else i))
  | _ => none
theorem max2_ok : CallOk K (fun xs H Q => ∃ i j, xs = [.int i, .int j] ∧ Q (.int (if j > i then j else i)) H) max2D := by
  intro g H s xs ds d Q R r e k
  unfold max2D at e
  split at e
  · cases e
    obtain ⟨v, w, rfl, r1, r2⟩ := repL_two r
    cases r1; cases r2
    exact ⟨_, _, rfl, k _ _ _ (.refl R) (.int _)⟩
  · cases e
theorem min2_ok : CallOk K (fun xs H Q => ∃ i j, xs = [.int i, .int j] ∧ Q (.int (if j < i then j else i)) H) min2D := by
  intro g H s xs ds d Q R r e k
  unfold min2D at e
  split at e
  · cases e
    obtain ⟨v, w, rfl, r1, r2⟩ := repL_two r
    cases r1; cases r2
    exact ⟨_, _, rfl, k _ _ _ (.refl R) (.int _)⟩
  · cases e
theorem abs_ok : CallOk K (fun xs H Q => ∃ i, xs = [.int i] ∧ Q (.int (if i < 0 then -i else i)) H) absD := by
  intro g H s xs ds d Q R r e k
  unfold absD at e
  split at e
  · cases e
    obtain ⟨v, rfl, r1⟩ := repL_one r
    cases r1
    exact ⟨_, rfl, k _ _ _ (.refl R) (.int _)⟩
  · cases e
/-- int(x) -/
def intD : List D → Option D
  | [.int i] => some (.int i)
  | [.bl b] => some (.int (if b then 1 else 0))
  | [.str x] => if x.length ≤ 640 then (PySem.intText? x).map .int else none
  | _ => none
theorem CallR.or {f : Value} {r r' : List V → Hp → VK → Prop} (h : CallR X f r) (h' : CallR X f r') : CallR X f (fun xs H Q => r xs H Q ∨ r' xs H Q) := fun pins s σ H xs us Q I r q => q.elim (h pins s σ H xs us Q I r) (h' pins s σ H xs us Q I r)
theorem int_okC : CallOk K (fun xs H Q => ((∃ i, xs = [.int i] ∧ Q (.int i) H) ∨ ∃ k, xs = [.bl k] ∧ Q (.int (if k then 1 else 0)) H) ∨ ∃ a n, xs = [.str a] ∧ PySem.intText? a = some n ∧ a.length ≤ 640 ∧ Q (.int n) H) intD := by
  intro g H s xs ds d Q R r e k
  unfold intD at e
  split at e
  · cases e
    obtain ⟨v, rfl, r1⟩ := repL_one r
    cases r1
    exact .inl (.inl ⟨_, rfl, k _ _ _ (.refl R) (.int _)⟩)
  · cases e
    obtain ⟨v, rfl, r1⟩ := repL_one r
    cases r1
    exact .inl (.inr ⟨_, rfl, k _ _ _ (.refl R) (.int _)⟩)
  · split at e
    · obtain ⟨n, h1, rfl⟩ := Option.map_eq_some_iff.mp e
      obtain ⟨v, rfl, r1⟩ := repL_one r
      cases r1
      exact .inr ⟨_, n, rfl, h1, by assumption, k _ _ _ (.refl R) (.int _)⟩
    · cases e
  · cases e
/-- str(x) -/
def strD : List D → Option D
  | [.int i] => if i.natAbs.log2 < 1920 then some (.str (toString i)) else none
  | [.str x] => some (.str x)
  | _ => none
theorem str_ok : CallOk K (fun xs H Q => (∃ i, xs = [.int i] ∧ i.natAbs.log2 < 1920 ∧ Q (.str (toString i)) H) ∨ ∃ a, xs = [.str a] ∧ Q (.str a) H) strD := by
  intro g H s xs ds d Q R r e k
  unfold strD at e
  split at e
  · split at e
    · cases e
      obtain ⟨v, rfl, r1⟩ := repL_one r
      cases r1
      exact .inl ⟨_, rfl, by assumption, k _ _ _ (.refl R) (.str _)⟩
    · cases e
  · cases e
    obtain ⟨v, rfl, r1⟩ := repL_one r
    cases r1
    exact .inr ⟨_, rfl, k _ _ _ (.refl R) (.str _)⟩
  · cases e
/-- tuple(x), list(x) of a list or tuple -/
def tupleD : List D → Option D
  | [.lst ds] => some (.tup ds)
  | [.tup ds] => some (.tup ds)
  | _ => none
def listD : List D → Option D
  | [.lst ds] => some (.lst ds)
  | [.tup ds] => some (.lst ds)
  | _ => none
theorem tuple_ok : CallOk K (fun xs H Q => ∃ p ys, xs = [.ref p] ∧ ((SqL K H p ys ∧ ∀ l, H l = none → Q (.ref l) (upd H l (.tup ys))) ∨ (SqT K H p ys ∧ Q (.ref p) H))) tupleD := by
  intro g H s xs ds d Q R r e k
  unfold tupleD at e
  split at e
  · cases e
    obtain ⟨v, rfl, r1⟩ := repL_one r
    cases r1 with
    | lst hl rl =>
      refine ⟨_, _, rfl, .inl ⟨.inl (rd_H R hl), fun l hn => ?_⟩⟩
      obtain ⟨g2, st, r2⟩ := fresh_tup R hn rl
      exact k _ _ _ st r2
  · cases e
    obtain ⟨v, rfl, r1⟩ := repL_one r
    cases r1 with
    | tup hl rl => exact ⟨_, _, rfl, .inr ⟨sqT_H R hl, k _ _ _ (.refl R) (.tup hl rl)⟩⟩
  · cases e
theorem list_ok : CallOkF K (fun xs H Q => ∃ p ys, xs = [.ref p] ∧ (SqL K H p ys ∨ SqT K H p ys) ∧ ∀ l, H l = none → Q (.ref l) (upd H l (.lst ys))) listD := by
  intro g H s xs ds d Q R r e k
  unfold listD at e
  split at e
  · cases e
    obtain ⟨v, rfl, r1⟩ := repL_one r
    cases r1 with
    | lst hl rl =>
      refine ⟨_, _, rfl, .inl (.inl (rd_H R hl)), fun l hn => ?_⟩
      obtain ⟨st, hf, hc, o⟩ := fresh_upd (u := .lst _) (d := .lst _) R hn fun g' L => ⟨_, upd_same, rl.mono L⟩
      exact k l g _ st hn hf hc o
  · cases e
    obtain ⟨v, rfl, r1⟩ := repL_one r
    cases r1 with
    | tup hl rl =>
      refine ⟨_, _, rfl, .inr (sqT_H R hl), fun l hn => ?_⟩
      obtain ⟨st, hf, hc, o⟩ := fresh_upd (u := .lst _) (d := .lst _) R hn fun g' L => ⟨_, upd_same, rl.mono L⟩
      exact k l g _ st hn hf hc o
  · cases e
/-- divmod -/
def divmodD : List D → Option D
  | [.int i, .int j] => if 0 < j ∧ j < 1073741824 then some (.tup [.int (i / j), .int (i % j)]) else none
  | _ => none
theorem divmod_ok : CallOk K (fun xs H Q => ∃ i j, xs = [.int i, .int j] ∧ CDiv i j ∧ ∀ p, H p = none → Q (.ref p) (upd H p (.tup [.int (i / j), .int (i % j)]))) divmodD := by
  intro g H s xs ds d Q R r e k
  unfold divmodD at e
  split at e
  · split at e
    · cases e
      obtain ⟨v, w, rfl, r1, r2⟩ := repL_two r
      cases r1; cases r2
      refine ⟨_, _, rfl, by assumption, fun p hp => ?_⟩
      obtain ⟨g2, st, r2⟩ := fresh_tup (vs := [.int _, .int _]) R hp (.cons (.int _) (.cons (.int _) .nil))
      exact k _ _ _ st r2
    · cases e
  · cases e
end
end Z

set_option Elab.async false
set_option linter.all false
set_option maxRecDepth 100000
set_option maxHeartbeats 4000000
namespace Z
open PySem PySem.Spec PyProof.Rows L2
/-! ### statements -/
inductive Fl where
  | nx | ret (d : D) | bk | ct | rto (d : D)
abbrev MS := EnvD → S → Option (Fl × EnvD × S)
def OwnA (σ : L2.St) (e : EnvD) (a : Addr) : Prop := ∃ (i : Nat) (d : D), e[i]? = some (Sl.own d) ∧ σ[i]? = some (some (.ref a))
structure StepS (K : PySem.W.Frag) (g : G) (H : Hp) (σ : L2.St) (e : EnvD) (g' : G) (H' : Hp) (σ' : L2.St) (e' : EnvD) (s' : S) : Prop where
  rel : SRel K g' H' s'
  env : EnvRel K g' H' σ' e'
  le : GLe g g'
  new : ∀ a u, g'.F a = some u → g.F a = some u ∨ H a = none ∨ OwnA σ e a
  newc : ∀ a, a ∈ g'.ad → a ∈ g.ad ∨ H a = none ∨ OwnA σ e a
  keep : ∀ a u, H a = some u → a ∉ g.ad → ¬ OwnA σ e a → H' a = some u ∧ ¬ OwnA σ' e' a
  has : ∀ a u, H a = some u → ∃ u', H' a = some u'
section
variable {K : PySem.W.Frag} {g g' g'' : G} {H H' H'' : Hp} {σ σ' σ'' : L2.St} {e e' e'' : EnvD} {s s' s'' : S}
theorem Step.S (x : Step K g H g' H' s') (E : EnvRel K g H σ e) : StepS K g H σ e g' H' σ e s' where
  rel := x.rel
  env := E.step x
  le := x.le
  new := fun a u h => (x.new a u h).elim .inl fun z => .inr (.inl z)
  newc := fun a h => (x.newc a h).elim .inl fun z => .inr (.inl z)
  keep := fun a u h ha ho => ⟨x.keep a u h ha, ho⟩
  has := fun a u h => x.has h
theorem StepS.refl (R : SRel K g H s) (E : EnvRel K g H σ e) : StepS K g H σ e g H σ e s := (Step.refl R).S E
theorem StepS.noneOf (x : StepS K g H σ e g' H' σ' e' s') {a : Addr} (h : H' a = none) : H a = none := by
  cases q : H a with
  | none => rfl
  | some u => obtain ⟨u', z⟩ := x.has a u q; rw [h] at z; cases z
theorem StepS.back (x : StepS K g H σ e g' H' σ' e' s') {a : Addr} (h : OwnA σ' e' a) : H a = none ∨ OwnA σ e a := by
  by_cases ho : OwnA σ e a
  · exact .inr ho
  · cases q : H a with
    | none => exact .inl rfl
    | some u =>
      by_cases ha : a ∈ g.ad
      · obtain ⟨i, d, h1, h2⟩ := h
        obtain ⟨b, h3, _, h4, _⟩ := x.env.own i d h1
        rw [h2] at h3; cases h3
        exact absurd (mem_ad x.le ha) h4
      · exact absurd h (x.keep a u q ha ho).2
theorem StepS.trans (x : StepS K g H σ e g' H' σ' e' s') (y : StepS K g' H' σ' e' g'' H'' σ'' e'' s'') : StepS K g H σ e g'' H'' σ'' e'' s'' where
  rel := y.rel
  env := y.env
  le := x.le.trans y.le
  new := fun a u h => by
    rcases y.new a u h with q | q | q
    · exact x.new a u q
    · exact .inr (.inl (x.noneOf q))
    · exact .inr (x.back q)
  newc := fun a h => by
    rcases y.newc a h with q | q | q
    · exact x.newc a q
    · exact .inr (.inl (x.noneOf q))
    · exact .inr (x.back q)
  keep := fun a u h ha ho => by
    obtain ⟨h1, h2⟩ := x.keep a u h ha ho
    refine y.keep a u h1 (fun z => ?_) h2
    rcases x.newc a z with q | q | q
    · exact ha q
    · rw [h] at q; cases q
    · exact ho q
  has := fun a u h => by
    obtain ⟨u1, h1⟩ := x.has a u h
    exact y.has a u1 h1
/-- H: the heap ahead of it; rto: a new object, nobody's -/
def FlOk (K : PySem.W.Frag) (Dn : Ends) (f : Fl) (H : Hp) (g' : G) (σ' : L2.St) (H' : Hp) : Prop := match f with
  | .nx => Dn.nx σ' H'
  | .ret d => ∀ v, Rep K g' v d → Dn.rt v H'
  | .bk => Dn.bk σ' H'
  | .ct => Dn.ct σ' H'
  | .rto d => ∀ a, H a = none → g'.F a = none → a ∉ g'.ad → OwnAt K g' H' a d → Dn.rt (.ref a) H'
theorem FlOk.mid {K : PySem.W.Frag} {Dn : Ends} {f : Fl} {H H1 : Hp} {g' : G} {σ' : L2.St} {H' : Hp} (h : FlOk K Dn f H g' σ' H') (n : ∀ a, H1 a = none → H a = none) : FlOk K Dn f H1 g' σ' H' := by
  cases f with
  | rto d => exact fun a ha => h a (n a ha)
  | nx => exact h
  | ret d => exact h
  | bk => exact h
  | ct => exact h
def trS (K : PySem.W.Frag) (m : MS) : TS := fun Dn σ H => ∃ g e s f e' s', SRel K g H s ∧ EnvRel K g H σ e ∧ m e s = some (f, e', s') ∧ ∀ g' H' σ', StepS K g H σ e g' H' σ' e' s' → FlOk K Dn f H g' σ' H'
end
def bndS {α : Type} (x : Option (α × S)) (f : α → S → Option (Fl × EnvD × S)) : Option (Fl × EnvD × S) := match x with
  | some (a, s) => f a s
  | none => none
theorem bndS_some {α : Type} {x : Option (α × S)} {f : α → S → Option (Fl × EnvD × S)} {r : Fl × EnvD × S} (h : bndS x f = some r) : ∃ a s, x = some (a, s) ∧ f a s = some r := by
  cases x with
  | none => cases h
  | some p => exact ⟨p.1, p.2, rfl, h⟩
def sNil : MS := fun e s => some (.nx, e, s)
def seqK (r : Option (Fl × EnvD × S)) (m : MS) : Option (Fl × EnvD × S) := match r with
  | some (.nx, e, s) => m e s
  | r => r
def sSeq (m1 m2 : MS) : MS := fun e s => seqK (m1 e s) m2
def sExpr (m : ME) : MS := fun e s => bndS (m e s) fun _ s => some (.nx, e, s)
def sRet (m : ME) : MS := fun e s => bndS (m e s) fun d s => some (.ret d, e, s)
def sRetN : MS := fun e s => some (.ret .non, e, s)
def sIf (t : MT) (m1 m2 : MS) : MS := fun e s => bndS (t e s) fun k s => match k with
  | true => m1 e s
  | false => m2 e s
def sSet (i : Nat) (m : ME) : MS := fun e s => bndS (m e s) fun d s => some (.nx, e.set i (.val d), s)
def sOwn (i : Nat) (m : ME) : MS := fun e s => bndS (m e s) fun d s => some (.nx, e.set i (.own d), s)
def frzE (i : Nat) (e : EnvD) : EnvD := match e[i]? with
  | some (.own d) => e.set i (.val d)
  | _ => e
/-- the ghost of a statement: slot i owns no more -/
def sFrz (i : Nat) (m : MS) : MS := fun e s => m (frzE i e) s
section
variable {X : Cx} {K : PySem.W.Frag} {st : Stmt} {sts : List Stmt} {m m1 m2 : MS} {me : ME} {mt : MT} {a : Expr} {pos : Pos}
theorem s_nil : PSs X [] (trS X.K sNil) := PSs.imp pss_nil fun Dn σ H ⟨g, e, s, f, e', s', R, E, hm, k⟩ => by
  cases hm
  exact k _ _ _ (.refl R E)
theorem trS_seq {Dn : Ends} {σ : L2.St} {H : Hp} (h : trS K (sSeq m1 m2) Dn σ H) : trS K m1 { Dn with nx := trS K m2 Dn } σ H := by
  obtain ⟨g, e, s, f, e', s', R, E, hm, k⟩ := h
  unfold sSeq seqK at hm
  split at hm
  · rename_i e1 s1 h1
    exact ⟨g, e, s, .nx, e1, s1, R, E, h1, fun g1 H1 σ1 st1 => ⟨g1, e1, s1, f, e', s', st1.rel, st1.env, hm, fun g2 H2 σ2 st2 => (k g2 H2 σ2 (st1.trans st2)).mid fun a => st1.noneOf⟩⟩
  · rename_i hne
    refine ⟨g, e, s, f, e', s', R, E, hm, fun g1 H1 σ1 st1 => ?_⟩
    have hk := k g1 H1 σ1 st1
    cases f with
    | nx => exact absurd hm (hne e' s')
    | ret d => exact hk
    | bk => exact hk
    | ct => exact hk
    | rto d => exact hk
theorem s_cons (h1 : PS X st (trS X.K m1)) (h2 : PSs X sts (trS X.K m2)) : PSs X (st :: sts) (trS X.K (sSeq m1 m2)) := PSs.imp (pss_cons h1 h2) fun _ _ _ h => trS_seq h
theorem s_one (h1 : PS X st (trS X.K m1)) : PSs X [st] (trS X.K m1) := pss_one h1
theorem s_expr (h : PE X a (trE X.K me)) (hs : swapsWith a none pos.line X.env = pure false := by rfl) : PS X (.Expr a pos) (trS X.K (sExpr me)) := PS.imp (ps_expr h hs) fun Dn σ H ⟨g, e, s, f, e', s', R, E, hm, k⟩ => by
  obtain ⟨d, s1, h1, hm1⟩ := bndS_some hm
  cases hm1
  exact ⟨g, e, s, d, _, R, E, h1, fun v g1 H1 st1 rv => k _ _ _ (st1.S E)⟩
theorem s_ret (h : PE X a (trE X.K me)) : PS X (.Return (some a) pos) (trS X.K (sRet me)) := PS.imp (ps_ret h) fun Dn σ H ⟨g, e, s, f, e', s', R, E, hm, k⟩ => by
  obtain ⟨d, s1, h1, hm1⟩ := bndS_some hm
  cases hm1
  exact ⟨g, e, s, d, _, R, E, h1, fun v g1 H1 st1 rv => k _ _ _ (st1.S E) v rv⟩
/-- a new object given back -/
def sRto (m : ME) : MS := fun e s => bndS (m e s) fun d s => some (.rto d, e, s)
theorem s_rto (h : PE X a (trF X.K me)) : PS X (.Return (some a) pos) (trS X.K (sRto me)) := PS.imp (ps_ret h) fun Dn σ H ⟨g, e, s, f, e', s', R, E, hm, k⟩ => by
  obtain ⟨d, s1, h1, hm1⟩ := bndS_some hm
  cases hm1
  exact ⟨g, e, s, d, _, R, E, h1, fun p g1 H1 st1 hn hf hc o => k _ _ _ (st1.S E) p hn hf hc o⟩
theorem s_if {c : Expr} {sa sb : List Stmt} (hc : PT X c (trT X.K mt)) (ha : PSs X sa (trS X.K m1)) (hb : PSs X sb (trS X.K m2)) : PS X (.If c sa sb pos) (trS X.K (sIf mt m1 m2)) := PS.imp (ps_if hc ha hb) fun Dn σ H ⟨g, e, s, f, e', s', R, E, hm, k⟩ => by
  obtain ⟨z, s1, h1, hm1⟩ := bndS_some hm
  refine ⟨g, e, s, z, s1, R, E, h1, fun g1 H1 st1 => ?_⟩
  cases z with
  | true => exact iteT ⟨g1, e, s1, f, e', s', st1.rel, E.step st1, hm1, fun g2 H2 σ2 st2 => (k g2 H2 σ2 ((st1.S E).trans st2)).mid fun a => st1.noneOf⟩
  | false => exact iteF ⟨g1, e, s1, f, e', s', st1.rel, E.step st1, hm1, fun g2 H2 σ2 st2 => (k g2 H2 σ2 ((st1.S E).trans st2)).mid fun a => st1.noneOf⟩
/-- code that is not come to -/
def sDie : MS := fun _ _ => none
theorem s_die : PS X st (trS X.K sDie) := PS.imp ps_never fun Dn σ H ⟨g, e, s, f, e', s', R, E, hm, k⟩ => by cases hm
/-! ### stores into slots -/
theorem set_slot {g : G} {H : Hp} {σ : L2.St} {e : EnvD} {s : S} (R : SRel K g H s) (E : EnvRel K g H σ e) {i : Nat} {v : V} {d : D} (r : Rep K g v d) : StepS K g H σ e g H (σ.set i (some v)) (e.set i (.val d)) s := by
  have hE : EnvRel K g H (σ.set i (some v)) (e.set i (.val d)) := by
    refine ⟨by simp [E.len], fun j d' h => ?_, fun j d' h => ?_, fun j k d1 d2 a h1 h2 h3 h4 => ?_⟩
    · by_cases hj : i = j
      · subst hj
        have hl : i < e.length := by
          have := (List.getElem?_eq_some_iff.mp h).1
          simpa using this
        rw [List.getElem?_set_self hl] at h
        cases h
        exact ⟨v, List.getElem?_set_self (by rw [← E.len]; exact hl), r⟩
      · rw [List.getElem?_set_ne hj] at h ⊢
        exact E.val j d' h
    · by_cases hj : i = j
      · subst hj
        have hl : i < e.length := by
          have := (List.getElem?_eq_some_iff.mp h).1
          simpa using this
        rw [List.getElem?_set_self hl] at h
        cases h
      · rw [List.getElem?_set_ne hj] at h ⊢
        exact E.own j d' h
    · have n1 : i ≠ j := fun z => by
        subst z
        have hl : i < e.length := by
          have := (List.getElem?_eq_some_iff.mp h1).1
          simpa using this
        rw [List.getElem?_set_self hl] at h1; cases h1
      have n2 : i ≠ k := fun z => by
        subst z
        have hl : i < e.length := by
          have := (List.getElem?_eq_some_iff.mp h2).1
          simpa using this
        rw [List.getElem?_set_self hl] at h2; cases h2
      rw [List.getElem?_set_ne n1] at h1 h3
      rw [List.getElem?_set_ne n2] at h2 h4
      exact E.apart j k d1 d2 a h1 h2 h3 h4
  refine ⟨R, hE, .refl, fun _ _ h => .inl h, fun _ h => .inl h, fun a u h ha ho => ⟨h, fun ⟨j, d', h1, h2⟩ => ho ?_⟩, fun a u h => ⟨u, h⟩⟩
  have n1 : i ≠ j := fun z => by
    subst z
    have hl : i < e.length := by
      have := (List.getElem?_eq_some_iff.mp h1).1
      simpa using this
    rw [List.getElem?_set_self hl] at h1; cases h1
  rw [List.getElem?_set_ne n1] at h1 h2
  exact ⟨j, d', h1, h2⟩
theorem own_slot {g : G} {H : Hp} {σ : L2.St} {e : EnvD} {s : S} (R : SRel K g H s) (E : EnvRel K g H σ e) {i : Nat} {a : Addr} {d : D} (hf : g.F a = none) (hc : a ∉ g.ad) (o : OwnAt K g H a d) (hn : ∀ (j : Nat) (d' : D), e[j]? = some (Sl.own d') → σ[j]? ≠ some (some (V.ref a))) : EnvRel K g H (σ.set i (some (.ref a))) (e.set i (.own d)) := by
  have hs : ∀ {j : Nat} {x : Sl}, (e.set i (.own d))[j]? = some x → (i = j ∧ x = .own d) ∨ (i ≠ j ∧ e[j]? = some x) := fun {j x} h => by
    by_cases hj : i = j
    · subst hj
      have hl : i < e.length := by
        have := (List.getElem?_eq_some_iff.mp h).1
        simpa using this
      rw [List.getElem?_set_self hl] at h
      cases h
      exact .inl ⟨rfl, rfl⟩
    · rw [List.getElem?_set_ne hj] at h
      exact .inr ⟨hj, h⟩
  have hv : ∀ {j : Nat} {x : Sl}, (e.set i (.own d))[j]? = some x → i = j → (σ.set i (some (V.ref a)))[j]? = some (some (.ref a)) := fun {j x} h hj => by
    subst hj
    have hl : i < e.length := by
      have := (List.getElem?_eq_some_iff.mp h).1
      simpa using this
    exact List.getElem?_set_self (by rw [← E.len]; exact hl)
  refine ⟨by simp [E.len], fun j d' h => ?_, fun j d' h => ?_, fun j k d1 d2 b h1 h2 h3 h4 => ?_⟩
  · rcases hs h with ⟨_, z⟩ | ⟨hj, h'⟩
    · cases z
    · rw [List.getElem?_set_ne hj]
      exact E.val j d' h'
  · rcases hs h with ⟨hj, z⟩ | ⟨hj, h'⟩
    · cases z
      exact ⟨a, hv h hj, hf, hc, o⟩
    · rw [List.getElem?_set_ne hj]
      exact E.own j d' h'
  · rcases hs h1 with ⟨hj, _⟩ | ⟨hj, h1'⟩
    · have q := hv h1 hj
      rw [q] at h3; cases h3
      rcases hs h2 with ⟨hk, _⟩ | ⟨hk, h2'⟩
      · rw [← hj, hk]
      · rw [List.getElem?_set_ne hk] at h4
        exact absurd h4 (hn k _ h2')
    · rw [List.getElem?_set_ne hj] at h3
      rcases hs h2 with ⟨hk, _⟩ | ⟨hk, h2'⟩
      · have q := hv h2 hk
        rw [q] at h4; cases h4
        exact absurd h3 (hn j _ h1')
      · rw [List.getElem?_set_ne hk] at h4
        exact E.apart j k d1 d2 b h1' h2' h3 h4
theorem s_set {i : Nat} {x : Str} {pos' : Pos} (hN : X.N.Nodup) (hi : X.N[i]? = some x) (hx : Loc X.env.scope x) (h : PE X a (trE X.K me)) (hs : swapsWith a (some (.Name x pos')) pos.line X.env = pure false := by rfl) (hf : X.fn x = true ∨ X.env.scope.names.lookup x = some .local := by first | exact .inl rfl | assumption) :
    PS X (.Assign [.Name x pos'] a pos) (trS X.K (sSet i me)) := PS.imp (ps_set hN hi hx h hs hf) fun Dn σ H ⟨g, e, s, f, e', s', R, E, hm, k⟩ => by
  obtain ⟨d, s1, h1, hm1⟩ := bndS_some hm
  cases hm1
  exact ⟨g, e, s, d, _, R, E, h1, fun v g1 H1 st1 rv => k _ _ _ ((st1.S E).trans (set_slot st1.rel (E.step st1) rv))⟩
theorem own_step {g g1 : G} {H H1 : Hp} {σ : L2.St} {e : EnvD} {s1 : S} (E : EnvRel K g H σ e) (st : Step K g H g1 H1 s1) {i : Nat} {p : Addr} {d : D} (hn : H p = none) (hf : g1.F p = none) (hc : p ∉ g1.ad) (o : OwnAt K g1 H1 p d) : StepS K g H σ e g1 H1 (σ.set i (some (.ref p))) (e.set i (.own d)) s1 := by
  have nx : ∀ (j : Nat) (d' : D), e[j]? = some (Sl.own d') → σ[j]? ≠ some (some (V.ref p)) := fun j d' hj z => by
    obtain ⟨b, h1, _, _, h2⟩ := E.own j d' hj
    rw [z] at h1; cases h1
    obtain ⟨u, hu⟩ := h2.has
    rw [hn] at hu; cases hu
  have st1 := st.S E
  refine ⟨st.rel, own_slot st.rel (E.step st) hf hc o nx, st.le, st1.new, st1.newc, fun a u h ha ho => ⟨st.keep a u h ha, fun ⟨j, d', h1, h2⟩ => ?_⟩, st1.has⟩
  by_cases hj : i = j
  · subst hj
    have hl : i < e.length := by
      have := (List.getElem?_eq_some_iff.mp h1).1
      simpa using this
    rw [List.getElem?_set_self (by rw [← E.len]; exact hl)] at h2
    cases h2
    rw [hn] at h; cases h
  · rw [List.getElem?_set_ne hj] at h1 h2
    exact ho ⟨j, d', h1, h2⟩
theorem s_own {i : Nat} {x : Str} {pos' : Pos} (hN : X.N.Nodup) (hi : X.N[i]? = some x) (hx : Loc X.env.scope x) (h : PE X a (trF X.K me)) (hs : swapsWith a (some (.Name x pos')) pos.line X.env = pure false := by rfl) (hf : X.fn x = true ∨ X.env.scope.names.lookup x = some .local := by first | exact .inl rfl | assumption) :
    PS X (.Assign [.Name x pos'] a pos) (trS X.K (sOwn i me)) := PS.imp (ps_set hN hi hx h hs hf) fun Dn σ H ⟨g, e, s, f, e', s', R, E, hm, k⟩ => by
  obtain ⟨d, s1, h1, hm1⟩ := bndS_some hm
  cases hm1
  exact ⟨g, e, s, d, _, R, E, h1, fun p g1 H1 st1 hn hf hc o => k _ _ _ (own_step E st1 hn hf hc o)⟩
/-- ghost: the owned slot is frozen -/
theorem frz_step {g : G} {H : Hp} {σ : L2.St} {e : EnvD} {s : S} (R : SRel K g H s) (E : EnvRel K g H σ e) (i : Nat) : ∃ g', StepS K g H σ e g' H σ (frzE i e) s := by
  unfold frzE
  split
  · rename_i d h
    obtain ⟨a, h1, h2, h3, h4⟩ := E.own i d h
    obtain ⟨u, h5, h6, _⟩ := h4.frozen h2
    have L : GLe g (g.frz a u) := .frz h2
    have hl : i < e.length := (List.getElem?_eq_some_iff.mp h).1
    have hs : ∀ {j : Nat} {x : Sl}, (e.set i (.val d))[j]? = some x → (i = j ∧ x = .val d) ∨ (i ≠ j ∧ e[j]? = some x) := fun {j x} h => by
      by_cases hj : i = j
      · subst hj
        rw [List.getElem?_set_self hl] at h
        cases h
        exact .inl ⟨rfl, rfl⟩
      · rw [List.getElem?_set_ne hj] at h
        exact .inr ⟨hj, h⟩
    refine ⟨g.frz a u, R.frz h5 h2 h3, ⟨by simp [E.len], fun j d' hj => ?_, fun j d' hj => ?_, fun j k d1 d2 b q1 q2 q3 q4 => ?_⟩, L, fun b w hb => ?_, fun b hb => .inl hb, fun b w hb hc ho => ⟨hb, fun ⟨j, d', q1, q2⟩ => ho ?_⟩, fun b w hb => ⟨w, hb⟩⟩
    · rcases hs hj with ⟨hij, z⟩ | ⟨hij, z⟩
      · subst hij; cases z
        exact ⟨_, h1, h6⟩
      · obtain ⟨v, q1, q2⟩ := E.val j d' z
        exact ⟨v, q1, q2.mono L⟩
    · rcases hs hj with ⟨hij, z⟩ | ⟨hij, z⟩
      · cases z
      · obtain ⟨b, q1, q2, q3, q4⟩ := E.own j d' z
        have hab : b ≠ a := fun w => by
          subst w
          exact hij (E.apart i j d d' b h z h1 q1)
        exact ⟨b, q1, by show upd g.F a u b = none; rw [upd_ne hab]; exact q2, q3, q4.mono L fun _ w => w⟩
    · rcases hs q1 with ⟨_, z⟩ | ⟨_, z1⟩
      · cases z
      · rcases hs q2 with ⟨_, z⟩ | ⟨_, z2⟩
        · cases z
        · exact E.apart j k d1 d2 b z1 z2 q3 q4
    · by_cases hba : b = a
      · subst hba; exact .inr (.inr ⟨i, d, h, h1⟩)
      · have hb : upd g.F a u b = some w := hb
        rw [upd_ne hba] at hb
        exact .inl hb
    · rcases hs q1 with ⟨_, z⟩ | ⟨_, z⟩
      · cases z
      · exact ⟨j, d', z, q2⟩
  · exact ⟨g, .refl R E⟩
theorem trS_frz {i : Nat} {Dn : Ends} {σ : L2.St} {H : Hp} (h : trS K (sFrz i m) Dn σ H) : trS K m Dn σ H := by
  obtain ⟨g, e, s, f, e', s', R, E, hm, k⟩ := h
  obtain ⟨g1, st1⟩ := frz_step R E i
  exact ⟨g1, frzE i e, s, f, e', s', st1.rel, st1.env, hm, fun g2 H2 σ2 st2 => (k g2 H2 σ2 (st1.trans st2)).mid fun a => st1.noneOf⟩
theorem s_frz1 {i : Nat} (h : PS X st (trS X.K m)) : PS X st (trS X.K (sFrz i m)) := PS.imp h fun _ _ _ => trS_frz
/-! ### what an owned slot holds, changed in place -/
theorem own_set {g g1 : G} {H H1 : Hp} {σ : L2.St} {e : EnvD} {s1 : S} (E : EnvRel K g H σ e) (st : Step K g H g1 H1 s1) {i : Nat} {d d' : D} {a : Addr} {u : HO} (h : e[i]? = some (.own d)) (ha : σ[i]? = some (some (.ref a))) (o : ∀ g', GLe g1 g' → OwnAt K g' (upd H1 a u) a d') : StepS K g H σ e g1 (upd H1 a u) σ (e.set i (.own d')) s1 := by
  have E1 := E.step st
  obtain ⟨b, h1, h2, h3, h4⟩ := E1.own i d h
  rw [ha] at h1; cases h1
  have hl : i < e.length := (List.getElem?_eq_some_iff.mp h).1
  obtain ⟨w0, hw0⟩ := h4.has
  have hs : ∀ {j : Nat} {x : Sl}, (e.set i (.own d'))[j]? = some x → (i = j ∧ x = .own d') ∨ (i ≠ j ∧ e[j]? = some x) := fun {j x} h => by
    by_cases hj : i = j
    · subst hj
      rw [List.getElem?_set_self hl] at h
      cases h
      exact .inl ⟨rfl, rfl⟩
    · rw [List.getElem?_set_ne hj] at h
      exact .inr ⟨hj, h⟩
  have nF : ∀ b w, g1.F b = some w → b ≠ a := fun b w q z => by subst z; rw [h2] at q; cases q
  have R' : SRel K g1 (upd H1 a u) s1 := by
    refine ⟨fun b w q => ?_, st.rel.len, fun n c q => ?_, st.rel.inj⟩
    · rw [upd_ne (nF b w q)]
      exact st.rel.sub b w q
    · obtain ⟨b, q1, q2, q3⟩ := st.rel.cell n c q
      have hb : b ≠ a := fun z => by subst z; exact h3 (List.mem_iff_getElem?.mpr ⟨n, q1⟩)
      exact ⟨b, q1, q2, q3.mono .refl fun w hw => by rw [upd_ne hb]; exact hw⟩
  have own_iff : ∀ b, OwnA σ (e.set i (.own d')) b → OwnA σ e b := fun b ⟨j, x, q1, q2⟩ => by
    rcases hs q1 with ⟨hj, _⟩ | ⟨_, z⟩
    · subst hj; exact ⟨i, d, h, q2⟩
    · exact ⟨j, x, z, q2⟩
  refine ⟨R', ⟨by simp [E1.len], fun j x hj => ?_, fun j x hj => ?_, fun j k d1 d2 b q1 q2 q3 q4 => ?_⟩, st.le, (st.S E).new, (st.S E).newc, fun b w hb hc ho => ⟨?_, fun z => ho (own_iff b z)⟩, fun b w hb => ?_⟩
  · rcases hs hj with ⟨_, z⟩ | ⟨_, z⟩
    · cases z
    · exact E1.val j x z
  · rcases hs hj with ⟨hij, z⟩ | ⟨hij, z⟩
    · subst hij; cases z
      exact ⟨a, ha, h2, h3, o g1 .refl⟩
    · obtain ⟨b, q1, q2, q3, q4⟩ := E1.own j x z
      have hab : b ≠ a := fun w => by
        subst w
        exact hij (E1.apart i j d x b h z ha q1)
      exact ⟨b, q1, q2, q3, q4.mono .refl fun w hw => by rw [upd_ne hab]; exact hw⟩
  · have lift : ∀ {j : Nat} {x : D}, (e.set i (.own d'))[j]? = some (.own x) → ∃ y, e[j]? = some (.own y) := fun {j x} q => by
      rcases hs q with ⟨hj, _⟩ | ⟨_, z⟩
      · subst hj; exact ⟨d, h⟩
      · exact ⟨x, z⟩
    obtain ⟨y1, z1⟩ := lift q1
    obtain ⟨y2, z2⟩ := lift q2
    exact E1.apart j k y1 y2 b z1 z2 q3 q4
  · have hba : b ≠ a := fun z => by subst z; exact ho ⟨i, d, h, ha⟩
    rw [upd_ne hba]
    exact st.keep b w hb hc
  · obtain ⟨w', hw'⟩ := st.has hb
    by_cases hba : b = a
    · subst hba; exact ⟨u, upd_same⟩
    · exact ⟨w', by rw [upd_ne hba]; exact hw'⟩
def sApp (i : Nat) (m : ME) : MS := fun e s => bndS (m e s) fun d s => match e[i]? with
  | some (.own (.lst ds)) => if ds.length < sizeLine then some (.nx, e.set i (.own (.lst (ds ++ [d]))), s) else none
  | _ => none
theorem s_app {i : Nat} {x : Str} {p apos cpos : Pos} (hN : X.N[i]? = some x) (hv : Vis X.env.scope x) (h : PE X a (trE X.K me)) (hst : starEach [a] X.env = [(false, eval a X.env)] := by rfl)
    (hb : PE X (.Call (.Attribute (.Name x p) "append" apos) [a] [] cpos) (tBM X.K "list" rAppend (tVar i) (tCons (trE X.K me) tNil)))
    (hs : swapsWith (.Call (.Attribute (.Name x p) "append" apos) [a] [] cpos) none pos.line X.env = pure false := by rfl) : PS X (.Expr (.Call (.Attribute (.Name x p) "append" apos) [a] [] cpos) pos) (trS X.K (sApp i me)) := PS.imp (ps_expr hb hs) fun Dn σ H ⟨g, e, s, f, e', s', R, E, hm, k⟩ => by
  obtain ⟨d, s1, h1, hm1⟩ := bndS_some hm
  split at hm1
  · rename_i ds he
    split at hm1
    · rename_i hz
      cases hm1
      obtain ⟨b, q1, q2, q3, vs, q4, q5⟩ := E.own i _ he
      refine ⟨_, q1, .inl ⟨rfl, _, .inl (.inl q4)⟩, g, e, s, d, _, R, E, h1, fun v g1 H1 st1 rv => ?_⟩
      have q6 := st1.keep b _ q4 q3
      refine ⟨b, vs, v, rfl, rfl, q6, by rw [q5.length]; exact hz, ?_⟩
      exact k _ _ _ (own_set E st1 he q1 fun g' L => ⟨_, upd_same, ((q5.mono st1.le).append (.cons rv .nil)).mono L⟩)
    · cases hm1
  · cases hm1
end
end Z

set_option Elab.async false
set_option linter.all false
set_option maxRecDepth 100000
set_option maxHeartbeats 4000000
namespace Z
open PySem PySem.Spec PyProof.Rows L2
/-! ### targets -/
abbrev MG := D → EnvD → S → Option (EnvD × S)
def trG (K : PySem.W.Frag) (mg : MG) : TG := fun v σ H Q => ∃ g e s d e' s', SRel K g H s ∧ EnvRel K g H σ e ∧ Rep K g v d ∧ mg d e s = some (e', s') ∧ ∀ g' H' σ', StepS K g H σ e g' H' σ' e' s' → Q σ' H'
abbrev MGs := List D → EnvD → S → Option (EnvD × S)
def trGs (K : PySem.W.Frag) (mg : MGs) : TGs := fun vs σ H Q => ∃ g e s ds e' s', SRel K g H s ∧ EnvRel K g H σ e ∧ RepL K g vs ds ∧ mg ds e s = some (e', s') ∧ ∀ g' H' σ', StepS K g H σ e g' H' σ' e' s' → Q σ' H'
def gNm (i : Nat) : MG := fun d e s => some (e.set i (.val d), s)
def gsNil : MGs := fun ds e s => match ds with
  | [] => some (e, s)
  | _ => none
def gsCons (mg : MG) (ms : MGs) : MGs := fun ds e s => match ds with
  | d :: ds => match mg d e s with
    | some (e', s') => ms ds e' s'
    | none => none
  | [] => none
def gSeq (ms : MGs) : MG := fun d e s => match d with
  | .tup ds => ms ds e s
  | .lst ds => ms ds e s
  | _ => none
section
variable {X : Cx} {K : PySem.W.Frag} {mg : MG} {ms : MGs} {me mi : ME} {pos : Pos} {a : Expr}
theorem g_nm {i : Nat} {x : Str} (hN : X.N.Nodup) (hi : X.N[i]? = some x) (hx : Loc X.env.scope x) (hf : X.fn x = true ∨ X.env.scope.names.lookup x = some .local := by first | exact .inl rfl | assumption) : PG X (.Name x pos) (trG X.K (gNm i)) := PG.imp (pg_name hN hi hx hf) fun v σ H Q ⟨g, e, s, d, e', s', R, E, r, hm, k⟩ => by
  cases hm
  exact k _ _ _ (set_slot R E r)
theorem PGs.imp {X : Cx} {es : List Expr} {t t' : TGs} (h : PGs X es t) (i : ∀ v σ H Q, t' v σ H Q → t v σ H Q) : PGs X es t' := ⟨fun pins s σ H v u Q I r q => h.run pins s σ H v u Q I r (i _ _ _ _ q)⟩
theorem PG.or {X : Cx} {e : Expr} {t t' : TG} (h : PG X e t) (h' : PG X e t') : PG X e (fun v σ H Q => t v σ H Q ∨ t' v σ H Q) := ⟨fun pins s σ H v u Q I r q => q.elim (h.run pins s σ H v u Q I r) (h'.run pins s σ H v u Q I r)⟩
theorem gs_nil : PGs X [] (trGs X.K gsNil) := PGs.imp pgs_nil fun vs σ H Q ⟨g, e, s, ds, e', s', R, E, r, hm, k⟩ => by
  unfold gsNil at hm
  split at hm
  · cases hm
    cases r
    exact ⟨rfl, k _ _ _ (.refl R E)⟩
  · cases hm
theorem gs_cons {es : List Expr} (h1 : PG X a (trG X.K mg)) (h2 : PGs X es (trGs X.K ms)) (hs : (assignEach (a :: es) X.env).map (·.2) = assign a X.env :: (assignEach es X.env).map (·.2) := by rfl) : PGs X (a :: es) (trGs X.K (gsCons mg ms)) := PGs.imp (pgs_cons h1 h2 hs) fun vs σ H Q ⟨g, e, s, ds, e', s', R, E, r, hm, k⟩ => by
  unfold gsCons at hm
  split at hm
  · split at hm
    · rename_i d ds _ e1 s1 h3
      cases r with
      | cons r1 r2 =>
        refine ⟨_, _, rfl, g, e, s, d, e1, s1, R, E, r1, h3, fun g1 H1 σ1 st1 => ?_⟩
        exact ⟨g1, e1, s1, ds, e', s', st1.rel, st1.env, r2.mono st1.le, hm, fun g2 H2 σ2 st2 => k _ _ _ (st1.trans st2)⟩
    · cases hm
  · cases hm
theorem g_seq {es : List Expr} {kk n : Nat} (hc : X.calm = true) (h : PGs X es (trGs X.K ms)) (hlen : ∀ ds e s r, ms ds e s = some r → ds.length = n) (hn : (assignEach es X.env).length = n := by rfl) (hst : (assignEach es X.env).findIdx? (·.1) = none := by rfl) : PG X (.Tuple es kk pos) (trG X.K (gSeq ms)) :=
  PG.imp (PG.or (pg_tup hc h hn hst) (pg_unl hc h hn hst)) fun v σ H Q ⟨g, e, s, d, e', s', R, E, r, hm, k⟩ => by
  unfold gSeq at hm
  split at hm
  · cases r with
    | tup hl rl => exact .inl ⟨_, _, rfl, sqT_H R hl, by rw [rl.length]; exact hlen _ _ _ _ hm, g, e, s, _, e', s', R, E, rl, hm, k⟩
  · cases r with
    | lst hl rl => exact .inr ⟨_, _, rfl, .inl (rd_H R hl), by rw [rl.length]; exact hlen _ _ _ _ hm, g, e, s, _, e', s', R, E, rl, hm, k⟩
  · cases hm
theorem gsLen0 : ∀ ds e s r, gsNil ds e s = some r → ds.length = 0 := fun ds e s r h => by
  unfold gsNil at h
  split at h
  · rfl
  · cases h
theorem gsLen1 {n : Nat} (h : ∀ ds e s r, ms ds e s = some r → ds.length = n) : ∀ ds e s r, gsCons mg ms ds e s = some r → ds.length = n + 1 := fun ds e s r q => by
  unfold gsCons at q
  split at q
  · split at q
    · rw [List.length_cons, h _ _ _ _ q]
    · cases q
  · cases q
/-- a cell's item -/
def gCel (mo mi : ME) : MG := fun d e s => match mo e s with
  | some (.cel n, s) => match mi e s with
    | some (.int k, s) => match s[n]? with
      | some (.lst ds) => match ixN ds.length k with
        | some j => some (e, s.set n (.lst (ds.set j d)))
        | none => none
      | _ => none
    | _ => none
  | _ => none
theorem cel_step {g : G} {H : Hp} {σ : L2.St} {e : EnvD} {s : S} {n : Nat} {p : Addr} {u : HO} {c : D} (R : SRel K g H s) (E : EnvRel K g H σ e) (hp : g.ad[n]? = some p) (hn : n < s.length) (o : ∀ g', GLe g g' → OwnAt K g' (upd H p u) p c) : StepS K g H σ e g (upd H p u) σ e (s.set n c) := by
  have hm : p ∈ g.ad := List.mem_iff_getElem?.mpr ⟨n, hp⟩
  have hF : ∀ b w, g.F b = some w → b ≠ p := fun b w q z => by
    subst z
    obtain ⟨b', h1, h2, _⟩ := R.cell n s[n] (List.getElem?_eq_getElem hn)
    rw [hp] at h1; cases h1
    rw [h2] at q; cases q
  have R' : SRel K g (upd H p u) (s.set n c) := by
    refine ⟨fun b w q => by rw [upd_ne (hF b w q)]; exact R.sub b w q, by simp [R.len], fun m c' q => ?_, R.inj⟩
    by_cases hmn : n = m
    · subst hmn
      rw [List.getElem?_set_self hn] at q
      cases q
      obtain ⟨b', h1, h2, _⟩ := R.cell n s[n] (List.getElem?_eq_getElem hn)
      rw [hp] at h1; cases h1
      exact ⟨p, hp, h2, o g .refl⟩
    · rw [List.getElem?_set_ne hmn] at q
      obtain ⟨b', h1, h2, h3⟩ := R.cell m c' q
      have nb : b' ≠ p := fun z => by subst z; exact hmn (R.inj n m b' hp h1)
      exact ⟨b', h1, h2, h3.mono .refl fun w hw => by rw [upd_ne nb]; exact hw⟩
  refine ⟨R', ⟨E.len, E.val, fun i d h => ?_, E.apart⟩, .refl, fun _ _ h => .inl h, fun _ h => .inl h, fun b w hb hc ho => ⟨?_, ho⟩, fun b w hb => ?_⟩
  · obtain ⟨b, h1, h2, h3, h4⟩ := E.own i d h
    have nb : b ≠ p := fun z => by subst z; exact h3 hm
    exact ⟨b, h1, h2, h3, h4.mono .refl fun w hw => by rw [upd_ne nb]; exact hw⟩
  · rw [upd_ne fun z => by subst z; exact hc hm]
    exact hb
  · by_cases hbp : b = p
    · subst hbp; exact ⟨u, upd_same⟩
    · exact ⟨w, by rw [upd_ne hbp]; exact hb⟩
theorem g_cel {o i : Expr} (ho : PE X o (trE X.K me)) (hi : PE X i (trE X.K mi))
    (ha : ∀ v, assign (.Subscript o i pos) X.env v = (do
      let ov ← holding [v] (eval o X.env)
      let iv ← holding [v, ov] (eval i X.env)
      standAt pos
      holding [v, ov, iv] (setItem ov iv v)
      release [v, ov, iv] []) := by intro _; rfl) : PG X (.Subscript o i pos) (trG X.K (gCel me mi)) := PG.imp (pg_sub ho hi set_list ha) fun v σ H Q ⟨g, e, s, d, e', s', R, E, r, hm, k⟩ => by
  unfold gCel at hm
  split at hm
  · rename_i n s1 h1
    split at hm
    · rename_i kk s2 h2
      split at hm
      · rename_i ds h3
        split at hm
        · rename_i j h4
          cases hm
          refine ⟨g, e, s, _, s1, R, E, h1, fun ov g1 H1 st1 ro => ⟨g1, e, s1, _, s2, st1.rel, E.step st1, h2, fun iv g2 H2 st2 ri => ?_⟩⟩
          cases ri
          have st := st1.trans st2
          cases ro with
          | cel hp =>
            have hp2 := st2.le.ad _ _ hp
            obtain ⟨b, q1, q2, vs, q3, q4⟩ := st2.rel.cell n _ h3
            rw [hp2] at q1; cases q1
            refine ⟨_, vs, kk, j, rfl, rfl, q3, by rw [q4.length]; exact h4, ?_⟩
            have hn : n < s2.length := (List.getElem?_eq_some_iff.mp h3).1
            refine k _ _ _ ((st.S E).trans (cel_step st2.rel (E.step st) hp2 hn fun g' L => ⟨_, upd_same, ?_⟩))
            exact ((q4.set (r.mono st.le) j)).mono L
        · cases hm
      · cases hm
    · cases hm
  · cases hm
/-- target = value -/
def sAsg (mg : MG) (m : ME) : MS := fun e s => bndS (m e s) fun d s => match mg d e s with
  | some (e', s') => some (.nx, e', s')
  | none => none
theorem s_asg {tg : Expr} (h : PE X a (trE X.K me)) (hg : PG X tg (trG X.K mg)) (hs : swapsWithSole [tg] a pos.line X.env = pure false := by rfl) (hw : swappedStores [tg] a X.env = pure none := by rfl)
    (h1 : (assignEach [tg] X.env).map (·.2) = [assign tg X.env] := by rfl) : PS X (.Assign [tg] a pos) (trS X.K (sAsg mg me)) := PS.imp (ps_asg h hg hs hw h1) fun Dn σ H ⟨g, e, s, f, e', s', R, E, hm, k⟩ => by
  obtain ⟨d, s1, h2, hm1⟩ := bndS_some hm
  split at hm1
  · rename_i e2 s2 h3
    cases hm1
    exact ⟨g, e, s, d, s1, R, E, h2, fun v g1 H1 st1 rv => ⟨g1, e, s1, d, _, _, st1.rel, E.step st1, rv, h3, fun g2 H2 σ2 st2 => k _ _ _ ((st1.S E).trans st2)⟩⟩
  · cases hm1
/-! ### a, b = .. stored from the right; some of the values new objects -/
abbrev MX := EnvD → S → Option (List Sl × S)
def OwnX (vs : List V) (sl : List Sl) (b : Addr) : Prop := ∃ (j : Nat) (d : D), sl[j]? = some (Sl.own d) ∧ vs[j]? = some (V.ref b)
inductive RepX (K : PySem.W.Frag) (g : G) (H0 H : Hp) : List V → List Sl → Prop
  | nil : RepX K g H0 H [] []
  | val {v d vs sl} : Rep K g v d → RepX K g H0 H vs sl → RepX K g H0 H (v :: vs) (.val d :: sl)
  | own {a d vs sl} : H0 a = none → g.F a = none → a ∉ g.ad → OwnAt K g H a d → ¬ OwnX vs sl a → RepX K g H0 H vs sl → RepX K g H0 H (.ref a :: vs) (.own d :: sl)
theorem RepX.fresh {g : G} {H0 H : Hp} : ∀ {vs : List V} {sl : List Sl} {b : Addr}, RepX K g H0 H vs sl → OwnX vs sl b → H0 b = none
  | _, _, _, .nil, ⟨j, d, h1, _⟩ => by simp at h1
  | _, _, _, .val _ r, ⟨0, d, h1, _⟩ => by simp at h1
  | _, _, _, .val _ r, ⟨j + 1, d, h1, h2⟩ => RepX.fresh r ⟨j, d, by simpa using h1, by simpa using h2⟩
  | _, _, _, .own h _ _ _ _ r, ⟨0, d, h1, h2⟩ => by simp at h2; rw [← h2]; exact h
  | _, _, _, .own h _ _ _ _ r, ⟨j + 1, d, h1, h2⟩ => RepX.fresh r ⟨j, d, by simpa using h1, by simpa using h2⟩
theorem RepX.base {g : G} {H0 H1 H : Hp} (h : ∀ b, H1 b = none → H0 b = none) : ∀ {vs : List V} {sl : List Sl}, RepX K g H1 H vs sl → RepX K g H0 H vs sl
  | _, _, .nil => .nil
  | _, _, .val h1 r => .val h1 (RepX.base h r)
  | _, _, .own h1 h2 h3 h4 h5 r => .own (h _ h1) h2 h3 h4 h5 (RepX.base h r)
theorem RepX.up {g : G} {H0 H H' : Hp} (h : ∀ a u, H a = some u → H' a = some u) : ∀ {vs : List V} {sl : List Sl}, RepX K g H0 H vs sl → RepX K g H0 H' vs sl
  | _, _, .nil => .nil
  | _, _, .val h1 r => .val h1 (RepX.up h r)
  | _, _, .own h1 h2 h3 h4 h5 r => .own h1 h2 h3 (h4.mono .refl fun u hu => h _ u hu) h5 (RepX.up h r)
def trX (K : PySem.W.Frag) (m : MX) : TA := fun σ H Q => ∃ g e s ds s', SRel K g H s ∧ EnvRel K g H σ e ∧ m e s = some (ds, s') ∧ ∀ vs g' H', Step K g H g' H' s' → RepX K g' H H' vs ds → Q vs H'
def xNil : MX := fun _ s => some ([], s)
def xVal (m : ME) (mx : MX) : MX := fun e s => bnd (m e s) fun d s => bnd (mx e s) fun ds s => some (.val d :: ds, s)
def xOwn (m : ME) (mx : MX) : MX := fun e s => bnd (m e s) fun d s => bnd (mx e s) fun ds s => some (.own d :: ds, s)
variable {es : List Expr} {mx : MX}
theorem x_nil : PA X [] (trX X.K xNil) := PA.imp pa_nil fun σ H Q ⟨g, e, s, ds, s', R, E, hm, k⟩ => by
  cases hm
  exact k _ _ _ (.refl R) .nil
theorem x_val (h : PE X a (trE X.K me)) (ha : PA X es (trX X.K mx)) (hs : starEach (a :: es) X.env = (false, eval a X.env) :: starEach es X.env := by rfl) : PA X (a :: es) (trX X.K (xVal me mx)) := PA.imp (pa_cons h ha hs) fun σ H Q ⟨g, e, s, ds, s', R, E, hm, k⟩ => by
  obtain ⟨d, s1, h1, hm1⟩ := bnd_some hm
  obtain ⟨xs, s2, h2, hm2⟩ := bnd_some hm1
  cases hm2
  exact ⟨g, e, s, d, s1, R, E, h1, fun x g1 H1 st1 rx => ⟨g1, e, s1, xs, _, st1.rel, E.step st1, h2, fun vs g2 H2 st2 rv => k _ g2 H2 (st1.trans st2) (.val (rx.mono st2.le) (rv.base fun b hb => st1.noneOf hb))⟩⟩
theorem x_own (h : PE X a (trF X.K me)) (ha : PA X es (trX X.K mx)) (hs : starEach (a :: es) X.env = (false, eval a X.env) :: starEach es X.env := by rfl) : PA X (a :: es) (trX X.K (xOwn me mx)) := PA.imp (pa_cons h ha hs) fun σ H Q ⟨g, e, s, ds, s', R, E, hm, k⟩ => by
  obtain ⟨d, s1, h1, hm1⟩ := bnd_some hm
  obtain ⟨xs, s2, h2, hm2⟩ := bnd_some hm1
  cases hm2
  refine ⟨g, e, s, d, s1, R, E, h1, fun p g1 H1 st1 hn hf hc o => ⟨g1, e, s1, xs, _, st1.rel, E.step st1, h2, fun vs g2 H2 st2 rv => ?_⟩⟩
  obtain ⟨u, hu⟩ := o.has
  have hf2 : g2.F p = none := by
    cases q : g2.F p with
    | none => rfl
    | some w =>
      rcases st2.new p w q with z | z
      · rw [hf] at z; cases z
      · rw [hu] at z; cases z
  have hc2 : p ∉ g2.ad := fun z => by
    rcases st2.newc p z with z | z
    · exact hc z
    · rw [hu] at z; cases z
  refine k _ g2 H2 (st1.trans st2) (.own hn hf2 hc2 (o.mono st2.le fun w hw => st2.keep p w hw hc) (fun z => ?_) (rv.base fun b hb => st1.noneOf hb))
  have := rv.fresh z
  rw [hu] at this; cases this
/-- one more slot is given what is new -/
theorem StepS.own {g g1 : G} {H H1 : Hp} {σ σ1 : L2.St} {e e1 : EnvD} {s1 : S} (x : StepS K g H σ e g1 H1 σ1 e1 s1) {i : Nat} {p : Addr} {d : D} (hn : H p = none) (hf : g1.F p = none) (hc : p ∉ g1.ad) (o : OwnAt K g1 H1 p d) (ho : ¬ OwnA σ1 e1 p) : StepS K g H σ e g1 H1 (σ1.set i (some (.ref p))) (e1.set i (.own d)) s1 := by
  refine ⟨x.rel, own_slot x.rel x.env hf hc o (fun j d' h1 h2 => ho ⟨j, d', h1, h2⟩), x.le, x.new, x.newc, fun a u h ha hoa => ?_, x.has⟩
  obtain ⟨q1, q2⟩ := x.keep a u h ha hoa
  refine ⟨q1, fun ⟨j, d', h1, h2⟩ => ?_⟩
  by_cases hj : i = j
  · subst hj
    have hl : i < e1.length := by
      have := (List.getElem?_eq_some_iff.mp h1).1
      simpa using this
    rw [List.getElem?_set_self (by rw [← x.env.len]; exact hl)] at h2
    cases h2
    rw [hn] at h; cases h
  · rw [List.getElem?_set_ne hj] at h1 h2
    exact q2 ⟨j, d', h1, h2⟩
def setX : List Nat → List Sl → EnvD → EnvD
  | i :: is, x :: xs, e => setX is xs (e.set i x)
  | _, _, e => e
def setV : List Nat → List V → L2.St → L2.St
  | i :: is, v :: vs, σ => setV is vs (σ.set i (some v))
  | _, _, σ => σ
theorem own_set_iff {σ1 : L2.St} {e1 : EnvD} {i : Nat} {v : V} {x : Sl} {b : Addr} (hl : e1.length = σ1.length) (h : OwnA (σ1.set i (some v)) (e1.set i x) b) : (v = .ref b ∧ ∃ d, x = .own d) ∨ OwnA σ1 e1 b := by
  obtain ⟨j, d', h1, h2⟩ := h
  by_cases hj : i = j
  · subst hj
    have hi : i < e1.length := by
      have := (List.getElem?_eq_some_iff.mp h1).1
      simpa using this
    rw [List.getElem?_set_self hi] at h1
    rw [List.getElem?_set_self (by rw [← hl]; exact hi)] at h2
    cases h1; cases h2
    exact .inl ⟨rfl, _, rfl⟩
  · rw [List.getElem?_set_ne hj] at h1 h2
    exact .inr ⟨j, d', h1, h2⟩
theorem StepS.placeX {g g1 : G} {H H1 : Hp} {σ : L2.St} {e : EnvD} {s1 : S} : ∀ {is : List Nat} {vs : List V} {sl : List Sl} {σ1 : L2.St} {e1 : EnvD}, StepS K g H σ e g1 H1 σ1 e1 s1 → RepX K g1 H H1 vs sl → (∀ b, OwnX vs sl b → ¬ OwnA σ1 e1 b) → StepS K g H σ e g1 H1 (setV is vs σ1) (setX is sl e1) s1
  | [], _, _, _, _, x, _, _ => by simpa [setV, setX] using x
  | i :: is, _, _, _, _, x, .nil, _ => by simpa [setV, setX] using x
  | i :: is, _, _, _, _, x, .val h r, n => by
    refine StepS.placeX (is := is) (x.trans (set_slot x.rel x.env h)) r fun b hb ho => ?_
    rcases own_set_iff x.env.len ho with ⟨_, d, z⟩ | z
    · cases z
    · obtain ⟨j, d, q1, q2⟩ := hb
      exact n b ⟨j + 1, d, by simpa using q1, by simpa using q2⟩ z
  | i :: is, _, _, _, _, x, .own h1 h2 h3 h4 h5 r, n => by
    have n0 := n _ ⟨0, _, rfl, rfl⟩
    refine StepS.placeX (is := is) (x.own h1 h2 h3 h4 n0) r fun b hb ho => ?_
    rcases own_set_iff x.env.len ho with ⟨z, _⟩ | z
    · cases z
      exact h5 hb
    · obtain ⟨j, d, q1, q2⟩ := hb
      exact n b ⟨j + 1, d, by simpa using q1, by simpa using q2⟩ z
def sPar (is : List Nat) (m : MX) : MS := fun e s => bndS (m e s) fun sl s => if sl.length = is.length then some (.nx, setX is sl e, s) else none
theorem RepX.length {g : G} {H0 H : Hp} : ∀ {vs : List V} {sl : List Sl}, RepX K g H0 H vs sl → vs.length = sl.length
  | _, _, .nil => rfl
  | _, _, .val _ r => by simp [RepX.length r]
  | _, _, .own _ _ _ _ _ r => by simp [RepX.length r]
theorem trS_par {is : List Nat} {Dn : Ends} {σ : L2.St} {H : Hp} (h : trS K (sPar is mx) Dn σ H) : trX K mx σ H (fun vs H1 => vs.length = is.length ∧ Dn.nx (setV is vs σ) H1) := by
  obtain ⟨g, e, s, f, e', s', R, E, hm, k⟩ := h
  obtain ⟨sl, s1, h1, hm1⟩ := bndS_some hm
  split at hm1
  · rename_i hl
    cases hm1
    refine ⟨g, e, s, sl, _, R, E, h1, fun vs g1 H1 st1 rv => ⟨by rw [rv.length]; exact hl, ?_⟩⟩
    refine k g1 H1 _ ((st1.S E).placeX rv fun b hb ho => ?_)
    have hn := rv.fresh hb
    obtain ⟨i, d, q1, q2⟩ := ho
    obtain ⟨b', q3, _, _, q4⟩ := E.own i d q1
    rw [q2] at q3; cases q3
    obtain ⟨u, hu⟩ := q4.has
    rw [hn] at hu; cases hu
  · cases hm1
theorem s_par2 {i j : Nat} {x y : Str} {a b : Expr} {px py pt : Pos} {kt k2 pt2} (hc : X.calm = true) (hN : X.N.Nodup) (hi : X.N[i]? = some x) (hj : X.N[j]? = some y) (hij : i ≠ j)
    (hx : X.env.scope.names.lookup x = some .local) (hy : X.env.scope.names.lookup y = some .local) (ha : PA X [a, b] (trX X.K mx))
    (hw : swappedStores [.Tuple [.Name x px, .Name y py] kt pt] (.Tuple [a, b] k2 pt2) X.env = pure (some [x, y]))
    (hs : swapsWithSole [.Tuple [.Name x px, .Name y py] kt pt] (.Tuple [a, b] k2 pt2) pos.line X.env = pure false := by rfl) :
    PS X (.Assign [.Tuple [.Name x px, .Name y py] kt pt] (.Tuple [a, b] k2 pt2) pos) (trS X.K (sPar [i, j] mx)) := PS.imp (ps_par hc hN hi hj hij hx hy ha hw hs) fun Dn σ H h => by
  obtain ⟨g, e, s, ds, s', R, E, hm, k⟩ := trS_par h
  refine ⟨g, e, s, ds, s', R, E, hm, fun vs g' H' st rv => ?_⟩
  obtain ⟨hl, hk⟩ := k vs g' H' st rv
  match vs, hl with
  | [v, w], _ => exact ⟨v, w, rfl, hk⟩
theorem s_par3 {i j l : Nat} {x y z : Str} {a b c : Expr} {px py pz pt : Pos} {kt k2 pt2} (hc : X.calm = true) (hN : X.N.Nodup) (hi : X.N[i]? = some x) (hj : X.N[j]? = some y) (hl : X.N[l]? = some z) (hij : i ≠ j) (hil : i ≠ l) (hjl : j ≠ l)
    (hx : X.env.scope.names.lookup x = some .local) (hy : X.env.scope.names.lookup y = some .local) (hz : X.env.scope.names.lookup z = some .local) (ha : PA X [a, b, c] (trX X.K mx))
    (hw : swappedStores [.Tuple [.Name x px, .Name y py, .Name z pz] kt pt] (.Tuple [a, b, c] k2 pt2) X.env = pure (some [x, y, z]))
    (hs : swapsWithSole [.Tuple [.Name x px, .Name y py, .Name z pz] kt pt] (.Tuple [a, b, c] k2 pt2) pos.line X.env = pure false := by rfl) :
    PS X (.Assign [.Tuple [.Name x px, .Name y py, .Name z pz] kt pt] (.Tuple [a, b, c] k2 pt2) pos) (trS X.K (sPar [i, j, l] mx)) := PS.imp (ps_par3 hc hN hi hj hl hij hil hjl hx hy hz ha hw hs) fun Dn σ H h => by
  obtain ⟨g, e, s, ds, s', R, E, hm, k⟩ := trS_par h
  refine ⟨g, e, s, ds, s', R, E, hm, fun vs g' H' st rv => ?_⟩
  obtain ⟨hl, hk⟩ := k vs g' H' st rv
  match vs, hl with
  | [v, w, u], _ => exact ⟨v, w, u, rfl, hk⟩
/-- several names, by a tuple -/
inductive Nms (X : Cx) : List Expr → List Nat → Prop
  | nil : Nms X [] []
  | cons {x pos es i is} : X.N[i]? = some x → Loc X.env.scope x → (X.fn x = true ∨ X.env.scope.names.lookup x = some .local) → Nms X es is → Nms X (.Name x pos :: es) (i :: is)
def gNames : List Nat → TGs
  | [] => gNil
  | i :: is => gCons (gName i) (gNames is)
theorem gs_names (hN : X.N.Nodup) : ∀ {es : List Expr} {is : List Nat}, Nms X es is → PGs X es (gNames is)
  | _, _, .nil => pgs_nil
  | _, _, .cons h1 h2 h3 r => pgs_cons (pg_name hN h1 h2 h3) (gs_names hN r)
theorem gNames_setV : ∀ {is : List Nat} {vs : List V} {σ : L2.St} {H : Hp} {Q : L2.St → Hp → Prop}, vs.length = is.length → Q (setV is vs σ) H → gNames is vs σ H Q
  | [], [], _, _, _, _, q => ⟨rfl, q⟩
  | i :: is, v :: vs, _, _, _, h, q => ⟨v, vs, rfl, gNames_setV (by simpa using h) q⟩
theorem s_parN {es ts : List Expr} {is : List Nat} {kt k2 : Nat} {pt pt2 : Pos} (hc : X.calm = true) (hN : X.N.Nodup) (hn : Nms X ts is) (ha : PA X es (trX X.K mx)) (hz : is.length ≤ 100)
    (hw : swappedStores [.Tuple ts kt pt] (.Tuple es k2 pt2) X.env = pure none := by rfl) (hs : swapsWithSole [.Tuple ts kt pt] (.Tuple es k2 pt2) pos.line X.env = pure false := by rfl)
    (h1 : (assignEach [.Tuple ts kt pt] X.env).map (·.2) = [assign (.Tuple ts kt pt) X.env] := by rfl) (hln : (assignEach ts X.env).length = is.length := by rfl) (hst : (assignEach ts X.env).findIdx? (·.1) = none := by rfl) :
    PS X (.Assign [.Tuple ts kt pt] (.Tuple es k2 pt2) pos) (trS X.K (sPar is mx)) := PS.imp (ps_asg (pe_tup ha) (pg_tup hc (gs_names hN hn) hln hst) hs hw h1) fun Dn σ H h => by
  obtain ⟨g, e, s, f, e', s', R, E, hm, k⟩ := h
  obtain ⟨sl, s1, q1, hm1⟩ := bndS_some hm
  split at hm1
  · rename_i hl
    cases hm1
    refine ⟨g, e, s, sl, _, R, E, q1, fun vs g1 H1 st1 rv => ⟨by rw [rv.length, hl]; rw [sizeLine_eq]; omega, fun p hp => ?_⟩⟩
    refine ⟨p, vs, rfl, SqT.of upd_same, by rw [rv.length]; exact hl, gNames_setV (by rw [rv.length]; exact hl) ?_⟩
    -- the tuple itself is no value of ours
    have hkp : ∀ a w, H1 a = some w → upd H1 p (.tup vs) a = some w := fun a w q => by rw [upd_ne (ne_of_none q hp)]; exact q
    have st2 : Step _ g1 H1 g1 (upd H1 p (.tup vs)) _ := ⟨⟨fun a w q => by
        rcases st1.rel.sub a w q with z | ⟨z1, o, z⟩
        · exact .inl (hkp _ _ z)
        · exact .inr ⟨z1, o, hkp _ _ z⟩, st1.rel.len, fun n c q => by
        obtain ⟨a, w1, w2, w3⟩ := st1.rel.cell n c q
        exact ⟨a, w1, w2, w3.mono .refl fun u hu => hkp _ _ hu⟩, st1.rel.inj⟩, .refl, fun _ _ h => .inl h, fun _ h => .inl h, fun a w q _ => hkp a w q⟩
    have rv2 : RepX X.K g1 H (upd H1 p (.tup vs)) vs sl := rv.up hkp
    refine k g1 _ _ (((st1.trans st2).S E).placeX rv2 fun b hb ho => ?_)
    have hn := rv2.fresh hb
    obtain ⟨i, d, w1, w2⟩ := ho
    obtain ⟨b', w3, _, _, w4⟩ := E.own i d w1
    rw [w2] at w3; cases w3
    obtain ⟨u, hu⟩ := w4.has
    rw [hn] at hu; cases hu
  · cases hm1
end
end Z

set_option Elab.async false
set_option linter.all false
set_option maxRecDepth 100000
set_option maxHeartbeats 4000000
namespace Z
open PySem PySem.Spec PyProof.Rows L2
/-! ### borrowed: an owned slot read as a value, then owned again; what comes back holds no list -/
mutual
def noL : D → Bool
  | .non => true | .bl _ => true | .int _ => true | .str _ => true | .cel _ => true | .ty _ => true
  | .tup ds => noLs ds
  | _ => false
def noLs : List D → Bool
  | [] => true
  | d :: ds => noL d && noLs ds
end
def G.unf (g : G) (a : Addr) : G := ⟨fun b => if b = a then none else g.F b, g.ad⟩
def NoTup : HO → Prop
  | .lst _ => True | .dK _ => True | .ins _ _ _ => True | _ => False
section
variable {K : PySem.W.Frag} {g g' : G}
theorem unf_F {a b : Addr} {u : HO} (h : g.F b = some u) (n : b ≠ a) : (g.unf a).F b = some u := by
  show (if b = a then none else g.F b) = _
  rw [if_neg n]; exact h
theorem unf_some {a b : Addr} {u : HO} (h : (g.unf a).F b = some u) : g.F b = some u ∧ b ≠ a := by
  have h : (if b = a then none else g.F b) = some u := h
  by_cases q : b = a
  · rw [if_pos q] at h; cases h
  · rw [if_neg q] at h; exact ⟨h, q⟩
theorem rd_unf {a b : Addr} {u w : HO} (ha : g.F a = some w) (hw : NoTup w) (h : Rd g.F b (.tup vs)) : Rd (g.unf a).F b (.tup vs) := by
  have n : ∀ u, g.F b = some u → ¬ NoTup u → b ≠ a := fun u q z e => by subst e; rw [ha] at q; cases q; exact z hw
  rcases h with h | ⟨o, h⟩
  · exact .inl (unf_F h (n _ h (fun z => z)))
  · exact .inr ⟨o, unf_F h (n _ h (fun z => z))⟩
mutual
theorem Rep.unf {a : Addr} {w : HO} (ha : g.F a = some w) (hw : NoTup w) : ∀ {v d}, Rep K g v d → noL d = true → Rep K (g.unf a) v d
  | _, _, .non, _ => .non
  | _, _, .bl b, _ => .bl b
  | _, _, .int i, _ => .int i
  | _, _, .str x, _ => .str x
  | _, _, .tup (vs := vs) (ds := ds) h r, q => .tup (h.elim (fun z => .inl (rd_unf (u := w) ha hw z)) .inr) (RepL.unf ha hw r (by simpa [noL] using q))
  | _, _, .lst h r, q => by simp [noL] at q
  | _, _, .dic h r, q => by simp [noL] at q
  | _, _, .obj h r, q => by simp [noL] at q
  | _, _, .cel h, _ => .cel h
  | _, _, .ty c, _ => .ty c
  | _, _, .opq v, q => by simp [noL] at q
theorem RepL.unf {a : Addr} {w : HO} (ha : g.F a = some w) (hw : NoTup w) : ∀ {v d}, RepL K g v d → noLs d = true → RepL K (g.unf a) v d
  | _, _, .nil, _ => .nil
  | _, _, .cons h r, q => by
    simp only [noLs, Bool.and_eq_true] at q
    exact .cons (Rep.unf ha hw h q.1) (RepL.unf ha hw r q.2)
end
theorem RepK.unf {a : Addr} {w : HO} (ha : g.F a = some w) (hw : NoTup w) : ∀ {v d}, RepK K g v d → d.all (fun p => noL p.2) = true → RepK K (g.unf a) v d
  | _, _, .nil, _ => .nil
  | _, _, .cons h r, q => by
    simp only [List.all_cons, Bool.and_eq_true] at q
    exact .cons (Rep.unf ha hw h q.1) (RepK.unf ha hw r q.2)
theorem RepF.unf {a : Addr} {w : HO} (ha : g.F a = some w) (hw : NoTup w) : ∀ {v d}, RepF K g v d → d.all (fun p => noL p.2) = true → RepF K (g.unf a) v d
  | _, _, .nil, _ => .nil
  | _, _, .cons h r, q => by
    simp only [List.all_cons, Bool.and_eq_true] at q
    exact .cons (Rep.unf ha hw h q.1) (RepF.unf ha hw r q.2)
/-- content that holds no list -/
def noC : D → Bool
  | .lst ds => noLs ds
  | .dic kvs => kvs.all fun p => noL p.2
  | .obj _ fs => fs.all fun p => noL p.2
  | _ => true
theorem OwnAt.unf {H : Hp} {a b : Addr} {w : HO} {d : D} (ha : g.F a = some w) (hw : NoTup w) (h : OwnAt K g H b d) (q : noC d = true) : OwnAt K (g.unf a) H b d := by
  cases d with
  | lst ds => obtain ⟨vs, h, r⟩ := h; exact ⟨vs, h, r.unf ha hw (by simpa [noC] using q)⟩
  | dic ds => obtain ⟨vs, h, r⟩ := h; exact ⟨vs, h, r.unf ha hw (by simpa [noC] using q)⟩
  | obj c ds => obtain ⟨dx, vs, h, r⟩ := h; exact ⟨dx, vs, h, r.unf ha hw (by simpa [noC] using q)⟩
  | _ => exact h.elim
theorem OwnAt.noTup {H : Hp} {a : Addr} {d : D} {u : HO} (h : OwnAt K g H a d) (hu : H a = some u) : NoTup u := by
  cases d with
  | lst ds => obtain ⟨vs, h, r⟩ := h; rw [h] at hu; cases hu; trivial
  | dic ds => obtain ⟨vs, h, r⟩ := h; rw [h] at hu; cases hu; trivial
  | obj c ds => obtain ⟨dx, vs, h, r⟩ := h; rw [h] at hu; cases hu; trivial
  | _ => exact h.elim
/-- the owned slot at a was frozen for the step: no more -/
theorem Step.unf {H H' : Hp} {s' : Z.S} {a : Addr} {u : HO} (hf : g.F a = none) (hw : NoTup u) (x : Step K (g.frz a u) H g' H' s') (hs : s'.all noC = true) : Step K g H (g'.unf a) H' s' ∧ g'.F a = some u := by
  have ha : g'.F a = some u := x.le.F a u upd_same
  refine ⟨⟨⟨fun b w q => x.rel.sub b w (unf_some q).1, x.rel.len, fun n c q => ?_, x.rel.inj⟩, ⟨fun b w q => ?_, fun n b q => x.le.ad n b q⟩, fun b w q => ?_, x.newc, x.keep⟩, ha⟩
  · obtain ⟨b, h1, h2, h3⟩ := x.rel.cell n c q
    refine ⟨b, h1, ?_, h3.unf ha hw (List.all_eq_true.mp hs c (List.mem_iff_getElem?.mpr ⟨n, q⟩))⟩
    show (if b = a then none else g'.F b) = none
    by_cases z : b = a
    · rw [if_pos z]
    · rw [if_neg z]; exact h2
  · have n : b ≠ a := fun z => by subst z; rw [hf] at q; cases q
    refine unf_F (x.le.F b w ?_) n
    show upd g.F a u b = some w
    rw [upd_ne n]; exact q
  · obtain ⟨q1, n⟩ := unf_some q
    rcases x.new b w q1 with z | z
    · have z : upd g.F a u b = some w := z
      rw [upd_ne n] at z
      exact .inl z
    · exact .inr z
end
def mBor (i : Nat) (m : ME) : ME := fun e s => bnd (m (frzE i e) s) fun d s' => match noL d && s'.all noC with
  | true => some (d, s')
  | false => none
def tBor (i : Nat) (m : MT) : MT := fun e s => bnd (m (frzE i e) s) fun d s' => match s'.all noC with
  | true => some (d, s')
  | false => none
def fBor (i : Nat) (m : ME) : ME := fun e s => bnd (m (frzE i e) s) fun d s' => match noC d && s'.all noC with
  | true => some (d, s')
  | false => none
section
variable {X : Cx} {K : PySem.W.Frag} {m : ME} {mt : MT} {a : Expr}
/-- freeze at slot i, or nothing to do -/
theorem frz_case {g : G} {H : Hp} {σ : L2.St} {e : EnvD} {s : S} (R : SRel K g H s) (E : EnvRel K g H σ e) (i : Nat) :
    (frzE i e = e) ∨ ∃ (b : Addr) (u : HO), g.F b = none ∧ NoTup u ∧ SRel K (g.frz b u) H s ∧ EnvRel K (g.frz b u) H σ (frzE i e) := by
  by_cases hh : ∃ d, e[i]? = some (Sl.own d)
  · obtain ⟨d, h⟩ := hh
    have hfe : frzE i e = e.set i (.val d) := by unfold frzE; rw [h]
    obtain ⟨b, h1, h2, h3, h4⟩ := E.own i d h
    obtain ⟨u, h5, h6, _⟩ := h4.frozen h2
    refine .inr ⟨b, u, h2, h4.noTup h5, R.frz h5 h2 h3, ?_⟩
    rw [hfe]
    have L : GLe g (g.frz b u) := .frz h2
    have hl : i < e.length := (List.getElem?_eq_some_iff.mp h).1
    have hs : ∀ {j : Nat} {x : Sl}, (e.set i (.val d))[j]? = some x → (i = j ∧ x = .val d) ∨ (i ≠ j ∧ e[j]? = some x) := fun {j x} h => by
      by_cases hj : i = j
      · subst hj
        rw [List.getElem?_set_self hl] at h
        cases h
        exact .inl ⟨rfl, rfl⟩
      · rw [List.getElem?_set_ne hj] at h
        exact .inr ⟨hj, h⟩
    refine ⟨by simp [E.len], fun j d' h' => ?_, fun j d' h' => ?_, fun j k d1 d2 c q1 q2 q3 q4 => ?_⟩
    · rcases hs h' with ⟨hj, z⟩ | ⟨hj, z⟩
      · cases z; subst hj; exact ⟨_, h1, h6⟩
      · obtain ⟨v, w1, w2⟩ := E.val j d' z; exact ⟨v, w1, w2.mono L⟩
    · rcases hs h' with ⟨hj, z⟩ | ⟨hj, z⟩
      · cases z
      · obtain ⟨c, w1, w2, w3, w4⟩ := E.own j d' z
        refine ⟨c, w1, ?_, w3, w4.mono L fun _ q => q⟩
        show upd g.F b u c = none
        rw [upd_ne fun w => ?_]
        · exact w2
        · subst w; exact hj (E.apart i j d d' c h z h1 w1)
    · rcases hs q1 with ⟨hj, z⟩ | ⟨hj, z⟩
      · cases z
      · rcases hs q2 with ⟨hk, z'⟩ | ⟨hk, z'⟩
        · cases z'
        · exact E.apart j k d1 d2 c z z' q3 q4
  · refine .inl ?_
    unfold frzE
    split
    · rename_i d h; exact absurd ⟨d, h⟩ hh
    · rfl
theorem d_bor (i : Nat) (h : PE X a (trE X.K m)) : PE X a (trE X.K (mBor i m)) := PE.imp h fun σ H Q ⟨g, e, s, d, s', R, E, hm, k⟩ => by
  obtain ⟨d1, s1, h1, hm1⟩ := bnd_some hm
  split at hm1
  · rename_i hb
    cases hm1
    simp only [Bool.and_eq_true] at hb
    rcases frz_case R E i with he | ⟨b, u, hf, hw, R', E'⟩
    · rw [he] at h1
      exact ⟨g, e, s, _, _, R, E, h1, k⟩
    · refine ⟨_, _, s, _, _, R', E', h1, fun v g' H' st rv => ?_⟩
      obtain ⟨st', ha⟩ := st.unf hf hw hb.2
      exact k v _ H' st' (rv.unf ha hw hb.1)
  · cases hm1
theorem t_bor (i : Nat) (h : PT X a (trT X.K mt)) : PT X a (trT X.K (tBor i mt)) := PT.imp h fun σ H Q ⟨g, e, s, d, s', R, E, hm, k⟩ => by
  obtain ⟨d1, s1, h1, hm1⟩ := bnd_some hm
  split at hm1
  · rename_i hb
    cases hm1
    rcases frz_case R E i with he | ⟨b, u, hf, hw, R', E'⟩
    · rw [he] at h1
      exact ⟨g, e, s, _, _, R, E, h1, k⟩
    · refine ⟨_, _, s, _, _, R', E', h1, fun g' H' st => ?_⟩
      obtain ⟨st', ha⟩ := st.unf hf hw hb
      exact k _ H' st'
  · cases hm1
end
/-! ### what is walked -/
structure ItD (K : PySem.W.Frag) (J : It) (g : G) (ds : List D) : Prop where
  go : ∀ (g' : G) (H : Hp) (s : S) (i : Nat), SRel K g' H s → GLe g g' → i < ds.length → J.go i H
  stop : ∀ (g' : G) (H : Hp) (s : S), SRel K g' H s → GLe g g' → J.stop ds.length H
  yld : ∀ (g' : G) (H : Hp) (s : S) (i : Nat) (x : V) (H' : Hp) (d : D), SRel K g' H s → GLe g g' → ds[i]? = some d → J.yld i H x H' → ∃ g'', Step K g' H g'' H' s ∧ Rep K g'' x d
abbrev MI := EnvD → S → Option (List D × S)
def trI (K : PySem.W.Frag) (m : MI) : TI := fun σ H R => ∃ g e s ds s', SRel K g H s ∧ EnvRel K g H σ e ∧ m e s = some (ds, s') ∧ ∀ J g' H', Step K g H g' H' s' → ItD K J g' ds → R J H'
section
variable {X : Cx} {K : PySem.W.Frag} {a b tg : Expr} {m : ME} {ma : MA} {p pos tpos : Pos}
theorem itd_lst {g : G} {a : Addr} {vs : List V} {ds : List D} (h : Rd g.F a (.lst vs)) (r : RepL K g vs ds) : ItD K (Itl K a) g ds := by
  have hq : ∀ (g' : G) (H : Hp) (s : S), SRel K g' H s → GLe g g' → SqL K H a vs := fun g' H s R L => .inl (rd_H R (rd_mono L.F h))
  refine ⟨fun g' H s i R L hi => ?_, fun g' H s R L => ⟨vs, hq g' H s R L, by rw [r.length]; exact Nat.le_refl _⟩, fun g' H s i x H' d R L hd y => ?_⟩
  · have hi' : i < vs.length := by rw [r.length]; exact hi
    exact ⟨vs, vs[i], hq g' H s R L, List.getElem?_eq_getElem hi'⟩
  · obtain ⟨e, y⟩ := y
    subst e
    have hx := y vs (hq g' _ s R L)
    obtain ⟨v, h1, h2⟩ := r.get hd
    rw [hx] at h1; cases h1
    exact ⟨g', .refl R, h2.mono L⟩
theorem itd_tup {g : G} {a : Addr} {vs : List V} {ds : List D} (h : SqT K g.F a vs) (r : RepL K g vs ds) : ItD K (Itt K a) g ds := by
  have hq : ∀ (g' : G) (H : Hp) (s : S), SRel K g' H s → GLe g g' → SqT K H a vs := fun g' H s R L => sqT_H R (sqT_mono L.F h)
  refine ⟨fun g' H s i R L hi => ?_, fun g' H s R L => ⟨vs, hq g' H s R L, by rw [r.length]; exact Nat.le_refl _⟩, fun g' H s i x H' d R L hd y => ?_⟩
  · have hi' : i < vs.length := by rw [r.length]; exact hi
    exact ⟨vs, vs[i], hq g' H s R L, List.getElem?_eq_getElem hi'⟩
  · obtain ⟨e, y⟩ := y
    subst e
    have hx := y vs (hq g' _ s R L)
    obtain ⟨v, h1, h2⟩ := r.get hd
    rw [hx] at h1; cases h1
    exact ⟨g', .refl R, h2.mono L⟩
def rngD (lo : Int) (n : Nat) : List D := (List.range n).map fun i => .int (lo + (i : Nat))
theorem itd_rng {g : G} (lo : Int) (n : Nat) : ItD K (Itr lo n) g (rngD lo n) := by
  refine ⟨fun g' H s i R L hi => by simpa [rngD, Itr] using hi, fun g' H s R L => by simp [rngD, Itr], fun g' H s i x H' d R L hd y => ?_⟩
  obtain ⟨e, y⟩ := y
  subst e y
  have hi : i < n := by
    have := (List.getElem?_eq_some_iff.mp hd).1
    simpa [rngD] using this
  simp [rngD, List.getElem?_map, List.getElem?_range hi] at hd
  subst hd
  exact ⟨g', .refl R, .int _⟩
def chD (x : Str) : List D := x.cps.toList.map fun c => .str ⟨#[c]⟩
theorem itd_str {g : G} (x : Str) : ItD K (Its x) g (chD x) := by
  refine ⟨fun g' H s i R L hi => by simpa [chD, Its] using hi, fun g' H s R L => by simp [chD, Its], fun g' H s i v H' d R L hd y => ?_⟩
  obtain ⟨e, c, h1, h2⟩ := y
  subst e h2
  simp [chD, List.getElem?_map, h1] at hd
  subst hd
  exact ⟨g', .refl R, .str _⟩
def seqI (m : ME) : MI := fun e s => bnd (m e s) fun d s => match d with
  | .lst ds => some (ds, s)
  | .tup ds => some (ds, s)
  | .str x => some (chD x, s)
  | _ => none
theorem i_seq (h : PE X a (trE X.K m)) : PI X tg a (trI X.K (seqI m)) := PI.imp (PI.or (pi_list h) (PI.or (pi_tup h) (pi_str h))) fun σ H R ⟨g, e, s, ds, s', R0, E, hm, k⟩ => by
  obtain ⟨d, s1, h1, hm1⟩ := bnd_some hm
  split at hm1
  · cases hm1
    refine .inl ⟨g, e, s, _, _, R0, E, h1, fun v g1 H1 st rv => ?_⟩
    cases rv with
    | lst q r => exact ⟨_, rfl, ⟨_, .inl (rd_H st.rel q)⟩, k _ g1 H1 st (itd_lst q r)⟩
  · cases hm1
    refine .inr (.inl ⟨g, e, s, _, _, R0, E, h1, fun v g1 H1 st rv => ?_⟩)
    cases rv with
    | tup q r => exact ⟨_, rfl, ⟨_, sqT_H st.rel q⟩, k _ g1 H1 st (itd_tup q r)⟩
  · cases hm1
    refine .inr (.inr ⟨g, e, s, _, _, R0, E, h1, fun v g1 H1 st rv => ?_⟩)
    cases rv with
    | str x => exact ⟨_, rfl, k _ g1 H1 st (itd_str _)⟩
  · cases hm1
def rngI (ma : MA) : MI := fun e s => bnd (ma e s) fun ds s => match ds with
  | [.int j] => if -(2 ^ 62) ≤ j ∧ j < 2 ^ 62 then some (rngD 0 j.toNat, s) else none
  | _ => none
theorem i_rng1 (hg : Gl X "range") (hm : X.mg "range" = none) (ha : PA X [a] (trA X.K ma)) (hs : starEach [a] X.env = [(false, eval a X.env)] := by rfl) : PI X tg (.Call (.Name "range" p) [a] [] pos) (trI X.K (rngI ma)) :=
  PI.imp (pi_range1 hg hm ha hs) fun σ H R ⟨g, e, s, ds, s', R0, E, hm, k⟩ => by
    obtain ⟨xs, s1, h1, hm1⟩ := bnd_some hm
    refine ⟨g, e, s, xs, s1, R0, E, h1, fun vs g1 H1 st rv => ?_⟩
    split at hm1
    · split at hm1
      · rename_i hb
        cases hm1
        cases rv with
        | cons r rr => cases rr; cases r; exact ⟨_, rfl, hb.1, hb.2, k _ g1 H1 st (itd_rng 0 _)⟩
      · cases hm1
    · cases hm1
def rng2I (ma : MA) : MI := fun e s => bnd (ma e s) fun ds s => match ds with
  | [.int i, .int j] => if (-(2 ^ 62) ≤ i ∧ i < 2 ^ 62) ∧ -(2 ^ 62) ≤ j ∧ j < 2 ^ 62 then some (rngD i (j - i).toNat, s) else none
  | _ => none
/-- a new tuple of values -/
theorem tup_yld {g : G} {H : Hp} {s : Z.S} {T : Addr} {vs : List V} {ds : List D} (R : SRel K g H s) (hT : H T = none) (r : RepL K g vs ds) : Step K g H (g.frz T (.tup vs)) (upd H T (.tup vs)) s ∧ Rep K (g.frz T (.tup vs)) (.ref T) (.tup ds) := by
  have hf : g.F T = none := by
    cases q : g.F T with
    | none => rfl
    | some u =>
      rcases R.sub T u q with z | ⟨_, _, z⟩
      · rw [hT] at z; cases z
      · rw [hT] at z; cases z
  have hc : T ∉ g.ad := fun z => by
    obtain ⟨u, hu⟩ := R.has z
    rw [hT] at hu; cases hu
  have hk : ∀ a w, H a = some w → upd H T (.tup vs) a = some w := fun a w q => by rw [upd_ne (ne_of_none q hT)]; exact q
  have st : Step K g H g (upd H T (.tup vs)) s := ⟨⟨fun a w q => by
      rcases R.sub a w q with z | ⟨z1, o, z⟩
      · exact .inl (hk _ _ z)
      · exact .inr ⟨z1, o, hk _ _ z⟩, R.len, fun n c q => by
      obtain ⟨a, w1, w2, w3⟩ := R.cell n c q
      exact ⟨a, w1, w2, w3.mono .refl fun u hu => hk _ _ hu⟩, R.inj⟩, .refl, fun _ _ h => .inl h, fun _ h => .inl h, fun a w q _ => hk a w q⟩
  exact ⟨st.frz hT upd_same hf hc, .tup (.of upd_same) (r.mono (.frz hf))⟩
def enumD (ds : List D) : List D := (List.range ds.length).map fun i => .tup [.int (i : Nat), (ds[i]?).getD .non]
theorem itd_enum {g : G} {a : Addr} {vs : List V} {ds : List D} (h : Rd g.F a (.lst vs)) (r : RepL K g vs ds) : ItD K (Ite K a) g (enumD ds) := by
  have hq : ∀ (g' : G) (H : Hp) (s : S), SRel K g' H s → GLe g g' → SqL K H a vs := fun g' H s R L => .inl (rd_H R (rd_mono L.F h))
  refine ⟨fun g' H s i R L hi => ?_, fun g' H s R L => ⟨vs, hq g' H s R L, by rw [r.length]; simp [enumD]⟩, fun g' H s i x H' d R L hd y => ?_⟩
  · have hi' : i < vs.length := by rw [r.length]; simpa [enumD] using hi
    exact ⟨vs, vs[i], hq g' H s R L, List.getElem?_eq_getElem hi'⟩
  · obtain ⟨T, y, rfl, hT, rfl, hy⟩ := y
    have hx := hy vs (hq g' _ s R L)
    have hi : i < ds.length := by
      have := (List.getElem?_eq_some_iff.mp hd).1
      simpa [enumD] using this
    simp [enumD, List.getElem?_map, List.getElem?_range hi, List.getElem?_eq_getElem hi] at hd
    subst hd
    obtain ⟨v, h1, h2⟩ := r.get (List.getElem?_eq_getElem hi)
    rw [hx] at h1; cases h1
    obtain ⟨q1, q2⟩ := tup_yld R hT (.cons (.int (i : Nat)) (.cons (h2.mono L) .nil))
    exact ⟨_, q1, q2⟩
def enumI (ma : MA) : MI := fun e s => bnd (ma e s) fun ds s => match ds with
  | [.lst ds] => some (enumD ds, s)
  | _ => none
def zipD (ds es : List D) : List D := (List.zip ds es).map fun p => .tup [p.1, p.2]
end
/-! ### for -/
def forL (mg : MG) (mb : MS) : List D → EnvD → S → Option (Fl × EnvD × S)
  | [], e, s => some (.nx, e, s)
  | d :: ds, e, s => match mg d e s with
    | none => none
    | some (e1, s1) => match mb e1 s1 with
      | none => none
      | some (.nx, e2, s2) => forL mg mb ds e2 s2
      | some (.ct, e2, s2) => forL mg mb ds e2 s2
      | some (.bk, e2, s2) => some (.nx, e2, s2)
      | some (.ret d, e2, s2) => some (.ret d, e2, s2)
      | some (.rto d, e2, s2) => some (.rto d, e2, s2)
def sFor (mi : MI) (mg : MG) (mb : MS) : MS := fun e s => bndS (mi e s) fun ds s => forL mg mb ds e s
section
variable {X : Cx} {tg a : Expr} {mi : MI} {mg : MG} {mb : MS} {body : List Stmt} {pos : Pos}
theorem tFor_of {K : PySem.W.Frag} {Dn : Ends} {σ : L2.St} {H : Hp} (h : trS K (sFor mi mg mb) Dn σ H) : tFor (trI K mi) (trG K mg) (trS K mb) Dn σ H := by
  obtain ⟨g, e, s, f, e', s', R0, E0, hm, k⟩ := h
  obtain ⟨ds, s1, h1, hm1⟩ := bndS_some hm
  refine ⟨g, e, s, ds, s1, R0, E0, h1, fun J g1 H1 st1 hJ => ?_⟩
  refine ⟨fun i m σ2 H2 => m = ds.length - i ∧ i ≤ ds.length ∧ ∃ g2 e2 s2, StepS K g H σ e g2 H2 σ2 e2 s2 ∧ GLe g1 g2 ∧ forL mg mb (ds.drop i) e2 s2 = some (f, e', s'), ⟨_, rfl, Nat.zero_le _, g1, e, s1, st1.S E0, .refl, by simpa using hm1⟩, ?_⟩
  rintro i m σ2 H2 ⟨rfl, hi, g2, e2, s2, st2, L2, hf⟩
  by_cases hlt : i < ds.length
  · refine .inr ⟨hJ.go g2 H2 s2 i st2.rel L2 hlt, ?_⟩
    have hd : ds.drop i = ds[i] :: ds.drop (i + 1) := by rw [List.drop_eq_getElem_cons hlt]
    rw [hd] at hf
    refine ⟨fun σ' H' => ∃ g3 e3 s3, StepS K g H σ e g3 H' σ' e3 s3 ∧ GLe g1 g3 ∧ forL mg mb (ds.drop (i + 1)) e3 s3 = some (f, e', s'), fun σ' H' ⟨g3, e3, s3, q1, q2, q3⟩ => ⟨ds.length - (i + 1), by omega, rfl, hlt, g3, e3, s3, q1, q2, q3⟩, fun x H' y => ?_⟩
    obtain ⟨g3, st3, rx⟩ := hJ.yld g2 H2 s2 i x H' ds[i] st2.rel L2 (List.getElem?_eq_getElem hlt) y
    unfold forL at hf
    split at hf
    · cases hf
    · rename_i e4 s4 hg
      refine ⟨g3, e2, s2, _, e4, s4, st3.rel, st2.env.step st3, rx, hg, fun g4 H4 σ4 st4 => ?_⟩
      have stA := (st2.trans (st3.S st2.env)).trans st4
      have LA : GLe g1 g4 := (L2.trans st3.le).trans st4.le
      split at hf
      · cases hf
      · rename_i e5 s5 hb
        exact ⟨g4, e4, s4, .nx, e5, s5, st4.rel, st4.env, hb, fun g5 H5 σ5 st5 => ⟨g5, e5, s5, stA.trans st5, LA.trans st5.le, hf⟩⟩
      · rename_i e5 s5 hb
        exact ⟨g4, e4, s4, .ct, e5, s5, st4.rel, st4.env, hb, fun g5 H5 σ5 st5 => ⟨g5, e5, s5, stA.trans st5, LA.trans st5.le, hf⟩⟩
      · rename_i e5 s5 hb
        cases hf
        exact ⟨g4, e4, s4, .bk, _, _, st4.rel, st4.env, hb, fun g5 H5 σ5 st5 => k g5 H5 σ5 (stA.trans st5)⟩
      · rename_i d5 e5 s5 hb
        cases hf
        exact ⟨g4, e4, s4, .ret d5, _, _, st4.rel, st4.env, hb, fun g5 H5 σ5 st5 => k g5 H5 σ5 (stA.trans st5)⟩
      · rename_i d5 e5 s5 hb
        cases hf
        exact ⟨g4, e4, s4, .rto d5, _, _, st4.rel, st4.env, hb, fun g5 H5 σ5 st5 => (k g5 H5 σ5 (stA.trans st5)).mid fun a => stA.noneOf⟩
  · have e0 : i = ds.length := by omega
    subst e0
    rw [List.drop_length] at hf
    cases hf
    exact .inl ⟨hJ.stop g2 H2 _ st2.rel L2, k g2 H2 σ2 st2⟩
theorem s_for (hp : PassesOwn (model X.prog X.w) X.A X.env X.xe) (hc : X.calm = true) (hi : PI X tg a (trI X.K mi)) (hg : PG X tg (trG X.K mg)) (hb : PSs X body (trS X.K mb))
    (hs : ∀ x, foldedSetIterable a X.env x = pure x := by intro _; rfl) : PS X (.For tg a body [] pos) (trS X.K (sFor mi mg mb)) := PS.imp (ps_for hp hc hi hg hb hs) fun Dn σ H h => tFor_of h
end
def sBrk : MS := fun e s => some (.bk, e, s)
def sCont : MS := fun e s => some (.ct, e, s)
theorem s_brk {X : Cx} {pos : Pos} : PS X (.Break pos) (trS X.K sBrk) := PS.imp ps_break fun Dn σ H ⟨g, e, s, f, e', s', R, E, hm, k⟩ => by
  cases hm
  exact k _ _ _ (.refl R E)
end Z

set_option Elab.async false
set_option linter.all false
set_option maxRecDepth 100000
set_option maxHeartbeats 4000000
namespace Z
open PySem PySem.Spec PyProof.Rows L2
/-! ### comprehensions -/
def wipeE (e : EnvD) : List Nat → EnvD
  | [] => e
  | v :: vs => (wipeE e vs).set v .unb
section
variable {K : PySem.W.Frag} {g : G} {H : Hp} {σ : L2.St} {e : EnvD} {s : S}
theorem unb_slot (E : EnvRel K g H σ e) (i : Nat) : EnvRel K g H (σ.set i none) (e.set i .unb) := by
  have hs : ∀ {j : Nat} {x : Sl}, (e.set i .unb)[j]? = some x → (i = j ∧ x = .unb) ∨ (i ≠ j ∧ e[j]? = some x) := fun {j x} h => by
    by_cases hj : i = j
    · subst hj
      have hl : i < e.length := by
        have := (List.getElem?_eq_some_iff.mp h).1
        simpa using this
      rw [List.getElem?_set_self hl] at h
      cases h
      exact .inl ⟨rfl, rfl⟩
    · rw [List.getElem?_set_ne hj] at h
      exact .inr ⟨hj, h⟩
  refine ⟨by simp [E.len], fun j d' h' => ?_, fun j d' h' => ?_, fun j k d1 d2 c q1 q2 q3 q4 => ?_⟩
  · rcases hs h' with ⟨hj, z⟩ | ⟨hj, z⟩
    · cases z
    · rw [List.getElem?_set_ne hj]; exact E.val j d' z
  · rcases hs h' with ⟨hj, z⟩ | ⟨hj, z⟩
    · cases z
    · rw [List.getElem?_set_ne hj]; exact E.own j d' z
  · rcases hs q1 with ⟨hj, z⟩ | ⟨hj, z⟩
    · cases z
    · rcases hs q2 with ⟨hk, z'⟩ | ⟨hk, z'⟩
      · cases z'
      · rw [List.getElem?_set_ne hj] at q3
        rw [List.getElem?_set_ne hk] at q4
        exact E.apart j k d1 d2 c z z' q3 q4
theorem EnvRel.wipe (E : EnvRel K g H σ e) : ∀ vs : List Nat, EnvRel K g H (wipe σ vs) (wipeE e vs)
  | [] => E
  | v :: vs => unb_slot (EnvRel.wipe E vs) v
end
theorem wipe_get (σ : L2.St) : ∀ (vs : List Nat) (j : Nat), (wipe σ vs)[j]? = if j ∈ vs then (σ[j]?).map fun _ => none else σ[j]?
  | [], j => by simp [wipe]
  | v :: vs, j => by
    unfold wipe
    have ih := wipe_get σ vs j
    have hl := wipe_length σ vs
    by_cases hj : v = j
    · subst hj
      by_cases hv : v < σ.length
      · rw [List.getElem?_set_self (by rw [hl]; exact hv)]
        simp [List.getElem?_eq_getElem hv]
      · rw [List.getElem?_eq_none (by simpa [hl] using hv)]
        simp [List.getElem?_eq_none (by omega : σ.length ≤ v)]
    · rw [List.getElem?_set_ne hj, ih]
      have : (j ∈ v :: vs) ↔ (j ∈ vs) := by rw [List.mem_cons]; exact ⟨fun z => z.resolve_left (fun w => hj w.symm), .inr⟩
      simp only [this]
theorem wipe_set (σ : L2.St) (vs : List Nat) (i : Nat) (x : Option V) (h : i ∈ vs) : wipe (σ.set i x) vs = wipe σ vs := by
  apply List.ext_getElem?
  intro j
  rw [wipe_get, wipe_get]
  by_cases hj : j ∈ vs
  · simp only [hj, if_true]
    by_cases hij : i = j
    · subst hij
      by_cases hl : i < σ.length
      · rw [List.getElem?_set_self hl, List.getElem?_eq_getElem hl]; rfl
      · rw [List.getElem?_eq_none (by simpa using hl), List.getElem?_eq_none (by omega)]
    · rw [List.getElem?_set_ne hij]
  · simp only [hj, if_false]
    rw [List.getElem?_set_ne (fun z => by subst z; exact hj h)]
theorem wipe_setV (vs : List Nat) : ∀ (is : List Nat) (xs : List V) (σ : L2.St), (∀ i ∈ is, i ∈ vs) → wipe (setV is xs σ) vs = wipe σ vs
  | [], _, _, _ => by simp [setV]
  | _ :: _, [], _, _ => by simp [setV]
  | i :: is, x :: xs, σ, h => by
    unfold setV
    rw [wipe_setV vs is xs _ (fun j hj => h j (by simp [hj])), wipe_set σ vs i _ (h i (by simp))]
/-! ### a target of a comprehension -/
abbrev MC := D → EnvD → Option EnvD
structure CtOk (K : PySem.W.Frag) (vs : List Nat) (t : TG) (mc : MC) : Prop where
  run : ∀ (g : G) (H : Hp) (σ : L2.St) (e e1 : EnvD) (s : S) (v : V) (d : D) (Q : L2.St → Hp → Prop), SRel K g H s → EnvRel K g H σ e → Rep K g v d → mc d e = some e1 → (∀ σ1, StepS K g H σ e g H σ1 e1 s → wipe σ1 vs = wipe σ vs → Q σ1 H) → t v σ H Q
def cNm (i : Nat) : MC := fun d e => some (e.set i (.val d))
theorem ct_nm {K : PySem.W.Frag} {vs : List Nat} {i : Nat} (h : i ∈ vs) : CtOk K vs (gName i) (cNm i) := ⟨fun g H σ e e1 s v d Q R E r hm k => by
  cases hm
  exact k _ (set_slot R E r) (wipe_set σ vs i _ h)⟩
def setD : List Nat → List D → EnvD → EnvD
  | i :: is, x :: xs, e => setD is xs (e.set i (.val x))
  | _, _, e => e
theorem setD_rel {K : PySem.W.Frag} {g : G} {H : Hp} {s : S} (R : SRel K g H s) : ∀ (is : List Nat) {xs : List V} {ds : List D} {σ : L2.St} {e : EnvD}, EnvRel K g H σ e → RepL K g xs ds → StepS K g H σ e g H (setV is xs σ) (setD is ds e) s
  | [], _, _, _, _, E, _ => by simpa [setV, setD] using StepS.refl R E
  | _ :: _, _, _, _, _, E, .nil => by simpa [setV, setD] using StepS.refl R E
  | i :: is, _, _, _, _, E, .cons h r => (set_slot R E h).trans (setD_rel R is (set_slot R E h).env r)
theorem wipeE_own : ∀ {vs : List Nat} {e : EnvD} {j : Nat} {d : D}, (wipeE e vs)[j]? = some (Sl.own d) → e[j]? = some (Sl.own d) ∧ j ∉ vs
  | [], _, _, _, h => ⟨h, by simp⟩
  | v :: vs, e, j, d, h => by
    unfold wipeE at h
    by_cases hv : v = j
    · subst hv
      by_cases hl : v < (wipeE e vs).length
      · rw [List.getElem?_set_self hl] at h; cases h
      · rw [List.getElem?_eq_none (by simpa using hl)] at h; cases h
    · rw [List.getElem?_set_ne hv] at h
      obtain ⟨h1, h2⟩ := wipeE_own h
      exact ⟨h1, by rw [List.mem_cons, not_or]; exact ⟨fun z => hv z.symm, h2⟩⟩
/-- what a block's slots own was owned before -/
theorem own_blk {K : PySem.W.Frag} {g : G} {H : Hp} {s : S} {vs : List Nat} {σ σ1 : L2.St} {e e1 : EnvD} {P : Addr} (x : StepS K g H (wipe σ vs) (wipeE e vs) g H σ1 e1 s) (h0 : ∀ {j : Nat} {d : D}, e[j]? = some (Sl.own d) → σ[j]? ≠ some (some (V.ref P))) {j : Nat} {d : D} (hj : e1[j]? = some (Sl.own d)) : σ1[j]? ≠ some (some (V.ref P)) := fun z => by
  obtain ⟨b, w1, w2, w3, w4⟩ := x.env.own j d hj
  rw [z] at w1; cases w1
  obtain ⟨u, hu⟩ := w4.has
  rcases x.back ⟨j, d, hj, z⟩ with q | ⟨i, d', q1, q2⟩
  · rw [hu] at q; cases q
  · exact h0 (wipeE_own q1).1 (wipe_some q2).1
def cTup (is : List Nat) : MC := fun d e => match d with
  | .tup ds => if ds.length = is.length then some (setD is ds e) else none
  | _ => none
theorem ct_tup {K : PySem.W.Frag} {vs is : List Nat} {n : Nat} (h : ∀ i ∈ is, i ∈ vs) (hn : is.length = n) : CtOk K vs (gTup K n (gNames is)) (cTup is) := ⟨fun g H σ e e1 s v d Q R E r hm k => by
  unfold cTup at hm
  split at hm
  · rename_i ds
    split at hm
    · rename_i hl
      cases hm
      cases r with
      | tup q r =>
        refine ⟨_, _, rfl, sqT_H R q, by rw [r.length, hl, hn], gNames_setV (by rw [r.length, hl]) ?_⟩
        exact k _ (setD_rel R is E r) (wipe_setV vs is _ σ h)
    · cases hm
  · cases hm⟩
/-! ### list comprehensions -/
def yesT : MT := fun _ s => some (true, s)
def lcL (mc : MC) (mt : MT) (me : ME) (e : EnvD) : List D → S → Option (List D × S)
  | [], s => some ([], s)
  | d :: ds, s => match mc d e with
    | none => none
    | some e1 => match mt e1 s with
      | none => none
      | some (false, s1) => lcL mc mt me e ds s1
      | some (true, s1) => match me e1 s1 with
        | none => none
        | some (y, s2) => match lcL mc mt me e ds s2 with
          | none => none
          | some (ys, s3) => some (y :: ys, s3)
def mLc (vs : List Nat) (mi : MI) (mc : MC) (mt : MT) (me : ME) : ME := fun e s => bnd (mi e s) fun ds s1 => bnd (lcL mc mt me (wipeE e vs) ds s1) fun ys s2 => if ys.length ≤ sizeLine then some (.lst ys, s2) else none
section
variable {K : PySem.W.Frag}
/-- the same, a step seen from an object that stays apart -/
theorem Step.apart {g g' : G} {H H' : Hp} {s' : Z.S} (st : Step K g H g' H' s') {p : Addr} {u : HO} (hu : H p = some u) (hc : p ∉ g.ad) (hf : g.F p = none) : H' p = some u ∧ p ∉ g'.ad ∧ g'.F p = none := by
  refine ⟨st.keep p u hu hc, fun z => ?_, ?_⟩
  · rcases st.newc p z with q | q
    · exact hc q
    · rw [hu] at q; cases q
  · cases q : g'.F p with
    | none => rfl
    | some w =>
      rcases st.new p w q with z | z
      · rw [hf] at z; cases z
      · rw [hu] at z; cases z
/-- an object of nobody's is written -/
theorem Step.put {g0 g : G} {H0 H : Hp} {s : Z.S} (st : Step K g0 H0 g H s) {p : Addr} {u : HO} (h0 : H0 p = none) (hc : p ∉ g.ad) (hf : g.F p = none) : Step K g0 H0 g (upd H p u) s := by
  have ne : ∀ a, a ∈ g.ad → a ≠ p := fun a ha z => hc (z ▸ ha)
  have neF : ∀ a w, g.F a = some w → a ≠ p := fun a w q z => by subst z; rw [hf] at q; cases q
  refine ⟨⟨fun a w q => ?_, st.rel.len, fun n c q => ?_, st.rel.inj⟩, st.le, st.new, st.newc, fun a w q ha => ?_⟩
  · rw [upd_ne (neF a w q)]
    exact st.rel.sub a w q
  · obtain ⟨a, w1, w2, w3⟩ := st.rel.cell n c q
    refine ⟨a, w1, w2, w3.mono .refl fun u hu => ?_⟩
    rw [upd_ne (ne a (List.mem_iff_getElem?.mpr ⟨n, w1⟩))]; exact hu
  · rw [upd_ne (fun z => by subst z; rw [h0] at q; cases q)]
    exact st.keep a w q ha
theorem Step.fresh {g g' : G} {H H' : Hp} {s' : Z.S} (st1 : Step K g H g' H' s') {P : Addr} (hP : H' P = none) : H P = none ∧ g'.F P = none ∧ P ∉ g'.ad := by
  refine ⟨st1.noneOf hP, ?_, fun z => ?_⟩
  · cases q : g'.F P with
    | none => rfl
    | some u =>
      rcases st1.rel.sub P u q with z | ⟨_, _, z⟩
      · rw [hP] at z; cases z
      · rw [hP] at z; cases z
  · obtain ⟨u, hu⟩ := st1.rel.has z
    rw [hP] at hu; cases hu
theorem EnvRel.noOwn {g : G} {H : Hp} {σ : L2.St} {e : EnvD} (E : EnvRel K g H σ e) {P : Addr} (hn : H P = none) {j : Nat} {d : D} (hj : e[j]? = some (Sl.own d)) : σ[j]? ≠ some (some (V.ref P)) := fun z => by
  obtain ⟨b, h1, _, _, h2⟩ := E.own j d hj
  rw [z] at h1; cases h1
  obtain ⟨u, hu⟩ := h2.has
  rw [hn] at hu; cases hu
/-- a list that grows at P, apart: one clause's loop -/
theorem lc_loop {vs : List Nat} {mc : MC} {mt : MT} {me : ME} {t : TG} {σ : L2.St} {e : EnvD} {g0 g1 : G} {H0 H1 : Hp} {s1 s' : Z.S} {J : It} {ds acc rest : List D} {vs1 : List V} {P : Addr} {Fin : Hp → Prop} (ht : CtOk K vs t mc)
    (st1 : Step K g0 H0 g1 H1 s1) (E1 : EnvRel K g1 H1 σ e) (hJ : ItD K J g1 ds) (hn0 : H0 P = none) (hP : H1 P = some (.lst vs1)) (hc1 : P ∉ g1.ad) (hf1 : g1.F P = none) (ra1 : RepL K g1 vs1 acc)
    (h2 : lcL mc mt me (wipeE e vs) ds s1 = some (rest, s')) (hsz : (acc ++ rest).length ≤ sizeLine)
    (hP0 : ∀ {j : Nat} {d : D}, e[j]? = some (Sl.own d) → σ[j]? ≠ some (some (V.ref P)))
    (k : ∀ g2 H2 vs2, Step K g0 H0 g2 H2 s' → GLe g1 g2 → H2 P = some (.lst vs2) → P ∉ g2.ad → g2.F P = none → RepL K g2 vs2 (acc ++ rest) → Fin H2) :
    ∃ W : Nat → Nat → Hp → Prop, (∃ m, W 0 m H1) ∧ ∀ i m H, W i m H →
      (J.stop i H ∧ Fin H) ∨ (J.go i H ∧ ∃ Nx : Hp → Prop, (∀ H', Nx H' → ∃ m', m' < m ∧ W (i + 1) m' H') ∧ ∀ x H', J.yld i H x H' → t x (wipe σ vs) H' fun σ2 H2 => wipe σ2 vs = wipe σ vs ∧ trT K mt σ2 H2 fun b H3 =>
        if b = true then trE K me σ2 H3 fun y H4 => ∃ acc, H4 P = some (.lst acc) ∧ acc.length < sizeLine ∧ Nx (upd H4 P (.lst (acc ++ [y]))) else Nx H3) := by
  refine ⟨fun i m H2 => m = ds.length - i ∧ i ≤ ds.length ∧ ∃ g2 s3 vs2 acc2 rest2, Step K g0 H0 g2 H2 s3 ∧ EnvRel K g2 H2 σ e ∧ GLe g1 g2 ∧ H2 P = some (.lst vs2) ∧ P ∉ g2.ad ∧ g2.F P = none ∧ RepL K g2 vs2 acc2 ∧ lcL mc mt me (wipeE e vs) (ds.drop i) s3 = some (rest2, s') ∧ acc ++ rest = acc2 ++ rest2,
    ⟨_, rfl, Nat.zero_le _, g1, s1, vs1, acc, rest, st1, E1, .refl, hP, hc1, hf1, ra1, by simpa using h2, rfl⟩, ?_⟩
  rintro i m H2 ⟨rfl, hi, g2, s3, vs2, acc2, rest2, st2, E2, L2, hP2, hc2, hf2, ra, hl, hy⟩
  by_cases hlt : i < ds.length
  · refine .inr ⟨hJ.go g2 H2 s3 i st2.rel L2 hlt, ?_⟩
    have hd : ds.drop i = ds[i] :: ds.drop (i + 1) := by rw [List.drop_eq_getElem_cons hlt]
    rw [hd] at hl
    refine ⟨fun H' => ∃ g3 s4 vs3 acc3 rest3, Step K g0 H0 g3 H' s4 ∧ EnvRel K g3 H' σ e ∧ GLe g1 g3 ∧ H' P = some (.lst vs3) ∧ P ∉ g3.ad ∧ g3.F P = none ∧ RepL K g3 vs3 acc3 ∧ lcL mc mt me (wipeE e vs) (ds.drop (i + 1)) s4 = some (rest3, s') ∧ acc ++ rest = acc3 ++ rest3,
      fun H' ⟨g3, s4, vs3, acc3, rest3, q⟩ => ⟨ds.length - (i + 1), by omega, rfl, hlt, g3, s4, vs3, acc3, rest3, q⟩, fun x H3 y => ?_⟩
    obtain ⟨g3, st3, rx⟩ := hJ.yld g2 H2 s3 i x H3 ds[i] st2.rel L2 (List.getElem?_eq_getElem hlt) y
    obtain ⟨hP3, hc3, hf3⟩ := st3.apart hP2 hc2 hf2
    have st03 := st2.trans st3
    have E3 := E2.step st3
    unfold lcL at hl
    split at hl
    · cases hl
    · rename_i e1 hmc
      refine ht.run g3 H3 _ _ e1 s3 x _ _ st3.rel (E3.wipe vs) rx hmc fun σ1 SE1 hw => ⟨?_, ?_⟩
      · rw [hw]
        apply List.ext_getElem?
        intro j
        rw [wipe_get, wipe_get]
        by_cases hj : j ∈ vs
        · simp only [hj, if_true, Option.map_map]; rfl
        · simp only [hj, if_false]
      · split at hl
        · cases hl
        · rename_i s4 hmt
          have E1' := SE1.env
          refine ⟨g3, e1, s3, false, s4, st3.rel, E1', hmt, fun g4 H4 st4 => ?_⟩
          simp only [Bool.false_eq_true, if_false]
          obtain ⟨hP4, hc4, hf4⟩ := st4.apart hP3 hc3 hf3
          exact ⟨g4, s4, vs2, acc2, rest2, st03.trans st4, E3.step st4, (L2.trans st3.le).trans st4.le, hP4, hc4, hf4, (ra.mono st3.le).mono st4.le, hl, hy⟩
        · rename_i s4 hmt
          have E1' := SE1.env
          refine ⟨g3, e1, s3, true, s4, st3.rel, E1', hmt, fun g4 H4 st4 => ?_⟩
          simp only [if_true]
          obtain ⟨hP4, hc4, hf4⟩ := st4.apart hP3 hc3 hf3
          split at hl
          · cases hl
          · rename_i y1 s5 hme
            split at hl
            · cases hl
            · rename_i ys1 s6 hrec
              cases hl
              refine ⟨g4, e1, s4, y1, s5, st4.rel, E1'.step st4, hme, fun v5 g5 H5 st5 rv => ?_⟩
              obtain ⟨hP5, hc5, hf5⟩ := st5.apart hP4 hc4 hf4
              have ra5 := ((ra.mono st3.le).mono st4.le).mono st5.le
              have stp := ((st03.trans st4).trans st5).put (u := .lst (vs2 ++ [v5])) hn0 hc5 hf5
              have E5 := (E3.step st4).step st5
              have Ep : EnvRel K g5 (upd H5 P (.lst (vs2 ++ [v5]))) σ e := ⟨E5.len, E5.val, fun j d hj => by
                obtain ⟨b, w1, w2, w3, w4⟩ := E5.own j d hj
                refine ⟨b, w1, w2, w3, w4.mono .refl fun u hu => ?_⟩
                rw [upd_ne (fun z => ?_)]
                · exact hu
                · subst z
                  exact hP0 hj w1, E5.apart⟩
              refine ⟨vs2, hP5, ?_, g5, s5, _, acc2 ++ [y1], ys1, stp, Ep, ((L2.trans st3.le).trans st4.le).trans st5.le, upd_same, hc5, hf5, ra5.append (.cons rv .nil), hrec, by rw [hy]; simp⟩
              rw [ra.length]
              rw [hy] at hsz
              simp at hsz
              omega
  · have e0 : i = ds.length := by omega
    subst e0
    rw [List.drop_length] at hl
    cases hl
    exact .inl ⟨hJ.stop g2 H2 _ st2.rel L2, k g2 H2 vs2 st2 L2 hP2 hc2 hf2 (by rw [hy]; simpa using ra)⟩
theorem tLc_of {vs : List Nat} {mi : MI} {mc : MC} {mt : MT} {me : ME} {t : TG} {σ : L2.St} {H : Hp} {Q : VK} (ht : CtOk K vs t mc) (h : trF K (mLc vs mi mc mt me) σ H Q) : tLc (trI K mi) t (trT K mt) (trE K me) vs σ H Q := by
  obtain ⟨g, e, s, d, s', R0, E0, hm, k⟩ := h
  obtain ⟨ds, s1, h1, hm1⟩ := bnd_some hm
  obtain ⟨ys, s2, h2, hm2⟩ := bnd_some hm1
  split at hm2
  · rename_i hsz
    cases hm2
    refine ⟨g, e, s, ds, s1, R0, E0, h1, fun J g1 H1 st1 hJ P hP => ?_⟩
    obtain ⟨hn0, hf1, hc1⟩ := st1.fresh hP
    have stp := st1.put (u := .lst []) hn0 hc1 hf1
    refine lc_loop ht stp (E0.step stp) hJ hn0 upd_same hc1 hf1 .nil h2 (by simpa using hsz) ?_ fun g2 H2 vs2 st2 L2 hP2 hc2 hf2 ra => k P g2 H2 st2 hn0 hf2 hc2 ⟨vs2, hP2, ra⟩
    exact fun {j d} hj hσ => E0.noOwn hn0 hj hσ
  · cases hm2
end
section
variable {X : Cx} {elt tg iter : Expr} {ifs : List Expr} {scope : Scope} {own : List (Str × Nat)} {pos : Pos} {mi : MI} {mc : MC} {mt : MT} {me : ME} {t : TG} {vs : List Nat}
theorem pts_yes : PTs X [] (trT X.K yesT) := ⟨fun pins s σ H Q I ⟨g, e, s1, b, s', R, E, hm, k⟩ => by
  cases hm
  exact pts_nil.run pins s σ H Q I (k g H (.refl R))⟩
theorem f_lc (hvs : own.map (·.2) = vs) (hc : X.calm = true) (hN : X.N.Nodup) (hi : PI X tg iter (trI X.K mi)) (ok : BlkOk X.N X.env.scope scope own) (hct : CtOk X.K vs t mc)
    (hg : ∀ (s : Shared) (H : Hp) (C : Addr) (cl : List (Str × Addr)) (fp : List Addr), PG (X.blk s H scope (compEnvC scope cl C X.env) fp) tg t) (ht : ∀ (s : Shared) (H : Hp) (C : Addr) (cl : List (Str × Addr)) (fp : List Addr), PTs (X.blk s H scope (compEnvC scope cl C X.env) fp) ifs (trT X.K mt))
    (he : ∀ (s : Shared) (H : Hp) (C : Addr) (cl : List (Str × Addr)) (fp : List Addr), PE (X.blk s H scope (compEnvC scope cl C X.env) fp) elt (trE X.K me)) (hs : ∀ x, foldedSetIterable iter X.env x = pure x := by intro _; rfl) :
    PE X (.ListComp elt [⟨tg, iter, ifs, 0⟩] scope pos) (trF X.K (mLc vs mi mc mt me)) := PE.imp (pe_lc hc hN hi ok hg ht he hs) fun σ H Q h => by rw [hvs]; exact tLc_of hct h
/-- two clauses -/
def lcL2 (mc : MC) (mt : MT) (mi1 : MI) (vs1 : List Nat) (mc1 : MC) (mt1 : MT) (me : ME) (e : EnvD) : List D → S → Option (List D × S)
  | [], s => some ([], s)
  | d :: ds, s => match mc d e with
    | none => none
    | some e1 => match mt e1 s with
      | none => none
      | some (false, s1) => lcL2 mc mt mi1 vs1 mc1 mt1 me e ds s1
      | some (true, s1) => match mi1 e1 s1 with
        | none => none
        | some (ds1, s2) => match lcL mc1 mt1 me (wipeE e1 vs1) ds1 s2 with
          | none => none
          | some (ys, s3) => match lcL2 mc mt mi1 vs1 mc1 mt1 me e ds s3 with
            | none => none
            | some (zs, s4) => some (ys ++ zs, s4)
def mLc2 (vs : List Nat) (mi : MI) (mc : MC) (mt : MT) (mi1 : MI) (vs1 : List Nat) (mc1 : MC) (mt1 : MT) (me : ME) : ME := fun e s => bnd (mi e s) fun ds s1 => bnd (lcL2 mc mt mi1 vs1 mc1 mt1 me (wipeE e vs) ds s1) fun ys s2 => if ys.length ≤ sizeLine then some (.lst ys, s2) else none
theorem tLc2_of {K : PySem.W.Frag} {vs1 : List Nat} {mi1 : MI} {mc1 : MC} {mt1 : MT} {t1 : TG} {σ : L2.St} {H : Hp} {Q : VK} (ht : CtOk K vs t mc) (ht1 : CtOk K vs1 t1 mc1) (h : trF K (mLc2 vs mi mc mt mi1 vs1 mc1 mt1 me) σ H Q) :
    tLc2 (trI K mi) t (trT K mt) (trI K mi1) t1 (trT K mt1) (trE K me) vs vs1 σ H Q := by
  obtain ⟨g, e, s, d, s', R0, E0, hm, k⟩ := h
  obtain ⟨ds, s1, h1, hm1⟩ := bnd_some hm
  obtain ⟨ys, s2, h2, hm2⟩ := bnd_some hm1
  split at hm2
  · rename_i hsz
    cases hm2
    refine ⟨g, e, s, ds, s1, R0, E0, h1, fun J g1 H1 st1 hJ P hP => ?_⟩
    obtain ⟨hn0, hf1, hc1⟩ := st1.fresh hP
    have stp := st1.put (u := .lst []) hn0 hc1 hf1
    have own0 : ∀ {j : Nat} {d : D}, e[j]? = some (Sl.own d) → σ[j]? ≠ some (some (V.ref P)) := fun {j d} hj => E0.noOwn hn0 hj
    refine ⟨fun i m H2 => m = ds.length - i ∧ i ≤ ds.length ∧ ∃ g2 s3 vs2 acc2 rest2, Step K g H g2 H2 s3 ∧ GLe g1 g2 ∧ H2 P = some (.lst vs2) ∧ P ∉ g2.ad ∧ g2.F P = none ∧ RepL K g2 vs2 acc2 ∧ lcL2 mc mt mi1 vs1 mc1 mt1 me (wipeE e vs) (ds.drop i) s3 = some (rest2, s') ∧ ys = acc2 ++ rest2,
      ⟨_, rfl, Nat.zero_le _, g1, s1, [], [], ys, stp, .refl, upd_same, hc1, hf1, .nil, by simpa using h2, rfl⟩, ?_⟩
    rintro i m H2 ⟨rfl, hi, g2, s3, vs2, acc2, rest2, st2, L2, hP2, hc2, hf2, ra, hl, hy⟩
    by_cases hlt : i < ds.length
    · refine .inr ⟨hJ.go g2 H2 s3 i st2.rel L2 hlt, ?_⟩
      have hd : ds.drop i = ds[i] :: ds.drop (i + 1) := by rw [List.drop_eq_getElem_cons hlt]
      rw [hd] at hl
      refine ⟨fun H' => ∃ g3 s4 vs3 acc3 rest3, Step K g H g3 H' s4 ∧ GLe g1 g3 ∧ H' P = some (.lst vs3) ∧ P ∉ g3.ad ∧ g3.F P = none ∧ RepL K g3 vs3 acc3 ∧ lcL2 mc mt mi1 vs1 mc1 mt1 me (wipeE e vs) (ds.drop (i + 1)) s4 = some (rest3, s') ∧ ys = acc3 ++ rest3,
        fun H' ⟨g3, s4, vs3, acc3, rest3, q⟩ => ⟨ds.length - (i + 1), by omega, rfl, hlt, g3, s4, vs3, acc3, rest3, q⟩, fun x H3 y => ?_⟩
      obtain ⟨g3, st3, rx⟩ := hJ.yld g2 H2 s3 i x H3 ds[i] st2.rel L2 (List.getElem?_eq_getElem hlt) y
      obtain ⟨hP3, hc3, hf3⟩ := st3.apart hP2 hc2 hf2
      have st03 := st2.trans st3
      have E3 := E0.step st03
      unfold lcL2 at hl
      split at hl
      · cases hl
      · rename_i e1 hmc
        refine ht.run g3 H3 _ _ e1 s3 x _ _ st3.rel (E3.wipe vs) rx hmc fun σ1 SE1 hw => ⟨?_, ?_⟩
        · rw [hw]
          apply List.ext_getElem?
          intro j
          rw [wipe_get, wipe_get]
          by_cases hj : j ∈ vs
          · simp only [hj, if_true, Option.map_map]; rfl
          · simp only [hj, if_false]
        · split at hl
          · cases hl
          · rename_i s4 hmt
            have E1' := SE1.env
            refine ⟨g3, e1, s3, false, s4, st3.rel, E1', hmt, fun g4 H4 st4 => ?_⟩
            simp only [Bool.false_eq_true, if_false]
            obtain ⟨hP4, hc4, hf4⟩ := st4.apart hP3 hc3 hf3
            exact ⟨g4, s4, vs2, acc2, rest2, st03.trans st4, (L2.trans st3.le).trans st4.le, hP4, hc4, hf4, (ra.mono st3.le).mono st4.le, hl, hy⟩
          · rename_i s4 hmt
            have E1' := SE1.env
            refine ⟨g3, e1, s3, true, s4, st3.rel, E1', hmt, fun g4 H4 st4 => ?_⟩
            simp only [if_true]
            obtain ⟨hP4, hc4, hf4⟩ := st4.apart hP3 hc3 hf3
            split at hl
            · cases hl
            · rename_i ds1 s5 hmi
              split at hl
              · cases hl
              · rename_i ys1 s6 hin
                split at hl
                · cases hl
                · rename_i zs1 s7 hrec
                  cases hl
                  refine ⟨g4, e1, s4, ds1, s5, st4.rel, E1'.step st4, hmi, fun J1 g5 H5 st5 hJ1 => ?_⟩
                  obtain ⟨hP5, hc5, hf5⟩ := st5.apart hP4 hc4 hf4
                  have ra5 := ((ra.mono st3.le).mono st4.le).mono st5.le
                  have st05 := (st03.trans st4).trans st5
                  have E5 := (E1'.step st4).step st5
                  have ownE : ∀ {j : Nat} {d : D}, e1[j]? = some (Sl.own d) → σ1[j]? ≠ some (some (V.ref P)) := fun {j d} hj => own_blk SE1 own0 hj
                  refine lc_loop ht1 st05 E5 hJ1 hn0 hP5 hc5 hf5 ra5 hin (by rw [hy] at hsz; simp at hsz ⊢; omega) ownE fun g6 H6 vs6 st6 L6 hP6 hc6 hf6 ra6 => ?_
                  exact ⟨g6, _, vs6, acc2 ++ ys1, zs1, st6, (((L2.trans st3.le).trans st4.le).trans st5.le).trans L6, hP6, hc6, hf6, ra6, hrec, by rw [hy]; simp⟩
    · have e0 : i = ds.length := by omega
      subst e0
      rw [List.drop_length] at hl
      cases hl
      simp at hy
      subst hy
      exact .inl ⟨hJ.stop g2 H2 _ st2.rel L2, k P g2 H2 st2 hn0 hf2 hc2 ⟨vs2, hP2, ra⟩⟩
  · cases hm2
variable {tg1 iter1 : Expr} {ifs1 : List Expr} {vs1 : List Nat} {mi1 : MI} {mc1 : MC} {mt1 : MT} {t1 : TG} {y : Str} {py spos : Pos} {i : Nat}
theorem f_lc2 (hvs : own.map (·.2) = vs) (hc : X.calm = true) (hN : X.N.Nodup) (hi : PI X tg iter (trI X.K mi)) (ok : BlkOk X.N X.env.scope scope own) (hv : ∀ i ∈ vs1, i ∈ vs) (hct : CtOk X.K vs t mc) (hct1 : CtOk X.K vs1 t1 mc1)
    (hg : ∀ (s : Shared) (H : Hp) (C : Addr) (cl : List (Str × Addr)) (fp : List Addr), PG (X.blk s H scope (compEnvC scope cl C X.env) fp) tg t) (ht : ∀ (s : Shared) (H : Hp) (C : Addr) (cl : List (Str × Addr)) (fp : List Addr), PTs (X.blk s H scope (compEnvC scope cl C X.env) fp) ifs (trT X.K mt))
    (hi1 : ∀ (s : Shared) (H : Hp) (C : Addr) (cl : List (Str × Addr)) (fp : List Addr), PI (X.blk s H scope (compEnvC scope cl C X.env) fp) tg1 iter1 (trI X.K mi1)) (hg1 : ∀ (s : Shared) (H : Hp) (C : Addr) (cl : List (Str × Addr)) (fp : List Addr), PG (X.blk s H scope (compEnvC scope cl C X.env) fp) tg1 t1) (ht1 : ∀ (s : Shared) (H : Hp) (C : Addr) (cl : List (Str × Addr)) (fp : List Addr), PTs (X.blk s H scope (compEnvC scope cl C X.env) fp) ifs1 (trT X.K mt1))
    (he : ∀ (s : Shared) (H : Hp) (C : Addr) (cl : List (Str × Addr)) (fp : List Addr), PE (X.blk s H scope (compEnvC scope cl C X.env) fp) elt (trE X.K me)) (hs : ∀ x, foldedSetIterable iter X.env x = pure x := by intro _; rfl) (hs1 : ∀ env x, foldedSetIterable iter1 env x = pure x := by intro _ _; rfl) :
    PE X (.ListComp elt [⟨tg, iter, ifs, 0⟩, ⟨tg1, iter1, ifs1, 0⟩] scope pos) (trF X.K (mLc2 vs mi mc mt mi1 vs1 mc1 mt1 me)) := PE.imp (pe_lc2 hc hN hi ok (by rw [hvs]; exact hv) hg ht hi1 hg1 ht1 he hs hs1) fun σ H Q h => by rw [hvs]; exact tLc2_of hct hct1 h
theorem trS_asgF {K : PySem.W.Frag} {m : ME} {Dn : Ends} {σ : L2.St} {H : Hp} (h : trS K (sOwn i m) Dn σ H) : trF K m σ H (fun x H1 => gName i x σ H1 Dn.nx) := by
  obtain ⟨g, e, s, f, e', s', R, E, hm, k⟩ := h
  obtain ⟨d, s1, h1, hm1⟩ := bndS_some hm
  cases hm1
  exact ⟨g, e, s, d, _, R, E, h1, fun p g1 H1 st1 hn hf hc o => k _ _ _ (own_step E st1 hn hf hc o)⟩
theorem s_ownLc (hvs : own.map (·.2) = vs) (hc : X.calm = true) (hN : X.N.Nodup) (hy : X.N[i]? = some y) (hyl : X.env.scope.names.lookup y = some .local)
    (hsw : swapsWith (.ListComp elt [⟨tg, iter, ifs, 0⟩] scope pos) (some (.Name y py)) spos.line X.env = pure true) (hi : PI X tg iter (trI X.K mi)) (ok : BlkOk X.N X.env.scope scope own) (hct : CtOk X.K vs t mc)
    (hg : ∀ (s : Shared) (H : Hp) (C : Addr) (cl : List (Str × Addr)) (fp : List Addr), PG (X.blk s H scope (compEnvC scope cl C X.env) fp) tg t) (ht : ∀ (s : Shared) (H : Hp) (C : Addr) (cl : List (Str × Addr)) (fp : List Addr), PTs (X.blk s H scope (compEnvC scope cl C X.env) fp) ifs (trT X.K mt))
    (he : ∀ (s : Shared) (H : Hp) (C : Addr) (cl : List (Str × Addr)) (fp : List Addr), PE (X.blk s H scope (compEnvC scope cl C X.env) fp) elt (trE X.K me)) (hs : ∀ x, foldedSetIterable iter X.env x = pure x := by intro _; rfl) :
    PS X (.Assign [.Name y py] (.ListComp elt [⟨tg, iter, ifs, 0⟩] scope pos) spos) (trS X.K (sOwn i (mLc vs mi mc mt me))) := PS.imp (ps_setLc hc hN hy hyl hsw hi ok hg ht he hs) fun Dn σ H h => by
  show tLc _ _ _ _ _ _ _ _
  rw [hvs]
  exact tLc_of hct (trS_asgF h)
/-- a clause's test -/
theorem pts_t {c : Expr} (h : PT X c (trT X.K mt)) : PTs X [c] (trT X.K mt) := pts_one h
end
/-! ### dict comprehensions -/
def putD (kvs : List (Key × D)) (k : Key) (d : D) : List (Key × D) := if (kvs.any fun kv => decide (kv.1 = k)) = true then kvs.map (fun kv => if kv.1 = k then (kv.1, d) else kv) else kvs ++ [(k, d)]
section
variable {K : PySem.W.Frag} {g : G}
theorem RepK.any (p : Key → Bool) : ∀ {vs : List (Key × V)} {ds : List (Key × D)}, RepK K g vs ds → vs.any (fun kv => p kv.1) = ds.any fun kv => p kv.1
  | _, _, .nil => rfl
  | _, _, .cons _ r => by simp only [List.any_cons, RepK.any p r]
theorem RepK.map {k : Key} {v : V} {d : D} (h : Rep K g v d) : ∀ {vs : List (Key × V)} {ds : List (Key × D)}, RepK K g vs ds → RepK K g (vs.map (fun kv => if kv.1 = k then (kv.1, v) else kv)) (ds.map (fun kv => if kv.1 = k then (kv.1, d) else kv))
  | _, _, .nil => .nil
  | _, _, .cons (k := k0) q r => by
    by_cases e : k0 = k
    · simp only [List.map_cons, e, if_true]; exact .cons h (RepK.map h r)
    · simp only [List.map_cons, e, if_false]; exact .cons q (RepK.map h r)
theorem RepK.append : ∀ {vs : List (Key × V)} {ds : List (Key × D)} {ws es}, RepK K g vs ds → RepK K g ws es → RepK K g (vs ++ ws) (ds ++ es)
  | _, _, _, _, .nil, s => s
  | _, _, _, _, .cons h r, s => .cons h (RepK.append r s)
theorem RepK.length : ∀ {vs : List (Key × V)} {ds : List (Key × D)}, RepK K g vs ds → vs.length = ds.length
  | _, _, .nil => rfl
  | _, _, .cons _ r => by simp [RepK.length r]
theorem RepK.put {k : Key} {v : V} {d : D} (h : Rep K g v d) {vs : List (Key × V)} {ds : List (Key × D)} (r : RepK K g vs ds) : RepK K g (putK vs k v) (putD ds k d) := by
  unfold putK putD
  rw [r.any fun x => decide (x = k)]
  split
  · exact r.map h
  · exact r.append (.cons h .nil)
end
def dcL (mc : MC) (mt : MT) (mk mv : ME) (e : EnvD) : List D → List (Key × D) → S → Option (List (Key × D) × S)
  | [], acc, s => some (acc, s)
  | d :: ds, acc, s => match mc d e with
    | none => none
    | some e1 => match mt e1 s with
      | none => none
      | some (false, s1) => dcL mc mt mk mv e ds acc s1
      | some (true, s1) => match mk e1 s1 with
        | none => none
        | some (kd, s2) => match mv e1 s2 with
          | none => none
          | some (y, s3) => match keyD kd with
            | none => none
            | some kk => if acc.length < sizeLine then dcL mc mt mk mv e ds (putD acc kk y) s3 else none
def mDc (vs : List Nat) (mi : MI) (mc : MC) (mt : MT) (mk mv : ME) : ME := fun e s => bnd (mi e s) fun ds s1 => bnd (dcL mc mt mk mv (wipeE e vs) ds [] s1) fun ys s2 => some (.dic ys, s2)
section
variable {K : PySem.W.Frag}
theorem dc_loop {vs : List Nat} {mc : MC} {mt : MT} {mk mv : ME} {t : TG} {σ : L2.St} {e : EnvD} {g0 g1 : G} {H0 H1 : Hp} {s1 s' : Z.S} {J : It} {ds : List D} {acc res : List (Key × D)} {vs1 : List (Key × V)} {P : Addr} {Fin : Hp → Prop} (ht : CtOk K vs t mc)
    (st1 : Step K g0 H0 g1 H1 s1) (E1 : EnvRel K g1 H1 σ e) (hJ : ItD K J g1 ds) (hn0 : H0 P = none) (hP : H1 P = some (.dK vs1)) (hc1 : P ∉ g1.ad) (hf1 : g1.F P = none) (ra1 : RepK K g1 vs1 acc)
    (h2 : dcL mc mt mk mv (wipeE e vs) ds acc s1 = some (res, s'))
    (hP0 : ∀ {j : Nat} {d : D}, e[j]? = some (Sl.own d) → σ[j]? ≠ some (some (V.ref P)))
    (k : ∀ g2 H2 vs2, Step K g0 H0 g2 H2 s' → GLe g1 g2 → H2 P = some (.dK vs2) → P ∉ g2.ad → g2.F P = none → RepK K g2 vs2 res → Fin H2) :
    ∃ W : Nat → Nat → Hp → Prop, (∃ m, W 0 m H1) ∧ ∀ i m H, W i m H →
      (J.stop i H ∧ Fin H) ∨ (J.go i H ∧ ∃ Nx : Hp → Prop, (∀ H', Nx H' → ∃ m', m' < m ∧ W (i + 1) m' H') ∧ ∀ x H', J.yld i H x H' → t x (wipe σ vs) H' fun σ2 H2 => wipe σ2 vs = wipe σ vs ∧ trT K mt σ2 H2 fun b H3 =>
        if b = true then trE K mk σ2 H3 fun y H4 => trE K mv σ2 H4 fun z H5 => ∃ kvs k, y = kV k ∧ H5 P = some (.dK kvs) ∧ kvs.length < sizeLine ∧ Nx (upd H5 P (.dK (putK kvs k z))) else Nx H3) := by
  refine ⟨fun i m H2 => m = ds.length - i ∧ i ≤ ds.length ∧ ∃ g2 s3 vs2 acc2, Step K g0 H0 g2 H2 s3 ∧ EnvRel K g2 H2 σ e ∧ GLe g1 g2 ∧ H2 P = some (.dK vs2) ∧ P ∉ g2.ad ∧ g2.F P = none ∧ RepK K g2 vs2 acc2 ∧ dcL mc mt mk mv (wipeE e vs) (ds.drop i) acc2 s3 = some (res, s'),
    ⟨_, rfl, Nat.zero_le _, g1, s1, vs1, acc, st1, E1, .refl, hP, hc1, hf1, ra1, by simpa using h2⟩, ?_⟩
  rintro i m H2 ⟨rfl, hi, g2, s3, vs2, acc2, st2, E2, L2, hP2, hc2, hf2, ra, hl⟩
  by_cases hlt : i < ds.length
  · refine .inr ⟨hJ.go g2 H2 s3 i st2.rel L2 hlt, ?_⟩
    have hd : ds.drop i = ds[i] :: ds.drop (i + 1) := by rw [List.drop_eq_getElem_cons hlt]
    rw [hd] at hl
    refine ⟨fun H' => ∃ g3 s4 vs3 acc3, Step K g0 H0 g3 H' s4 ∧ EnvRel K g3 H' σ e ∧ GLe g1 g3 ∧ H' P = some (.dK vs3) ∧ P ∉ g3.ad ∧ g3.F P = none ∧ RepK K g3 vs3 acc3 ∧ dcL mc mt mk mv (wipeE e vs) (ds.drop (i + 1)) acc3 s4 = some (res, s'),
      fun H' ⟨g3, s4, vs3, acc3, q⟩ => ⟨ds.length - (i + 1), by omega, rfl, hlt, g3, s4, vs3, acc3, q⟩, fun x H3 y => ?_⟩
    obtain ⟨g3, st3, rx⟩ := hJ.yld g2 H2 s3 i x H3 ds[i] st2.rel L2 (List.getElem?_eq_getElem hlt) y
    obtain ⟨hP3, hc3, hf3⟩ := st3.apart hP2 hc2 hf2
    have st03 := st2.trans st3
    have E3 := E2.step st3
    unfold dcL at hl
    split at hl
    · cases hl
    · rename_i e1 hmc
      refine ht.run g3 H3 _ _ e1 s3 x _ _ st3.rel (E3.wipe vs) rx hmc fun σ1 SE1 hw => ⟨?_, ?_⟩
      · rw [hw]
        apply List.ext_getElem?
        intro j
        rw [wipe_get, wipe_get]
        by_cases hj : j ∈ vs
        · simp only [hj, if_true, Option.map_map]; rfl
        · simp only [hj, if_false]
      · have E1' := SE1.env
        split at hl
        · cases hl
        · rename_i s4 hmt
          refine ⟨g3, e1, s3, false, s4, st3.rel, E1', hmt, fun g4 H4 st4 => ?_⟩
          simp only [Bool.false_eq_true, if_false]
          obtain ⟨hP4, hc4, hf4⟩ := st4.apart hP3 hc3 hf3
          exact ⟨g4, s4, vs2, acc2, st03.trans st4, E3.step st4, (L2.trans st3.le).trans st4.le, hP4, hc4, hf4, (ra.mono st3.le).mono st4.le, hl⟩
        · rename_i s4 hmt
          refine ⟨g3, e1, s3, true, s4, st3.rel, E1', hmt, fun g4 H4 st4 => ?_⟩
          simp only [if_true]
          obtain ⟨hP4, hc4, hf4⟩ := st4.apart hP3 hc3 hf3
          split at hl
          · cases hl
          · rename_i kd s5 hmk
            split at hl
            · cases hl
            · rename_i y1 s6 hmv
              split at hl
              · cases hl
              · rename_i kk hkk
                split at hl
                · rename_i hsz
                  refine ⟨g4, e1, s4, kd, s5, st4.rel, E1'.step st4, hmk, fun k5 g5 H5 st5 rk => ?_⟩
                  obtain ⟨hP5, hc5, hf5⟩ := st5.apart hP4 hc4 hf4
                  refine ⟨g5, e1, s5, y1, s6, st5.rel, (E1'.step st4).step st5, hmv, fun v6 g6 H6 st6 rv => ?_⟩
                  obtain ⟨hP6, hc6, hf6⟩ := st6.apart hP5 hc5 hf5
                  have ra6 := (((ra.mono st3.le).mono st4.le).mono st5.le).mono st6.le
                  have stp := (((st03.trans st4).trans st5).trans st6).put (u := .dK (putK vs2 kk v6)) hn0 hc6 hf6
                  have E6 := ((E3.step st4).step st5).step st6
                  have Ep : EnvRel K g6 (upd H6 P (.dK (putK vs2 kk v6))) σ e := ⟨E6.len, E6.val, fun j d hj => by
                    obtain ⟨b, w1, w2, w3, w4⟩ := E6.own j d hj
                    refine ⟨b, w1, w2, w3, w4.mono .refl fun u hu => ?_⟩
                    rw [upd_ne (fun z => ?_)]
                    · exact hu
                    · subst z
                      exact hP0 hj w1, E6.apart⟩
                  exact ⟨vs2, kk, rep_key rk hkk, hP6, by rw [ra.length]; exact hsz, g6, s6, _, putD acc2 kk y1, stp, Ep, (((L2.trans st3.le).trans st4.le).trans st5.le).trans st6.le, upd_same, hc6, hf6, ra6.put rv, hl⟩
                · cases hl
  · have e0 : i = ds.length := by omega
    subst e0
    rw [List.drop_length] at hl
    cases hl
    exact .inl ⟨hJ.stop g2 H2 _ st2.rel L2, k g2 H2 vs2 st2 L2 hP2 hc2 hf2 ra⟩
theorem tDc_of {vs : List Nat} {mi : MI} {mc : MC} {mt : MT} {mk mv : ME} {t : TG} {σ : L2.St} {H : Hp} {Q : VK} (ht : CtOk K vs t mc) (h : trF K (mDc vs mi mc mt mk mv) σ H Q) : tDc (trI K mi) t (trT K mt) (trE K mk) (trE K mv) vs σ H Q := by
  obtain ⟨g, e, s, d, s', R0, E0, hm, k⟩ := h
  obtain ⟨ds, s1, h1, hm1⟩ := bnd_some hm
  obtain ⟨ys, s2, h2, hm2⟩ := bnd_some hm1
  cases hm2
  refine ⟨g, e, s, ds, s1, R0, E0, h1, fun J g1 H1 st1 hJ P hP => ?_⟩
  obtain ⟨hn0, hf1, hc1⟩ := st1.fresh hP
  have stp := st1.put (u := .dK []) hn0 hc1 hf1
  refine dc_loop ht stp (E0.step stp) hJ hn0 upd_same hc1 hf1 .nil h2 ?_ fun g2 H2 vs2 st2 L2 hP2 hc2 hf2 ra => k P g2 H2 st2 hn0 hf2 hc2 ⟨vs2, hP2, ra⟩
  exact fun {j d} hj hσ => E0.noOwn hn0 hj hσ
end
section
variable {X : Cx} {kx vx tg iter : Expr} {ifs : List Expr} {scope : Scope} {own : List (Str × Nat)} {pos : Pos} {mi : MI} {mc : MC} {mt : MT} {mk mv : ME} {t : TG} {vs : List Nat}
theorem f_dc (hvs : own.map (·.2) = vs) (hc : X.calm = true) (hN : X.N.Nodup) (hi : PI X tg iter (trI X.K mi)) (ok : BlkOk X.N X.env.scope scope own) (hct : CtOk X.K vs t mc)
    (hg : ∀ (s : Shared) (H : Hp) (C : Addr) (cl : List (Str × Addr)) (fp : List Addr), PG (X.blk s H scope (compEnvC scope cl C X.env) fp) tg t) (ht : ∀ (s : Shared) (H : Hp) (C : Addr) (cl : List (Str × Addr)) (fp : List Addr), PTs (X.blk s H scope (compEnvC scope cl C X.env) fp) ifs (trT X.K mt))
    (hk : ∀ (s : Shared) (H : Hp) (C : Addr) (cl : List (Str × Addr)) (fp : List Addr), PE (X.blk s H scope (compEnvC scope cl C X.env) fp) kx (trE X.K mk)) (he : ∀ (s : Shared) (H : Hp) (C : Addr) (cl : List (Str × Addr)) (fp : List Addr), PE (X.blk s H scope (compEnvC scope cl C X.env) fp) vx (trE X.K mv)) (hs : ∀ x, foldedSetIterable iter X.env x = pure x := by intro _; rfl) :
    PE X (.DictComp kx vx [⟨tg, iter, ifs, 0⟩] scope pos) (trF X.K (mDc vs mi mc mt mk mv)) := PE.imp (pe_dc hc hN hi ok hg ht hk he hs) fun σ H Q h => by rw [hvs]; exact tDc_of hct h
end
end Z

set_option Elab.async false
set_option linter.all false
set_option maxRecDepth 100000
set_option maxHeartbeats 4000000
namespace Z
open PySem PySem.Spec PyProof.Rows L2
/-! ### room, with no guard running -/
structure RmZ (k : Nat) (A : Around) : Prop where
  r : Room k A
  gd : A.guards = some []
theorem RmZ.mono {j k : Nat} {A : Around} (r : RmZ k A) (h : j ≤ k := by decide) : RmZ j A := ⟨r.r.mono h, r.gd⟩
theorem RmZ.deeper {k : Nat} {A : Around} (r : RmZ (k + 1) A) (env : Env) : RmZ k (A.deeper env) := ⟨r.r.deeper env, r.gd⟩
theorem RmZ.in1 {k : Nat} {A : Around} (r : RmZ (k + 1) A) : RmZ k A.in1 := ⟨r.r.in1, r.gd⟩
theorem make_guards {A : Around} {C : Addr} {us : List Value} {kw : List (Str × Value)} : (A.under (.builtin "type.__call__" ⟨.ref C :: us, kw⟩)).guards = pushGuards [] A.guards := rfl
theorem RmZ.make {k : Nat} {A : Around} (r : RmZ (k + 1) A) (C : Addr) (us : List Value) (kw : List (Str × Value)) : RmZ k (A.under (.builtin "type.__call__" ⟨.ref C :: us, kw⟩)) :=
  ⟨r.r.make C us kw, by rw [make_guards, r.gd]; rfl⟩
/-- a def's promise where no guard runs -/
structure FnZ (P : Program) (w : World) (K : PySem.W.Frag) (mg : Str → Option Value) (base : Heap) (CX : CXT) (k : Nat) (f : Addr) (fd : FuncData) (ps : List Str) (sp : Sp) : Prop where
  len : ∀ vs H Q E, sp vs H Q E → vs.length = ps.length
  run : ∀ (A : Around) (outer : List Env) (s : Shared) (H : Hp) (args : Args) (us : List Value) (vs : List V) (Q : VK) (E : XK), RmZ k A → Env0 P w K mg base A outer s H → BindsTo s fd args (ps.zip us) → Vals vs us → sp vs H Q E →
    codeAny (model P w) A (.call (.ref f) args) (CR CX outer P w H s Q E) s
theorem FnZ.mono {P : Program} {w : World} {K : PySem.W.Frag} {mg : Str → Option Value} {base : Heap} {CX : CXT} {j k : Nat} {f : Addr} {fd : FuncData} {ps : List Str} {sp : Sp} (F : FnZ P w K mg base CX j f fd ps sp) (h : j ≤ k := by decide) : FnZ P w K mg base CX k f fd ps sp :=
  ⟨F.len, fun A outer s H args us vs Q E hr => F.run A outer s H args us vs Q E (hr.mono h)⟩
theorem fnz_of {P : Program} {w : World} {K : PySem.W.Frag} {mg : Str → Option Value} {base : Heap} {CX : CXT} {x qual : Str} {params : Arguments} {body : List Stmt} {scope : Scope} {dvs : List V} {kws : List (Str × V)} {f : Addr} {fd : FuncData} {N ps : List Str} {k : Nat} {sp : Sp}
    (F : FunD K x qual params body scope dvs kws f fd) (S : FnScope N ps scope) (len : ∀ vs H Q E, sp vs H Q E → vs.length = ps.length)
    (hbody : ∀ (cdv : Value) (A : Around) (outer : List Env) (s : Shared) (H : Hp) (vs : List V) (Q : VK) (E : XK), RmZ k (A.deeper (envOfC qual scope s.heap.objs.size f cdv)) → sp vs H Q E →
      ∃ t, PSs (cxOf CX P w K mg base N qual scope f cdv A outer s H E) body t ∧ t { nx := fun _ H' => Q .non H', rt := Q } (L2.start N vs) H) : FnZ P w K mg base CX (k + 1) f fd ps sp := by
  obtain ⟨oc, od, dV, kV, doc, pm, an, cdv, ct, osl, rfl, lk, hcd, _, _⟩ := F.ex
  refine ⟨len, fun A outer s H args us vs Q E hr e0 hb r hsp => ?_⟩
  have nl := len _ _ _ _ hsp
  have kin : K.In s.heap := e0.mod.kin.keeps fun b o q => (e0.bs b o q).1
  have lim : s.heap.NoLimit := e0.mod.nolimit.keeps fun b o q => (e0.bs b o q).1
  have kinds : ∀ z ∈ ps.zip us, scope.names.lookup z.1 = some .local ∨ (scope.names.lookup z.1 = some .cell ∧ ((cellsFrom (s.heap.objs.size + 1) scope.names []).lookup z.1).isSome = true) := fun ⟨n, v⟩ hz =>
    (S.par n (List.of_mem_zip hz).1).elim .inl fun q => .inr ⟨q, PySem.W.cellsFrom_some _ _ _ (.inl q)⟩
  refine codeAny_call_function hr.r.depth (kin _ _ lk) rfl S.co S.gen rfl (PySem.W.codeRec_of kin hcd) (hb _ _ _ _ (wpAny_newFunctionEnv_cells S.kind kinds fun env he s1 ic => ?_))
  subst he
  refine ⟨lim.keeps ic.toInCall.keep, codeAny_func ?_⟩
  obtain ⟨t, pt, ht⟩ := hbody cdv A outer s H vs Q E (hr.deeper _) hsp
  have J0 := inv_start (CX := CX) (E := E) S hr.r.hd e0 nl r ic
  refine wpAny_mono (pt.run [] s1 (start N vs) H _ J0 ht) (fun fl s' h => ?_) fun e s' h => h
  cases fl with
  | next => exact let ⟨_, H', J, q⟩ := h; ⟨.non, H', J.os, J.bare, J.base, J.hok, rfl, q⟩
  | ret u => exact let ⟨v, _, H', J, rv, q⟩ := h; ⟨v, H', J.os, J.bare, J.base, J.hok, rv, q⟩
  | brk => exact let ⟨_, _, _, q⟩ := h; False.elim q
  | cont => exact let ⟨_, _, _, q⟩ := h; False.elim q
/-! ### promises by mirrors -/
abbrev MD := List D → S → Option (D × S)
def rM (K : PySem.W.Frag) (md : MD) : List V → Hp → VK → Prop := fun vs H Q => ∃ g s ds d s', SRel K g H s ∧ RepL K g vs ds ∧ md ds s = some (d, s') ∧ ∀ v g' H', Step K g H g' H' s' → Rep K g' v d → Q v H'
def rF (K : PySem.W.Frag) (md : MD) : List V → Hp → VK → Prop := fun vs H Q => ∃ g s ds d s', SRel K g H s ∧ RepL K g vs ds ∧ md ds s = some (d, s') ∧
  ∀ a g' H', Step K g H g' H' s' → H a = none → g'.F a = none → a ∉ g'.ad → OwnAt K g' H' a d → Q (.ref a) H'
def spM (K : PySem.W.Frag) (md : MD) : Sp := fun vs H Q _ => rM K md vs H Q
def spF (K : PySem.W.Frag) (md : MD) : Sp := fun vs H Q _ => rF K md vs H Q
/-- the mirror of a def from its body's -/
def startE (n m : Nat) (ds : List D) : EnvD := ds.map Sl.val ++ List.replicate (m - n) .unb
def outM (r : Option (Fl × EnvD × S)) : Option (D × S) := match r with
  | some (.nx, _, s) => some (.non, s)
  | some (.ret d, _, s) => some (d, s)
  | _ => none
def outF (r : Option (Fl × EnvD × S)) : Option (D × S) := match r with
  | some (.rto d, _, s) => some (d, s)
  | _ => none
/-- n parameters, m names in all -/
def mkD (n m : Nat) (b : MS) : MD := fun ds s => if ds.length = n then outM (b (startE n m ds) s) else none
def mkF (n m : Nat) (b : MS) : MD := fun ds s => if ds.length = n then outF (b (startE n m ds) s) else none
theorem mkD_some {n m : Nat} {b : MS} {ds : List D} {s : S} {r : D × S} (h : mkD n m b ds s = some r) : ds.length = n ∧ outM (b (startE n m ds) s) = some r := by
  unfold mkD at h
  split at h
  · exact ⟨by assumption, h⟩
  · cases h
theorem mkF_some {n m : Nat} {b : MS} {ds : List D} {s : S} {r : D × S} (h : mkF n m b ds s = some r) : ds.length = n ∧ outF (b (startE n m ds) s) = some r := by
  unfold mkF at h
  split at h
  · exact ⟨by assumption, h⟩
  · cases h
section
variable {K : PySem.W.Frag}
theorem map_val_get {ds : List D} {i : Nat} {x : Sl} (h : (ds.map Sl.val)[i]? = some x) : ∃ d, x = .val d ∧ ds[i]? = some d := by
  rw [List.getElem?_map] at h
  cases e : ds[i]? with
  | none => rw [e] at h; cases h
  | some d => rw [e] at h; cases h; exact ⟨d, rfl, rfl⟩
theorem startE_get {n m : Nat} {ds : List D} {i : Nat} {x : Sl} (h : (startE n m ds)[i]? = some x) : (∃ d, x = .val d ∧ ds[i]? = some d ∧ i < ds.length) ∨ x = .unb := by
  unfold startE at h
  by_cases hi : i < ds.length
  · rw [List.getElem?_append_left (by simpa using hi)] at h
    obtain ⟨d, h1, h2⟩ := map_val_get h
    exact .inl ⟨d, h1, h2, hi⟩
  · rw [List.getElem?_append_right (by simpa using hi), List.getElem?_replicate] at h
    split at h
    · cases h; exact .inr rfl
    · cases h
theorem env_start {g : G} {H : Hp} {N : List Str} {n m : Nat} {vs : List V} {ds : List D} (r : RepL K g vs ds) (hn : vs.length = n) (hm : N.length = m) (hle : n ≤ m) : EnvRel K g H (L2.start N vs) (startE n m ds) := by
  have hl := r.length
  refine ⟨?_, fun i d h => ?_, fun i d h => ?_, fun i j d d' a h => ?_⟩
  · unfold startE L2.start
    simp only [List.length_append, List.length_map, List.length_replicate]
    omega
  · rcases startE_get h with ⟨d', e, h1, h2⟩ | e
    · cases e
      obtain ⟨v, q1, q2⟩ := r.get h1
      refine ⟨v, ?_, q2⟩
      unfold L2.start
      rw [List.getElem?_append_left (by rw [List.length_map, hl]; exact h2), List.getElem?_map, q1]
      rfl
    · cases e
  · rcases startE_get h with ⟨d', e, _⟩ | e <;> cases e
  · rcases startE_get h with ⟨d', e, _⟩ | e <;> cases e
theorem noOwn_start {σ : L2.St} {n m : Nat} {ds : List D} {a : Addr} : ¬ OwnA σ (startE n m ds) a := fun ⟨i, d, h, _⟩ => by
  rcases startE_get h with ⟨d', e, _⟩ | e <;> cases e
/-- what a body did is a step of its def -/
theorem StepS.T {g g' : G} {H H' : Hp} {σ σ' : L2.St} {e e' : EnvD} {s' : Z.S} (x : StepS K g H σ e g' H' σ' e' s') (h : ∀ a, ¬ OwnA σ e a) : Step K g H g' H' s' :=
  ⟨x.rel, x.le, fun a u q => (x.new a u q).imp id fun z => z.elim id fun w => absurd w (h a), fun a q => (x.newc a q).imp id fun z => z.elim id fun w => absurd w (h a), fun a u q ha => (x.keep a u q ha (h a)).1⟩
theorem body_M {N : List Str} {n m : Nat} {b : MS} {vs : List V} {H : Hp} {Q : VK} (hm : N.length = m) (hle : n ≤ m) (h : rM K (mkD n m b) vs H Q) : trS K b { nx := fun _ H' => Q .non H', rt := Q } (L2.start N vs) H := by
  obtain ⟨g, s, ds, d, s', R, r, hmd, k⟩ := h
  have hn : vs.length = n := by rw [r.length]; exact (mkD_some hmd).1
  have hE : EnvRel K g H (L2.start N vs) (startE n m ds) := env_start r hn hm hle
  replace hmd := (mkD_some hmd).2
  unfold outM at hmd
  split at hmd
  · rename_i e1 s1 hb
    cases hmd
    exact ⟨g, _, s, .nx, e1, _, R, hE, hb, fun g' H' σ' st => k .non g' H' (st.T fun a => noOwn_start) .non⟩
  · rename_i d1 e1 s1 hb
    cases hmd
    exact ⟨g, _, s, .ret _, e1, _, R, hE, hb, fun g' H' σ' st v rv => k v g' H' (st.T fun a => noOwn_start) rv⟩
  · cases hmd
theorem body_F {N : List Str} {n m : Nat} {b : MS} {vs : List V} {H : Hp} {Q : VK} (hm : N.length = m) (hle : n ≤ m) (h : rF K (mkF n m b) vs H Q) : trS K b { nx := fun _ H' => Q .non H', rt := Q } (L2.start N vs) H := by
  obtain ⟨g, s, ds, d, s', R, r, hmd, k⟩ := h
  have hn : vs.length = n := by rw [r.length]; exact (mkF_some hmd).1
  have hE : EnvRel K g H (L2.start N vs) (startE n m ds) := env_start r hn hm hle
  replace hmd := (mkF_some hmd).2
  unfold outF at hmd
  split at hmd
  · rename_i d1 e1 s1 hb
    cases hmd
    exact ⟨g, _, s, .rto _, e1, _, R, hE, hb, fun g' H' σ' st a h1 h2 h3 h4 => k a g' H' (st.T fun a => noOwn_start) h1 h2 h3 h4⟩
  · cases hmd
end
/-! ### defs of the text -/
abbrev NoX : CXT := fun _ _ _ _ _ _ => False
structure DfZ (P : Program) (w : World) (K : PySem.W.Frag) (mg : Str → Option Value) (base : Heap) (k : Nat) (d : DefZ) (ps : List Str) (sp : Sp) : Prop where
  ex : ∃ fd, FunD K d.name d.qual d.params d.body d.scope (d.dvs K) [] (d.ad K) fd ∧ FnZ P w K mg base NoX k (d.ad K) fd ps sp ∧ Binds K fd ps []
section
variable {P : Program} {w : World} {K : PySem.W.Frag} {mg : Str → Option Value} {base : Heap} {d : DefZ} {N ps : List Str} {k n m : Nat} {b : MS}
theorem dfz_M (F : ∃ fd, FunD K d.name d.qual d.params d.body d.scope (d.dvs K) [] (d.ad K) fd) (S : FnScope N ps d.scope) (hp : ps.length = n) (hm : N.length = m) (hle : n ≤ m)
    (hbi : ∀ fd, FunD K d.name d.qual d.params d.body d.scope (d.dvs K) [] (d.ad K) fd → Binds K fd ps [])
    (hbody : ∀ (cdv : Value) (A : Around) (outer : List Env) (s : Shared) (H : Hp) (E : XK), RmZ k (A.deeper (envOfC d.qual d.scope s.heap.objs.size (d.ad K) cdv)) → PSs (cxOf NoX P w K mg base N d.qual d.scope (d.ad K) cdv A outer s H E) d.body (trS K b)) :
    DfZ P w K mg base (k + 1) d ps (spM K (mkD n m b)) := by
  obtain ⟨fd, F⟩ := F
  refine ⟨fd, F, fnz_of F S (fun vs H Q E h => ?_) (fun cdv A outer s H vs Q E hr h => ⟨_, hbody cdv A outer s H E hr, body_M hm hle h⟩), hbi fd F⟩
  obtain ⟨g, s, ds, x, s', R, r, hmd, _⟩ := h
  rw [r.length, hp]
  exact (mkD_some hmd).1
theorem dfz_F (F : ∃ fd, FunD K d.name d.qual d.params d.body d.scope (d.dvs K) [] (d.ad K) fd) (S : FnScope N ps d.scope) (hp : ps.length = n) (hm : N.length = m) (hle : n ≤ m)
    (hbi : ∀ fd, FunD K d.name d.qual d.params d.body d.scope (d.dvs K) [] (d.ad K) fd → Binds K fd ps [])
    (hbody : ∀ (cdv : Value) (A : Around) (outer : List Env) (s : Shared) (H : Hp) (E : XK), RmZ k (A.deeper (envOfC d.qual d.scope s.heap.objs.size (d.ad K) cdv)) → PSs (cxOf NoX P w K mg base N d.qual d.scope (d.ad K) cdv A outer s H E) d.body (trS K b)) :
    DfZ P w K mg base (k + 1) d ps (spF K (mkF n m b)) := by
  obtain ⟨fd, F⟩ := F
  refine ⟨fd, F, fnz_of F S (fun vs H Q E h => ?_) (fun cdv A outer s H vs Q E hr h => ⟨_, hbody cdv A outer s H E hr, body_F hm hle h⟩), hbi fd F⟩
  obtain ⟨g, s, ds, x, s', R, r, hmd, _⟩ := h
  rw [r.length, hp]
  exact (mkF_some hmd).1
end
section
variable {X : Cx} {d : DefZ} {ps : List Str} {k j : Nat} {sp : Sp} {x : Str} {p pos apos : Pos} {e o : Expr} {es : List Expr} {t : TA} {md : MD} {ma : MA} {mo : ME}
theorem DfZ.callR (F : DfZ X.prog X.w X.K X.mg X.base k d ps sp) (hr : RmZ k X.A) : CallR X (.ref (d.ad X.K)) (fun vs H Q => sp vs H Q fun _ _ _ => False) := fun pins s σ H xs us Q I r h => by
  obtain ⟨fd, _, F, hb⟩ := F.ex
  have hl : (us ++ []).length = ps.length := by
    rw [List.append_nil, ← r.length]
    exact F.len _ _ _ _ h
  have bt := hb s us I.kIn hl
  rw [List.append_nil] at bt
  refine wpAny_call (codeAny_mono (F.run X.A X.stack s H ⟨us, []⟩ us xs Q _ hr I.env0 bt r h) fun f s' hf => ?_)
  match f, hf with
  | .ok (.ret u), hf => exact I.after hf
theorem DfZ.kp (F : DfZ X.prog X.w X.K X.mg X.base k d ps sp) : PySem.W.keepIn X.K (.ref (d.ad X.K)) = true := let ⟨_, F, _⟩ := F.ex; F.kp
/-- f(e, ..) of a value that is known -/
theorem pe_callR {f : Addr} {r : List V → Hp → VK → Prop} (c : CallR X (.ref f) r) (hk : PySem.W.keepIn X.K (.ref f) = true) (hg : Gl X x) (hm : X.mg x = some (.ref f)) (ha : PA X (e :: es) t) (hdb : (x == ("__debug__" : Str)) = false := by decide +kernel)
    (he : starEach (e :: es) X.env = (false, eval e X.env) :: starEach es X.env := by rfl) (hpl : (backTo pos (starEach es X.env)).any (·.1) = false := by rfl) : PE X (.Call (.Name x p) (e :: es) [] pos) (tCB r t) := ⟨fun pins s σ H Q I h =>
  wpAny_Call_Name_kw (ld_glob I hg hm (PySem.W.callWith_K (h₀ := X.base) I.ok.mod.kin hk (thn (ha.run pos pins s σ H _ I h) fun us s1 ⟨vs, H1, I1, rv, q⟩ => ⟨I1.kIn, c pins s1 σ H1 vs us Q I1 rv q⟩) he hpl) hdb)⟩
def mCallD (md : MD) (ma : MA) : ME := fun e s => bnd (ma e s) md
theorem trE_callD {K : PySem.W.Frag} {σ : L2.St} {H : Hp} {Q : VK} (q : trE K (mCallD md ma) σ H Q) : tCB (fun vs H Q => spM K md vs H Q fun _ _ _ => False) (trA K ma) σ H Q := by
  obtain ⟨g, e, s, d, s', R, E, hm, k⟩ := q
  obtain ⟨ds, s1, h1, hm1⟩ := bnd_some hm
  exact ⟨g, e, s, ds, s1, R, E, h1, fun vs g1 H1 st1 rv => ⟨g1, s1, ds, d, s', st1.rel, rv, hm1, fun v g2 H2 st2 r2 => k v g2 H2 (st1.trans st2) r2⟩⟩
theorem trF_callD {K : PySem.W.Frag} {σ : L2.St} {H : Hp} {Q : VK} (q : trF K (mCallD md ma) σ H Q) : tCB (fun vs H Q => spF K md vs H Q fun _ _ _ => False) (trA K ma) σ H Q := by
  obtain ⟨g, e, s, d, s', R, E, hm, k⟩ := q
  obtain ⟨ds, s1, h1, hm1⟩ := bnd_some hm
  exact ⟨g, e, s, ds, s1, R, E, h1, fun vs g1 H1 st1 rv => ⟨g1, s1, ds, d, s', st1.rel, rv, hm1, fun a g2 H2 st2 q1 q2 q3 q4 => k a g2 H2 (st1.trans st2) (st1.noneOf q1) q2 q3 q4⟩⟩
theorem d_call (F : DfZ X.prog X.w X.K X.mg X.base j d ps (spM X.K md)) (hr : RmZ k X.A) (hj : j ≤ k) (hg : Gl X x) (hm : X.mg x = some (.ref (d.ad X.K))) (ha : PA X (e :: es) (trA X.K ma)) (hdb : (x == ("__debug__" : Str)) = false := by decide +kernel)
    (he : starEach (e :: es) X.env = (false, eval e X.env) :: starEach es X.env := by rfl) (hpl : (backTo pos (starEach es X.env)).any (·.1) = false := by rfl) : PE X (.Call (.Name x p) (e :: es) [] pos) (trE X.K (mCallD md ma)) :=
  PE.imp (pe_callR (F.callR (hr.mono hj)) F.kp hg hm ha hdb he hpl) fun _ _ _ => trE_callD
theorem f_call (F : DfZ X.prog X.w X.K X.mg X.base j d ps (spF X.K md)) (hr : RmZ k X.A) (hj : j ≤ k) (hg : Gl X x) (hm : X.mg x = some (.ref (d.ad X.K))) (ha : PA X (e :: es) (trA X.K ma)) (hdb : (x == ("__debug__" : Str)) = false := by decide +kernel)
    (he : starEach (e :: es) X.env = (false, eval e X.env) :: starEach es X.env := by rfl) (hpl : (backTo pos (starEach es X.env)).any (·.1) = false := by rfl) : PE X (.Call (.Name x p) (e :: es) [] pos) (trF X.K (mCallD md ma)) :=
  PE.imp (pe_callR (F.callR (hr.mono hj)) F.kp hg hm ha hdb he hpl) fun _ _ _ => trF_callD
/-- a new object becomes a cell -/
def mCel (m : ME) : ME := fun e s => bnd (m e s) fun d s => some (.cel s.length, s ++ [d])
theorem trE_cel {K : PySem.W.Frag} {m : ME} {σ : L2.St} {H : Hp} {Q : VK} (q : trE K (mCel m) σ H Q) : trF K m σ H Q := by
  obtain ⟨g, e, s, d, s', R, E, hm, k⟩ := q
  obtain ⟨d1, s1, h1, hm1⟩ := bnd_some hm
  cases hm1
  refine ⟨g, e, s, d1, s1, R, E, h1, fun a g1 H1 st1 hn hf hc o => ?_⟩
  have L : GLe g1 ⟨g1.F, g1.ad ++ [a]⟩ := ⟨fun _ _ h => h, fun n b h => by
    have hl := (List.getElem?_eq_some_iff.mp h).1
    show (g1.ad ++ [a])[n]? = some b
    rw [List.getElem?_append_left hl]; exact h⟩
  have hlen := st1.rel.len
  refine k (.ref a) ⟨g1.F, g1.ad ++ [a]⟩ H1 ⟨⟨st1.rel.sub, by simp [hlen], fun n c hq => ?_, fun n m b h1 h2 => ?_⟩, st1.le.trans L, st1.new, fun b hb => ?_, st1.keep⟩ (.cel ?_)
  · by_cases hn' : n < s1.length
    · rw [List.getElem?_append_left hn'] at hq
      obtain ⟨b, q1, q2, q3⟩ := st1.rel.cell n c hq
      exact ⟨b, L.ad n b q1, q2, q3.mono L fun _ q => q⟩
    · rw [List.getElem?_append_right (by omega)] at hq
      have : n - s1.length = 0 := by
        have := (List.getElem?_eq_some_iff.mp hq).1
        simp at this; omega
      rw [this] at hq
      cases hq
      refine ⟨a, ?_, hf, o.mono L fun _ q => q⟩
      show (g1.ad ++ [a])[n]? = some a
      rw [List.getElem?_append_right (by omega), show n - g1.ad.length = 0 by omega]
      rfl
  · have cs : ∀ {n : Nat} {b : Addr}, (g1.ad ++ [a])[n]? = some b → (n < g1.ad.length ∧ g1.ad[n]? = some b) ∨ (n = g1.ad.length ∧ b = a) := fun {n b} h => by
      by_cases hn' : n < g1.ad.length
      · rw [List.getElem?_append_left hn'] at h; exact .inl ⟨hn', h⟩
      · rw [List.getElem?_append_right (by omega)] at h
        have h3 := (List.getElem?_eq_some_iff.mp h).1
        simp at h3
        have : n - g1.ad.length = 0 := by omega
        rw [this] at h
        cases h
        exact .inr ⟨by omega, rfl⟩
    have nin : ∀ {n : Nat}, g1.ad[n]? ≠ some a := fun {n} h => hc (List.mem_iff_getElem?.mpr ⟨n, h⟩)
    rcases cs h1 with ⟨q1, q2⟩ | ⟨q1, q2⟩ <;> rcases cs h2 with ⟨q3, q4⟩ | ⟨q3, q4⟩
    · exact st1.rel.inj n m b q2 q4
    · subst q4; exact absurd q2 nin
    · subst q2; exact absurd q4 nin
    · omega
  · rcases List.mem_append.mp hb with z | z
    · exact st1.newc b z
    · rw [List.mem_singleton.mp z]; exact .inr hn
  · show (g1.ad ++ [a])[s1.length]? = some a
    rw [List.getElem?_append_right (by omega), show s1.length - g1.ad.length = 0 by omega]
    rfl
theorem d_cel {m : ME} (h : PE X e (trF X.K m)) : PE X e (trE X.K (mCel m)) := PE.imp h fun _ _ _ => trE_cel
end
end Z

set_option Elab.async false
set_option linter.all false
set_option maxRecDepth 100000
set_option maxHeartbeats 4000000
namespace Z
open PySem PySem.Spec PyProof.Rows L2
/-! ### either reading -/
def mAlt (m1 m2 : ME) : ME := fun e s => match m1 e s with
  | some r => some r
  | none => m2 e s
/-! ### instances -/
def lookF (fs : List (Str × D)) (f : Str) : Option D := fs.lookup f
section
variable {K : PySem.W.Frag} {g : G}
theorem repF_look {f : Str} : ∀ {vs : List (Str × V)} {ds : List (Str × D)}, RepF K g vs ds → (vs.lookup f = none ∧ lookF ds f = none) ∨ ∃ v d, vs.lookup f = some v ∧ lookF ds f = some d ∧ Rep K g v d
  | _, _, .nil => .inl ⟨rfl, rfl⟩
  | _, _, .cons (k := k) h r => by
    by_cases e : f = k
    · subst e
      exact .inr ⟨_, _, by simp [List.lookup], by simp [lookF, List.lookup], h⟩
    · have e' : (f == k) = false := by simpa using e
      rcases repF_look (f := f) r with ⟨h1, h2⟩ | ⟨v, d, h1, h2, h3⟩
      · refine .inl ⟨?_, ?_⟩
        · simp only [List.lookup, e']; exact h1
        · unfold lookF at h2 ⊢; simp only [List.lookup, e']; exact h2
      · refine .inr ⟨v, d, ?_, ?_, h3⟩
        · simp only [List.lookup, e']; exact h1
        · unfold lookF at h2 ⊢; simp only [List.lookup, e']; exact h2
theorem ins_H {H : Hp} {s : S} {a dx C : Addr} {fs : List (Str × V)} (R : SRel K g H s) (h : g.F a = some (.ins C dx fs)) : H a = some (.ins C dx fs) := by
  rcases R.sub _ _ h with z | ⟨⟨_, z⟩, _⟩
  · exact z
  · cases z
end
section
variable {X : Cx} {a o e : Expr} {es : List Expr} {mo m1 m2 : ME} {ma : MA} {md : MD} {c f m : Str} {pos apos p : Pos} {d : DefZ} {ps : List Str} {j k : Nat}
/-- a field -/
def mFld (c f : Str) (mo : ME) : ME := fun e s => bnd (mo e s) fun d s => match d with
  | .obj c' fs => if c' = c then lft (lookF fs f) s else none
  | _ => none
theorem d_fld (c : Str) (ho : PE X o (trE X.K mo)) (hc : Cls X.K (He.ga X.K c)) (hn : NoAttr X.K (He.ga X.K c) f) (hb : attributeBase o f X.env (eval o X.env) = eval o X.env := by rfl) : PE X (.Attribute o f pos) (trE X.K (mFld c f mo)) := PE.imp (pe_fld ho hb) fun σ H Q ⟨g, e, s, d, s', R, E, hm, k⟩ => by
  obtain ⟨d1, s1, h1, hm1⟩ := bnd_some hm
  split at hm1
  · rename_i c' fs
    split at hm1
    · rename_i hcc
      subst hcc
      obtain ⟨h4, h5⟩ := lft_some hm1
      dsimp only at h4 h5
      subst h5
      refine ⟨g, e, s, _, _, R, E, h1, fun v g1 H1 st1 rv => ?_⟩
      cases rv with
      | obj hF rF =>
        rcases repF_look (f := f) rF with ⟨_, q⟩ | ⟨v, d', q1, q2, q3⟩
        · rw [h4] at q; cases q
        · rw [h4] at q2; cases q2
          exact ⟨_, _, _, _, _, rfl, ins_H st1.rel hF, hc, hn, q1, k _ _ _ st1 q3⟩
    · cases hm1
  · cases hm1
def mMeth (c m : Str) (md : MD) (mo : ME) (ma : MA) : ME := fun e s => bnd (mo e s) fun d s => match d with
  | .obj c' fs => if c' = c ∧ lookF fs m = none then bnd (ma e s) fun ds s => md (.obj c' fs :: ds) s else none
  | _ => none
def mMeth0 (c m : Str) (md : MD) (mo : ME) : ME := fun e s => bnd (mo e s) fun d s => match d with
  | .obj c' fs => if c' = c ∧ lookF fs m = none then md [.obj c' fs] s else none
  | _ => none
/-- a property -/
def mProp (c : Str) (md : MD) (mo : ME) : ME := fun e s => bnd (mo e s) fun d s => match d with
  | .obj c' fs => if c' = c then md [.obj c' fs] s else none
  | _ => none
theorem getattr_prop {pins : List (Addr × Obj)} {σ : L2.St} {H : Hp} {s : Shared} {Q : VK} {b : Bool} {E' : Value → Shared → Prop} {a0 dx C pa : Addr} {fs : List (Str × V)} {sp : Sp} (I : Inv X pins σ H s) (ea : H a0 = some (.ins C dx fs)) (hc : Cls X.K C) (hp : PropOf X.K C f pa (d.ad X.K))
    (F : DfZ X.prog X.w X.K X.mg X.base k d ps sp) (hr : RmZ (k + 1) X.A) (h : sp [.ref a0] H Q fun _ _ _ => False) : wpAny (model X.prog X.w) X.A (getAttr (.ref a0) f b) (EP X pins σ Q) E' s := by
  obtain ⟨fd, _, Fz, hb⟩ := F.ex
  obtain ⟨mA, ob, _⟩ := ins_get I.hok ea
  obtain ⟨od, inst, _⟩ := ob.look
  obtain ⟨rest, hrec⟩ := hp.rec_
  have J := I.tok (s.toks + 1)
  have isC : (PySem.W.clsIn X.K C).isSome = true := let ⟨_, q, _⟩ := PySem.W.any_some hc.hd; by rw [q]; rfl
  have hl : ([Value.ref a0] ++ []).length = ps.length := (Fz.len _ _ _ _ h).symm ▸ rfl
  refine PySem.W.get_bind I.kIn inst (PySem.W.plainGet_of (hc.get f)).1 (PySem.W.findObj_data isC hp.at_ hp.get hp.tak) (PySem.W.plainGet_of (hc.get f)).2 (wpAny_call (PySem.W.prop_get (s := { s with toks := s.toks + 1 }) I.kIn hrec ?_))
  refine codeAny_mono (Fz.run X.A.in1 X.stack { s with toks := s.toks + 1 } H ⟨[.ref a0], []⟩ [.ref a0] [.ref a0] Q _ hr.in1 J.env0.in1 (hb _ [.ref a0] J.kIn hl) (.cons rfl .nil) h) fun r s' q => ?_
  match r, q with
  | .ok (.ret u), q =>
    obtain ⟨v, H', J3, rv, q3⟩ := J.after q
    show wpAny _ _ (handedOut u) _ _ _
    rw [PySem.W.handedOut_of (handed_of rv)]
    exact wpAny_pure ⟨v, H', J3, rv, q3⟩
theorem d_prop (c : Str) {pa : Addr} (ho : PE X o (trE X.K mo)) (hc : Cls X.K (He.ga X.K c)) (hp : PropOf X.K (He.ga X.K c) f pa (d.ad X.K)) (F : DfZ X.prog X.w X.K X.mg X.base j d ps (spM X.K md)) (hr : RmZ k X.A) (hj : j + 1 ≤ k)
    (hb : attributeBase o f X.env (eval o X.env) = eval o X.env := by rfl) : PE X (.Attribute o f pos) (trE X.K (mProp c md mo)) := ⟨fun pins s σ H Q I ⟨g, e, s0, d0, s', R, E, hm, k⟩ => by
  obtain ⟨d1, s1, h1, hm1⟩ := bnd_some hm
  split at hm1
  · rename_i c' fs
    split at hm1
    · rename_i hcc
      subst hcc
      refine attr_of hb (thn (ho.run pins s σ H (fun v H1 => ∃ a0 dx vs, v = .ref a0 ∧ H1 a0 = some (.ins (He.ga X.K c') dx vs) ∧ rM X.K md [.ref a0] H1 Q) I ⟨g, e, s0, _, _, R, E, h1, fun v g1 H1 st1 rv => ?_⟩) fun u s2 ⟨x, H1, I1, rx, a0, dx, vs, ex, ea, q⟩ => ?_)
      · cases rv with
        | obj hF rF => exact ⟨_, _, _, rfl, ins_H st1.rel hF, g1, s1, _, d0, s', st1.rel, .cons (.obj hF rF) .nil, hm1, fun v g2 H2 st2 r2 => k v g2 H2 (st1.trans st2) r2⟩
      · subst ex
        obtain rfl : u = Value.ref a0 := rx
        exact getattr_prop I1 ea hc hp F (hr.mono hj) q
    · cases hm1
  · cases hm1⟩
end
end Z

set_option Elab.async false
set_option linter.all false
set_option maxRecDepth 100000
set_option maxHeartbeats 4000000
namespace Z
open PySem PySem.Spec PyProof.Rows L2
/-! ### a new instance: its __init__ -/
structure SelfAt (K : PySem.W.Frag) (g : G) (H : Hp) (x : Addr) (c : Str) (fs : List (Str × D)) : Prop where
  F : g.F x = none
  ad : x ∉ g.ad
  o : OwnAt K g H x (.obj c fs)
/-- a step in which x alone may be written -/
structure StepN (K : PySem.W.Frag) (g : G) (H : Hp) (x : Addr) (g' : G) (H' : Hp) (s' : Z.S) : Prop where
  rel : SRel K g' H' s'
  le : GLe g g'
  new : ∀ a u, g'.F a = some u → g.F a = some u ∨ H a = none
  newc : ∀ a, a ∈ g'.ad → a ∈ g.ad ∨ H a = none
  keep : ∀ a u, H a = some u → a ∉ g.ad → a ≠ x → H' a = some u
  has : ∀ a u, H a = some u → ∃ u', H' a = some u'
section
variable {K : PySem.W.Frag} {g g' g'' : G} {H H' H'' : Hp} {s s' s'' : Z.S} {x : Addr}
theorem Step.N (st : Step K g H g' H' s') (x : Addr) : StepN K g H x g' H' s' := ⟨st.rel, st.le, st.new, st.newc, fun a u h ha _ => st.keep a u h ha, fun a u h => st.has h⟩
theorem StepN.noneOf (st : StepN K g H x g' H' s') {a : Addr} (h : H' a = none) : H a = none := by
  cases q : H a with
  | none => rfl
  | some u => obtain ⟨u', z⟩ := st.has a u q; rw [h] at z; cases z
theorem StepN.trans (a : StepN K g H x g' H' s') (b : StepN K g' H' x g'' H'' s'') : StepN K g H x g'' H'' s'' := by
  refine ⟨b.rel, a.le.trans b.le, fun y u h => ?_, fun y h => ?_, fun y u h hy hx => ?_, fun y u h => ?_⟩
  · rcases b.new y u h with q | q
    · exact a.new y u q
    · exact .inr (a.noneOf q)
  · rcases b.newc y h with q | q
    · exact a.newc y q
    · exact .inr (a.noneOf q)
  · refine b.keep y u (a.keep y u h hy hx) (fun z => ?_) hx
    rcases a.newc y z with q | q
    · exact hy q
    · rw [h] at q; cases q
  · obtain ⟨u', q⟩ := a.has y u h
    exact b.has y u' q
theorem SelfAt.step {c : Str} {fs : List (Str × D)} (a : SelfAt K g H x c fs) (st : Step K g H g' H' s') : SelfAt K g' H' x c fs := by
  obtain ⟨u, hu⟩ := a.o.has
  obtain ⟨h1, h2, h3⟩ := st.apart hu a.ad a.F
  exact ⟨h3, h2, a.o.mono st.le fun w hw => st.keep x w hw a.ad⟩
end
def NoOwn (e : EnvD) : Prop := ∀ (i : Nat) (d : D), e[i]? ≠ some (Sl.own d)
abbrev MN := EnvD → List (Str × D) → S → Option (List (Str × D) × S)
def trN (K : PySem.W.Frag) (c : Str) (m : MN) : TS := fun Dn σ H => ∃ g e s x fs0 fs s', SRel K g H s ∧ EnvRel K g H σ e ∧ NoOwn e ∧ σ[0]? = some (some (.ref x)) ∧ SelfAt K g H x c fs0 ∧ m e fs0 s = some (fs, s') ∧
  ∀ g' H', StepN K g H x g' H' s' → SelfAt K g' H' x c fs → Dn.nx σ H'
def bndN {α : Type} (x : Option (α × S)) (f : α → S → Option (List (Str × D) × S)) : Option (List (Str × D) × S) := match x with
  | some (a, s) => f a s
  | none => none
theorem bndN_some {α : Type} {x : Option (α × S)} {f : α → S → Option (List (Str × D) × S)} {r : List (Str × D) × S} (h : bndN x f = some r) : ∃ a s, x = some (a, s) ∧ f a s = some r := by
  cases x with
  | none => cases h
  | some p => exact ⟨p.1, p.2, rfl, h⟩
def nNil : MN := fun _ fs s => some (fs, s)
def nSeq (m1 m2 : MN) : MN := fun e fs s => bndN (m1 e fs s) fun fs s => m2 e fs s
def nExpr (m : ME) : MN := fun e fs s => bndN (m e s) fun _ s => some (fs, s)
def nNot (m : MT) : MN := fun e fs s => bndN (m e s) fun b s => match b with
  | true => none
  | false => some (fs, s)
def putFD (f : Str) (d : D) : List (Str × D) → List (Str × D)
  | [] => [(f, d)]
  | (g, x) :: r => if g = f then (g, d) :: r else (g, x) :: putFD f d r
def nFld (f : Str) (m : ME) : MN := fun e fs s => bndN (m e s) fun d s => if fs.length < 1000 then some (putFD f d fs, s) else none
theorem RepF.length {K : PySem.W.Frag} {g : G} : ∀ {vs ds}, RepF K g vs ds → vs.length = ds.length
  | _, _, .nil => rfl
  | _, _, .cons _ r => by simp [RepF.length r]
theorem RepF.put {K : PySem.W.Frag} {g : G} {f : Str} {v : V} {d : D} (h : Rep K g v d) : ∀ {vs ds}, RepF K g vs ds → RepF K g (putF f v vs) (putFD f d ds)
  | _, _, .nil => .cons h .nil
  | _, _, .cons (k := k) q r => by
    unfold putF putFD
    by_cases e : k = f
    · rw [if_pos e, if_pos e]; exact .cons h r
    · rw [if_neg e, if_neg e]; exact .cons q (RepF.put h r)
section
variable {X : Cx} {a : Expr} {st : Stmt} {sts : List Stmt} {me : ME} {mt : MT} {m1 m2 : MN} {c f : Str} {pos : Pos}
theorem n_nil : PSs X [] (trN X.K c nNil) := PSs.imp pss_nil fun Dn σ H ⟨g, e, s, x, fs0, fs, s', R, E, no, hx, sa, hm, k⟩ => by
  cases hm
  exact k g H ((Step.refl R).N x) sa
theorem trN_seq {K : PySem.W.Frag} {Dn : Ends} {σ : L2.St} {H : Hp} (h : trN K c (nSeq m1 m2) Dn σ H) : trN K c m1 { Dn with nx := trN K c m2 Dn } σ H := by
  obtain ⟨g, e, s, x, fs0, fs, s', R, E, no, hx, sa, hm, k⟩ := h
  obtain ⟨f1, s1, h1, h2⟩ := bndN_some hm
  refine ⟨g, e, s, x, fs0, f1, s1, R, E, no, hx, sa, h1, fun g1 H1 st1 sa1 => ⟨g1, e, s1, x, f1, fs, s', st1.rel, ⟨E.len, fun i d q => ?_, fun i d q => absurd q (no i d), fun i j d d' a q => absurd q (no i d)⟩, no, hx, sa1, h2, fun g2 H2 st2 sa2 => k g2 H2 (st1.trans st2) sa2⟩⟩
  obtain ⟨v, q1, q2⟩ := E.val i d q
  exact ⟨v, q1, q2.mono st1.le⟩
theorem n_cons (h1 : PS X st (trN X.K c m1)) (h2 : PSs X sts (trN X.K c m2)) : PSs X (st :: sts) (trN X.K c (nSeq m1 m2)) := PSs.imp (pss_cons h1 h2) fun _ _ _ h => trN_seq h
theorem n_expr (h : PE X a (trE X.K me)) (hs : swapsWith a none pos.line X.env = pure false := by rfl) : PS X (.Expr a pos) (trN X.K c (nExpr me)) := PS.imp (ps_expr h hs) fun Dn σ H ⟨g, e, s, x, fs0, fs, s', R, E, no, hx, sa, hm, k⟩ => by
  obtain ⟨d, s1, h1, hm1⟩ := bndN_some hm
  cases hm1
  exact ⟨g, e, s, d, _, R, E, h1, fun v g1 H1 st1 rv => k g1 H1 (st1.N x) (sa.step st1)⟩
theorem n_not {t : Expr} {sa : List Stmt} (ht : PT X t (trT X.K mt)) : PS X (.If t sa [] pos) (trN X.K c (nNot mt)) := PS.imp (ps_if (t := fun _ _ _ => False) ht ⟨fun _ _ _ _ _ _ h => h.elim⟩ pss_nil) fun Dn σ H ⟨g, e, s, x, fs0, fs, s', R, E, no, hx, sa, hm, k⟩ => by
  obtain ⟨z, s1, h1, hm1⟩ := bndN_some hm
  cases z with
  | true => cases hm1
  | false =>
    cases hm1
    exact ⟨g, e, s, false, _, R, E, h1, fun g1 H1 st1 => iteF (k g1 H1 (st1.N x) (sa.step st1))⟩
theorem put_self {K : PySem.W.Frag} {g g1 : G} {H H1 : Hp} {s1 : Z.S} {x : Addr} {c f : Str} {fs : List (Str × D)} {v : V} {d : D} {dx : Addr} {vs : List (Str × V)} (st : Step K g H g1 H1 s1) (sa : SelfAt K g1 H1 x c fs) (hi : H1 x = some (.ins (He.ga K c) dx vs)) (rf : RepF K g1 vs fs) (rv : Rep K g1 v d) :
    StepN K g H x g1 (upd H1 x (.ins (He.ga K c) dx (putF f v vs))) s1 ∧ SelfAt K g1 (upd H1 x (.ins (He.ga K c) dx (putF f v vs))) x c (putFD f d fs) := by
  have neF : ∀ b w, g1.F b = some w → b ≠ x := fun b w q z => by subst z; rw [sa.F] at q; cases q
  refine ⟨⟨⟨fun b w q => ?_, st.rel.len, fun n q hq => ?_, st.rel.inj⟩, st.le, st.new, st.newc, fun b w q hb hx => ?_, fun b w q => ?_⟩, sa.F, sa.ad, dx, putF f v vs, upd_same, rf.put rv⟩
  · rw [upd_ne (neF b w q)]; exact st.rel.sub b w q
  · obtain ⟨b, w1, w2, w3⟩ := st.rel.cell n q hq
    refine ⟨b, w1, w2, w3.mono .refl fun u hu => ?_⟩
    rw [upd_ne (fun z => sa.ad (by subst z; exact List.mem_iff_getElem?.mpr ⟨n, w1⟩))]; exact hu
  · rw [upd_ne hx]; exact st.keep b w q hb
  · by_cases hb : b = x
    · subst hb; exact ⟨_, upd_same⟩
    · rw [upd_ne hb]; exact st.has q
theorem n_fld {x0 : Str} {p pos' : Pos} (hN : X.N[0]? = some x0) (hv : Vis X.env.scope x0) (h : PE X a (trE X.K me)) (hc : Cls X.K (He.ga X.K c)) (hn : NoAttr X.K (He.ga X.K c) f) (hd : (x0 == ("__debug__" : Str)) = false := by decide +kernel) (hcd : (x0 == ("__classdict__" : Str)) = false := by decide +kernel)
    (hs : swapsWith a (some (.Attribute (.Name x0 p) f pos')) pos.line X.env = pure false := by rfl) :
    PS X (.Assign [.Attribute (.Name x0 p) f pos'] a pos) (trN X.K c (nFld f me)) := PS.imp (ps_fld (pe_var hN hv hd hcd) h hs) fun Dn σ H ⟨g, e, s, x, fs0, fs, s', R, E, no, hx, sa, hm, k⟩ => by
  obtain ⟨d, s1, h1, hm1⟩ := bndN_some hm
  split at hm1
  · rename_i hl
    cases hm1
    refine ⟨g, e, s, d, _, R, E, h1, fun v g1 H1 st1 rv => ?_⟩
    have sa1 := sa.step st1
    obtain ⟨dx, vs, q1, q2⟩ := sa1.o
    obtain ⟨z1, z2⟩ := put_self (f := f) st1 sa1 q1 q2 rv
    exact ⟨_, hx, x, _, dx, vs, rfl, q1, hc, hn, by rw [q2.length]; exact hl, k g1 _ z1 z2⟩
  · cases hm1
end
/-! ### promises of __init__ -/
abbrev MI0 := List D → S → Option (List (Str × D) × S)
def spI (K : PySem.W.Frag) (c : Str) (mi : MI0) : Sp := fun vs H Q _ => ∃ x ws g s ds fs s', vs = .ref x :: ws ∧ SelfAt K g H x c [] ∧ SRel K g H s ∧ RepL K g ws ds ∧ mi ds s = some (fs, s') ∧ ∀ g' H', StepN K g H x g' H' s' → SelfAt K g' H' x c fs → Q .non H'
/-- n parameters behind self, m names in all -/
def startI (n m : Nat) (ds : List D) : EnvD := .unb :: startE n (m - 1) ds
def mkI (n m : Nat) (b : MN) : MI0 := fun ds s => if ds.length = n then b (startI n m ds) [] s else none
theorem mkI_some {n m : Nat} {b : MN} {ds : List D} {s : S} {r : List (Str × D) × S} (h : mkI n m b ds s = some r) : ds.length = n ∧ b (startI n m ds) [] s = some r := by
  unfold mkI at h
  split at h
  · exact ⟨by assumption, h⟩
  · cases h
theorem noOwn_startI {n m : Nat} {ds : List D} : NoOwn (startI n m ds) := fun i d h => by
  cases i with
  | zero => cases h
  | succ i =>
    have h : (startE n (m - 1) ds)[i]? = some (Sl.own d) := h
    rcases startE_get h with ⟨d', e, _⟩ | e <;> cases e
theorem env_startI {K : PySem.W.Frag} {g : G} {H : Hp} {N : List Str} {n m : Nat} {x : Addr} {vs : List V} {ds : List D} (r : RepL K g vs ds) (hn : vs.length = n) (hm : N.length = m) (hle : n + 1 ≤ m) : EnvRel K g H (L2.start N (.ref x :: vs)) (startI n m ds) := by
  have hl := r.length
  refine ⟨?_, fun i d h => ?_, fun i d h => absurd h (noOwn_startI i d), fun i j d d' a h => absurd h (noOwn_startI i d)⟩
  · unfold startI startE L2.start
    simp only [List.length_append, List.length_map, List.length_replicate, List.length_cons]
    omega
  · cases i with
    | zero => cases h
    | succ i =>
      have h : (startE n (m - 1) ds)[i]? = some (Sl.val d) := h
      rcases startE_get h with ⟨d', e, h1, h2⟩ | e
      · cases e
        obtain ⟨v, q1, q2⟩ := r.get h1
        refine ⟨v, ?_, q2⟩
        unfold L2.start
        rw [List.getElem?_append_left (by rw [List.length_map, List.length_cons, hl]; omega), List.getElem?_map, List.getElem?_cons_succ, q1]
        rfl
      · cases e
section
variable {P : Program} {w : World} {K : PySem.W.Frag} {mg : Str → Option Value} {base : Heap} {d : DefZ} {N ps : List Str} {k n m : Nat} {b : MN} {c : Str}
theorem dfz_I (F : ∃ fd, FunD K d.name d.qual d.params d.body d.scope (d.dvs K) [] (d.ad K) fd) (S : FnScope N ps d.scope) (hp : ps.length = n + 1) (hm : N.length = m) (hle : n + 1 ≤ m)
    (hbi : ∀ fd, FunD K d.name d.qual d.params d.body d.scope (d.dvs K) [] (d.ad K) fd → Binds K fd ps [])
    (hbody : ∀ (cdv : Value) (A : Around) (outer : List Env) (s : Shared) (H : Hp) (E : XK), RmZ k (A.deeper (envOfC d.qual d.scope s.heap.objs.size (d.ad K) cdv)) → PSs (cxOf NoX P w K mg base N d.qual d.scope (d.ad K) cdv A outer s H E) d.body (trN K c b)) :
    DfZ P w K mg base (k + 1) d ps (spI K c (mkI n m b)) := by
  obtain ⟨fd, F⟩ := F
  refine ⟨fd, F, fnz_of F S (fun vs H Q E h => ?_) (fun cdv A outer s H vs Q E hr h => ⟨_, hbody cdv A outer s H E hr, ?_⟩), hbi fd F⟩
  · obtain ⟨x, ws, g, s, ds, fs, s', rfl, sa, R, r, hmd, _⟩ := h
    rw [List.length_cons, r.length, hp, (mkI_some hmd).1]
  · obtain ⟨x, ws, g, s0, ds, fs, s', rfl, sa, R, r, hmd, kk⟩ := h
    obtain ⟨h1, h2⟩ := mkI_some hmd
    exact ⟨g, _, s0, x, [], fs, s', R, env_startI r (by rw [r.length]; exact h1) hm hle, noOwn_startI, rfl, sa, h2, fun g' H' st sa' => kk g' H' st sa'⟩
end
/-- the new object of a class -/
def mdMake (c : Str) (mi : MI0) : MD := fun ds s => match mi ds s with
  | some (fs, s') => some (.obj c fs, s')
  | none => none
section
variable {X : Cx} {d : DefZ} {ps : List Str} {j k : Nat} {mi : MI0} {c x : Str} {p pos : Pos} {e : Expr} {es : List Expr} {ma : MA} {t : TA}
theorem made_rel {K : PySem.W.Frag} {g : G} {H : Hp} {s : S} {x dx C : Addr} (R : SRel K g H s) (hx : H x = none) (hd : H dx = none) : SRel K g (upd (upd H dx (.own x)) x (.ins C dx [])) s := by
  have kp : ∀ b u, H b = some u → upd (upd H dx (.own x)) x (.ins C dx []) b = some u := fun b u q => by
    rw [upd_ne (ne_of_none q hx), upd_ne (ne_of_none q hd)]; exact q
  refine ⟨fun a u q => ?_, R.len, fun n q hq => ?_, R.inj⟩
  · rcases R.sub a u q with z | ⟨z1, o, z⟩
    · exact .inl (kp _ _ z)
    · exact .inr ⟨z1, o, kp _ _ z⟩
  · obtain ⟨b, w1, w2, w3⟩ := R.cell n q hq
    exact ⟨b, w1, w2, w3.mono .refl fun u hu => kp _ _ hu⟩
theorem free_of {K : PySem.W.Frag} {g : G} {H : Hp} {s : S} {x : Addr} (R : SRel K g H s) (hx : H x = none) : g.F x = none ∧ x ∉ g.ad := by
  refine ⟨?_, fun z => ?_⟩
  · cases q : g.F x with
    | none => rfl
    | some u =>
      rcases R.sub x u q with z | ⟨_, _, z⟩
      · rw [hx] at z; cases z
      · rw [hx] at z; cases z
  · obtain ⟨u, hu⟩ := R.has z
    rw [hx] at hu; cases hu
theorem makeR_core {K : PySem.W.Frag} {H : Hp} {Q : VK} {vs : List V} (h : rF K (mdMake c mi) vs H Q) {x dx : Addr} (hx : H x = none) (hd : H dx = none) (ne : dx ≠ x) :
    spI K c mi (.ref x :: vs) (upd (upd H dx (.own x)) x (.ins (He.ga K c) dx [])) (fun v H2 => v = .non ∧ Q (.ref x) H2) fun _ _ _ => False := by
  obtain ⟨g, s, ds, o, s', R, r, hm, k⟩ := h
  unfold mdMake at hm
  split at hm
  · rename_i fs s1 hmi
    cases hm
    obtain ⟨f1, f2⟩ := free_of R hx
    refine ⟨x, vs, g, s, ds, fs, _, rfl, ⟨f1, f2, dx, [], upd_same, .nil⟩, made_rel R hx hd, r, hmi, fun g' H' st sa => ⟨rfl, ?_⟩⟩
    have bk : ∀ a, upd (upd H dx (.own x)) x (.ins (He.ga K c) dx []) a = none → H a = none := fun a q => by
      by_cases h1 : a = x
      · rw [h1]; exact hx
      · rw [upd_ne h1] at q
        by_cases h2 : a = dx
        · rw [h2]; exact hd
        · rw [upd_ne h2] at q; exact q
    refine k x g' H' ⟨st.rel, st.le, fun a u q => (st.new a u q).imp id (bk a), fun a q => (st.newc a q).imp id (bk a), fun a u q ha => ?_⟩ hx sa.F sa.ad sa.o
    refine st.keep a u ?_ ha (ne_of_none q hx)
    rw [upd_ne (ne_of_none q hx), upd_ne (ne_of_none q hd)]; exact q
  · cases hm
theorem DfZ.makeR (F : DfZ X.prog X.w X.K X.mg X.base k d ps (spI X.K c mi)) (hr : RmZ (k + 1) X.A) (M : Mk X.K (He.ga X.K c) (d.ad X.K)) : CallR X (.ref (He.ga X.K c)) (rF X.K (mdMake c mi)) := fun pins s σ H xs us Q I r h => by
  obtain ⟨fd, _, F, hb⟩ := F.ex
  have hq := makeR_core h (I.hok.fresh (Nat.le_succ _)) (I.hok.fresh (Nat.le_refl _)) (Nat.ne_of_lt (Nat.lt_succ_self _))
  have J := Inv.made (C := He.ga X.K c) I
  have r2 : Vals (V.ref (s.heap.objs.size + 1) :: xs) (Value.ref (s.heap.objs.size + 1) :: us) := .cons rfl r
  have hl : (Value.ref (s.heap.objs.size + 1) :: us ++ []).length = ps.length := by
    rw [List.append_nil, ← r2.length]
    exact F.len _ _ _ _ hq
  have bt := hb _ _ J.kIn hl
  rw [List.append_nil] at bt
  refine wpAny_call (make_map (f := d.ad X.K) I.kIn M.makes M.init (beq_iff_eq.mp M.fn) (codeAny_mono (F.run _ X.stack _ _ ⟨Value.ref (s.heap.objs.size + 1) :: us, []⟩ _ _ _ _ (hr.make _ us []) (J.env0.make _ us []) bt r2 hq) fun f s' hf => ?_))
  match f, hf with
  | .ok (.ret u), hf =>
    obtain ⟨v, H', I3, rv, ev, q3⟩ := J.after hf
    subst ev
    exact ⟨rv, V.ref (s.heap.objs.size + 1), H', I3, rfl, q3⟩
theorem f_make (F : DfZ X.prog X.w X.K X.mg X.base j d ps (spI X.K c mi)) (hr : RmZ k X.A) (hj : j + 1 ≤ k) (M : Mk X.K (He.ga X.K c) (d.ad X.K)) (hg : Gl X x) (hm : X.mg x = some (.ref (He.ga X.K c))) (ha : PA X (e :: es) (trA X.K ma)) (hdb : (x == ("__debug__" : Str)) = false := by decide +kernel)
    (he : starEach (e :: es) X.env = (false, eval e X.env) :: starEach es X.env := by rfl) (hpl : (backTo pos (starEach es X.env)).any (·.1) = false := by rfl) : PE X (.Call (.Name x p) (e :: es) [] pos) (trF X.K (mCallD (mdMake c mi) ma)) :=
  PE.imp (pe_callR (F.makeR (hr.mono hj) M) M.kp hg hm ha hdb he hpl) fun _ _ _ => trF_callD
def mNone : MA := fun _ s => some ([], s)
/-- a class's name read as a value -/
theorem d_ty (hg : Gl X x) (hm : X.mg x = some (.ref (He.ga X.K x))) (hdb : (x == ("__debug__" : Str)) = false := by decide +kernel) : PE X (.Name x p) (trE X.K (mC (.ty x))) := ⟨fun pins s σ H Q I ⟨g, e, s0, d0, s', R, E, hm0, k⟩ => by
  cases hm0
  exact ld_glob I hg hm ⟨.ref (He.ga X.K x), H, I, rfl, k _ g H (.refl R) (.ty x)⟩ hdb⟩
/-- cls(e, ..), cls a local name that stands for the class c -/
def mCls (c : Str) (i : Nat) (md : MD) (ma : MA) : ME := fun e s => match e[i]? with
  | some (.val (.ty c')) => if c' = c then bnd (ma e s) md else none
  | _ => none
end
end Z

set_option Elab.async false
set_option linter.all false
set_option maxRecDepth 100000
set_option maxHeartbeats 4000000
namespace Z
open PySem PySem.Spec PyProof.Rows L2
section
variable {X : Cx} {K : PySem.W.Frag} {o a b e : Expr} {es : List Expr} {mo me : ME} {ma : MA} {apos pos p tpos : Pos} {x : Str}
/-! ### texts -/
def toSs : List D → Option (List Str)
  | [] => some []
  | .str x :: r => (toSs r).map (x :: ·)
  | _ :: _ => none
theorem rep_strs {K : PySem.W.Frag} {g : G} : ∀ ys : List Str, RepL K g (ys.map V.str) (ys.map D.str)
  | [] => .nil
  | _ :: r => .cons (.str _) (rep_strs r)
/-- x.split(sep) -/
def mSplit (mo me : ME) : ME := fun e s => bnd (mo e s) fun d s => bnd (me e s) fun y s => match d, y with
  | .str z, .str w => if (w.length == 0) = false ∧ z.length + 2 ≤ sizeLine then some (.lst ((Txt.split z w).map D.str), s) else none
  | _, _ => none
/-- one more object -/
theorem Step.new1 {K : PySem.W.Frag} {g g1 : G} {H H1 : Hp} {s1 : Z.S} (st : Step K g H g1 H1 s1) {q : Addr} {u : HO} (hq : H1 q = none) : Step K g H g1 (upd H1 q u) s1 ∧ H q = none ∧ g1.F q = none ∧ q ∉ g1.ad := by
  obtain ⟨h1, h2, h3⟩ := st.fresh hq
  exact ⟨st.put h1 h3 h2, h1, h2, h3⟩
/-- sep.join(list or tuple of texts) -/
def joinD : D → D → Option D
  | .str z, .lst ds => (toSs ds).bind fun ys => if (ys.map (·.length)).sum + ys.length * z.length ≤ 16777216 then some (.str (Txt.join z ys)) else none
  | .str z, .tup ds => (toSs ds).bind fun ys => if (ys.map (·.length)).sum + ys.length * z.length ≤ 16777216 then some (.str (Txt.join z ys)) else none
  | _, _ => none
def mJoin (mo me : ME) : ME := mOp joinD mo me
/-! ### isinstance -/
/-- the built-in types asked for -/
def tyD : D → Option String
  | .non => some "NoneType" | .bl _ => some "bool" | .int _ => some "int" | .str _ => some "str" | .tup _ => some "tuple" | .lst _ => some "list" | .dic _ => some "dict"
  | _ => none
/-- isinstance(x, T), T a built-in type: of built-in values -/
def isiT (T : String) : D → Option D := fun d => match d with
  | .obj _ _ => some (.bl false)
  | d => (tyD d).bind fun t => (kitB t T).map D.bl
end
/-! ### enumerate of a tuple: what it walks -/
section
variable {X : Cx} {K : PySem.W.Frag} {a b : Expr} {ma : MA} {p pos tpos : Pos}
theorem zipD_get {ds es : List D} {i : Nat} {d : D} (h : (zipD ds es)[i]? = some d) : ∃ x y, ds[i]? = some x ∧ es[i]? = some y ∧ d = .tup [x, y] := by
  unfold zipD at h
  rw [List.getElem?_map] at h
  cases q : (List.zip ds es)[i]? with
  | none => rw [q] at h; cases h
  | some z =>
    rw [q] at h
    cases h
    rw [List.getElem?_zip_eq_some] at q
    exact ⟨_, _, q.1, q.2, rfl⟩
theorem zipD_len (ds es : List D) : (zipD ds es).length = min ds.length es.length := by simp [zipD]
theorem itd_zipL {g : G} {a b : Addr} {vs ws : List V} {ds es : List D} (h : Rd g.F a (.lst vs)) (r : RepL K g vs ds) (h2 : Rd g.F b (.lst ws)) (r2 : RepL K g ws es) : ItD K (Itz K a b) g (zipD ds es) := by
  have hq : ∀ (g' : G) (H : Hp) (s : S), SRel K g' H s → GLe g g' → SqL K H a vs := fun g' H s R L => .inl (rd_H R (rd_mono L.F h))
  have hq2 : ∀ (g' : G) (H : Hp) (s : S), SRel K g' H s → GLe g g' → SqL K H b ws := fun g' H s R L => .inl (rd_H R (rd_mono L.F h2))
  refine ⟨fun g' H s i R L hi => ?_, fun g' H s R L => ⟨vs, ws, hq g' H s R L, hq2 g' H s R L, by rw [r.length, r2.length, zipD_len]; omega⟩, fun g' H s i x H' d R L hd y => ?_⟩
  · rw [zipD_len] at hi
    have l1 : i < vs.length := by rw [r.length]; omega
    have l2 : i < ws.length := by rw [r2.length]; omega
    exact ⟨vs, ws, vs[i], ws[i], hq g' H s R L, hq2 g' H s R L, List.getElem?_eq_getElem l1, List.getElem?_eq_getElem l2⟩
  · obtain ⟨T, y1, y2, rfl, hT, rfl, hy1, hy2⟩ := y
    obtain ⟨d1, d2, e1, e2, rfl⟩ := zipD_get hd
    obtain ⟨v1, q1, q2⟩ := r.get e1
    obtain ⟨v2, q3, q4⟩ := r2.get e2
    rw [hy1 vs (hq g' _ s R L)] at q1; cases q1
    rw [hy2 ws (hq2 g' _ s R L)] at q3; cases q3
    obtain ⟨z1, z2⟩ := tup_yld R hT (.cons (q2.mono L) (.cons (q4.mono L) .nil))
    exact ⟨_, z1, z2⟩
theorem itd_zipT {g : G} {a b : Addr} {vs ws : List V} {ds es : List D} (h : SqT K g.F a vs) (r : RepL K g vs ds) (h2 : SqT K g.F b ws) (r2 : RepL K g ws es) : ItD K (RZ.ItzT K a b) g (zipD ds es) := by
  have hq : ∀ (g' : G) (H : Hp) (s : S), SRel K g' H s → GLe g g' → SqT K H a vs := fun g' H s R L => sqT_H R (sqT_mono L.F h)
  have hq2 : ∀ (g' : G) (H : Hp) (s : S), SRel K g' H s → GLe g g' → SqT K H b ws := fun g' H s R L => sqT_H R (sqT_mono L.F h2)
  refine ⟨fun g' H s i R L hi => ?_, fun g' H s R L => ⟨vs, ws, hq g' H s R L, hq2 g' H s R L, by rw [r.length, r2.length, zipD_len]; omega⟩, fun g' H s i x H' d R L hd y => ?_⟩
  · rw [zipD_len] at hi
    have l1 : i < vs.length := by rw [r.length]; omega
    have l2 : i < ws.length := by rw [r2.length]; omega
    exact ⟨vs, ws, vs[i], ws[i], hq g' H s R L, hq2 g' H s R L, List.getElem?_eq_getElem l1, List.getElem?_eq_getElem l2⟩
  · obtain ⟨T, y1, y2, rfl, hT, rfl, hy1, hy2⟩ := y
    obtain ⟨d1, d2, e1, e2, rfl⟩ := zipD_get hd
    obtain ⟨v1, q1, q2⟩ := r.get e1
    obtain ⟨v2, q3, q4⟩ := r2.get e2
    rw [hy1 vs (hq g' _ s R L)] at q1; cases q1
    rw [hy2 ws (hq2 g' _ s R L)] at q3; cases q3
    obtain ⟨z1, z2⟩ := tup_yld R hT (.cons (q2.mono L) (.cons (q4.mono L) .nil))
    exact ⟨_, z1, z2⟩
def zipI (ma : MA) : MI := fun e s => bnd (ma e s) fun ds s => match ds with
  | [.lst x, .lst y] => some (zipD x y, s)
  | [.tup x, .tup y] => some (zipD x y, s)
  | _ => none
theorem i_zip {elts : List Expr} {kk : Nat} (hg : Gl X "zip") (hm : X.mg "zip" = none) (ha : PA X [a, b] (trA X.K ma)) (hs : starEach [a, b] X.env = (false, eval a X.env) :: starEach [b] X.env := by rfl) (hpl : (backTo pos (starEach [b] X.env)).any (·.1) = false := by rfl) : PI X (.Tuple elts kk tpos) (.Call (.Name "zip" p) [a, b] [] pos) (trI X.K (zipI ma)) :=
  PI.imp (RZ.pi_zipA hg hm ha hs hpl) fun σ H R ⟨g, e, s, ds, s', R0, E, hm, k⟩ => by
    obtain ⟨xs, s1, h1, hm1⟩ := bnd_some hm
    refine ⟨g, e, s, xs, s1, R0, E, h1, fun vs g1 H1 st rv => ?_⟩
    split at hm1
    · cases hm1
      cases rv with
      | cons r rr => cases rr with
        | cons r' rr =>
          cases rr
          cases r with
          | lst q r => cases r' with
            | lst q' r' => exact ⟨_, _, _, _, rfl, .inl ⟨.inl (rd_H st.rel q), .inl (rd_H st.rel q'), k _ g1 H1 st (itd_zipL q r q' r')⟩⟩
    · cases hm1
      cases rv with
      | cons r rr => cases rr with
        | cons r' rr =>
          cases rr
          cases r with
          | tup q r => cases r' with
            | tup q' r' => exact ⟨_, _, _, _, rfl, .inr ⟨sqT_H st.rel q, sqT_H st.rel q', k _ g1 H1 st (itd_zipT q r q' r')⟩⟩
    · cases hm1
end
/-! ### owned dicts written -/
section
variable {X : Cx} {a b : Expr} {m1 m2 : ME} {x : Str} {p apos cpos pos : Pos} {i : Nat}
/-- x.setdefault(k, v) as a statement -/
def sSetd (i : Nat) (m1 m2 : ME) : MS := fun e s => bndS (m1 e s) fun kd s => bndS (m2 e s) fun d s => match keyD kd, e[i]? with
  | some k, some (.own (.dic kvs)) => if kvs.length < sizeLine then some (.nx, e.set i (.own (.dic (if (lookD kvs k).isSome then kvs else putD kvs k d))), s) else none
  | _, _ => none
theorem own_same {K : PySem.W.Frag} {g g1 : G} {H H1 : Hp} {σ : L2.St} {e : EnvD} {s1 : Z.S} (E : EnvRel K g H σ e) (st : Step K g H g1 H1 s1) {i : Nat} {d : D} (h : e[i]? = some (.own d)) : StepS K g H σ e g1 H1 σ (e.set i (.own d)) s1 := by
  have : e.set i (.own d) = e := by
    have hl := (List.getElem?_eq_some_iff.mp h).1
    have he := (List.getElem?_eq_some_iff.mp h).2
    rw [← he]; exact List.set_getElem_self hl
  rw [this]
  exact st.S E
theorem s_setd (hN : X.N[i]? = some x) (hv : Vis X.env.scope x) (h1 : PE X a (trE X.K m1)) (h2 : PE X b (trE X.K m2)) (hd : (x == ("__debug__" : Str)) = false := by decide +kernel) (hcd : (x == ("__classdict__" : Str)) = false := by decide +kernel)
    (m : M2 X (.Name x p) "setdefault" apos a b cpos := by exact ⟨rfl, rfl, rfl, rfl, rfl⟩) (hs : swapsWith (.Call (.Attribute (.Name x p) "setdefault" apos) [a, b] [] cpos) none pos.line X.env = pure false := by rfl) :
    PS X (.Expr (.Call (.Attribute (.Name x p) "setdefault" apos) [a, b] [] cpos) pos) (trS X.K (sSetd i m1 m2)) := PS.imp (ps_expr (pe_dsetd (pe_var hN hv hd hcd) h1 h2 m) hs) fun Dn σ H ⟨g, e, s, f, e', s', R, E, hm, k⟩ => by
  obtain ⟨kd, s1, q1, hm1⟩ := bndS_some hm
  obtain ⟨d, s2, q2, hm2⟩ := bndS_some hm1
  split at hm2
  · rename_i kk kvs hk hi
    split at hm2
    · rename_i hl
      cases hm2
      obtain ⟨b0, w1, w2, w3, vs, w4, w5⟩ := E.own i _ hi
      refine ⟨_, w1, b0, rfl, .inl ⟨vs, .inl w4⟩, g, e, s, kd, s1, R, E, q1, fun y g1 H1 st1 ry => ⟨g1, e, s1, d, _, st1.rel, E.step st1, q2, fun z g2 H2 st2 rz => ?_⟩⟩
      have st := st1.trans st2
      have w6 := st.keep b0 _ w4 w3
      have w7 := w5.mono st.le
      refine ⟨vs, kk, w6, rep_key ry hk, by rw [w5.length]; exact hl, fun v hv' => ?_, fun hn => ?_⟩
      · rcases repK_look (k := kk) w7 with ⟨z1, _⟩ | ⟨v', d', z1, z2, z3⟩
        · rw [hv'] at z1; cases z1
        · refine k g2 H2 σ ?_
          simp only [z2, Option.isSome_some, if_true]
          exact own_same E st hi
      · rcases repK_look (k := kk) w7 with ⟨_, z2⟩ | ⟨v', d', z1, _, _⟩
        · refine k g2 _ σ ?_
          simp only [z2, Option.isSome_none, Bool.false_eq_true, if_false]
          exact own_set E st hi w1 fun g' L => ⟨_, upd_same, (w7.put rz).mono L⟩
        · rw [hn] at z1; cases z1
    · cases hm2
  · cases hm2
/-- x[k] = v, x an owned dict -/
def sPutK (i : Nat) (m1 m2 : ME) : MS := fun e s => bndS (m2 e s) fun d s => bndS (m1 e s) fun kd s => match keyD kd, e[i]? with
  | some k, some (.own (.dic kvs)) => if kvs.length < sizeLine then some (.nx, e.set i (.own (.dic (putD kvs k d))), s) else none
  | _, _ => none
theorem s_putK (hu : X.A.units + 1 < cLine) (hN : X.N[i]? = some x) (hv : Vis X.env.scope x) (h1 : PE X a (trE X.K m1)) (h2 : PE X b (trE X.K m2)) (hd : (x == ("__debug__" : Str)) = false := by decide +kernel) (hcd : (x == ("__classdict__" : Str)) = false := by decide +kernel)
    (hs : swapsWith b (some (.Subscript (.Name x p) a apos)) pos.line X.env = pure false := by rfl) :
    PS X (.Assign [.Subscript (.Name x p) a apos] b pos) (trS X.K (sPutK i m1 m2)) := PS.imp (ps_dput hu (pe_var hN hv hd hcd) h1 h2 hs) fun Dn σ H ⟨g, e, s, f, e', s', R, E, hm, k⟩ => by
  obtain ⟨d, s1, q1, hm1⟩ := bndS_some hm
  obtain ⟨kd, s2, q2, hm2⟩ := bndS_some hm1
  split at hm2
  · rename_i kk kvs hk hi
    split at hm2
    · rename_i hl
      cases hm2
      obtain ⟨b0, w1, w2, w3, vs, w4, w5⟩ := E.own i _ hi
      refine ⟨g, e, s, d, s1, R, E, q1, fun z g1 H1 st1 rz => ⟨_, w1, g1, e, s1, kd, _, st1.rel, E.step st1, q2, fun y g2 H2 st2 ry => ?_⟩⟩
      have st := st1.trans st2
      have w6 := st.keep b0 _ w4 w3
      have w7 := w5.mono st.le
      have ey := rep_key ry hk
      subst ey
      exact ⟨b0, _, rfl, DPut.k w6 (by rw [w5.length]; exact hl), k g2 _ σ (own_set E st hi w1 fun g' L => ⟨_, upd_same, (w7.put (rz.mono st2.le)).mono L⟩)⟩
    · cases hm2
  · cases hm2
end
end Z
namespace Z
open PySem PySem.Spec PyProof.Rows L2
/-! ### isinstance -/
structure InsF (K : PySem.W.Frag) (c : Str) : Prop where
  cl : Cls K (He.ga K c)
  ha : PySem.W.findIn K (.ref (He.ga K c)) "__class__" = some (some (.builtin "object.__class__"))
  hn : PySem.W.specialIn K (.builtin "object.__class__") "__get__" = some (some (.builtin "getset_descriptor.__get__"))
  tk : PySem.W.takesIn K (.builtin "object.__class__") = some true
  mr : PySem.W.mroIn K (He.ga K c) (.type "object") = some true
def insB (K : PySem.W.Frag) (c : Str) : Bool := (He.Fa.cls c).ok K && (He.eqO (PySem.W.findIn K (.ref (He.ga K c)) "__class__") (some (some (.builtin "object.__class__"))) && (He.eqO (PySem.W.specialIn K (.builtin "object.__class__") "__get__") (some (some (.builtin "getset_descriptor.__get__"))) &&
  (decide (PySem.W.takesIn K (.builtin "object.__class__") = some true) && decide (PySem.W.mroIn K (He.ga K c) (.type "object") = some true))))
theorem insB_ok {K : PySem.W.Frag} {c : Str} (h : insB K c = true) : InsF K c := by
  obtain ⟨h1, h⟩ := He.ba h
  obtain ⟨h2, h⟩ := He.ba h
  obtain ⟨h3, h⟩ := He.ba h
  obtain ⟨h4, h5⟩ := He.ba h
  exact ⟨He.cls_ok h1, He.eqO_ok h2, He.eqO_ok h3, of_decide_eq_true h4, of_decide_eq_true h5⟩
def bTys : List String := ["NoneType", "bool", "int", "str", "tuple", "list", "dict"]
structure IsiF (K : PySem.W.Frag) (cs : List Str) (tys : List String) : Prop where
  ins : ∀ c ∈ cs, InsF K c
  oT : ∀ c ∈ cs, ∀ T ∈ tys, PySem.W.kitOne K (.ref (He.ga K c)) (.type T) = some false
  oO : ∀ c ∈ cs, ∀ C ∈ cs, PySem.W.kitOne K (.ref (He.ga K c)) (.ref (He.ga K C)) = some (decide (c = C))
  tO : ∀ t ∈ bTys, ∀ C ∈ cs, PySem.W.kitOne K (.type t) (.ref (He.ga K C)) = some false
def isiB (K : PySem.W.Frag) (cs : List Str) (tys : List String) : Bool := (cs.all fun c => insB K c) && ((cs.all fun c => tys.all fun T => decide (PySem.W.kitOne K (.ref (He.ga K c)) (.type T) = some false)) &&
  ((cs.all fun c => cs.all fun C => decide (PySem.W.kitOne K (.ref (He.ga K c)) (.ref (He.ga K C)) = some (decide (c = C)))) && (bTys.all fun t => cs.all fun C => decide (PySem.W.kitOne K (.type t) (.ref (He.ga K C)) = some false))))
theorem isiB_ok {K : PySem.W.Frag} {cs : List Str} {tys : List String} (h : isiB K cs tys = true) : IsiF K cs tys := by
  obtain ⟨h1, h⟩ := He.ba h
  obtain ⟨h2, h⟩ := He.ba h
  obtain ⟨h3, h4⟩ := He.ba h
  refine ⟨fun c hc => insB_ok (List.all_eq_true.mp h1 c hc), fun c hc T hT => of_decide_eq_true (List.all_eq_true.mp (List.all_eq_true.mp h2 c hc) T hT), fun c hc C hC => of_decide_eq_true (List.all_eq_true.mp (List.all_eq_true.mp h3 c hc) C hC), fun t ht C hC => of_decide_eq_true (List.all_eq_true.mp (List.all_eq_true.mp h4 t ht) C hC)⟩
def isiD (cs : List Str) (tys : List String) : List D → Option D
  | [.obj c _, .opq (.ty T)] => if c ∈ cs ∧ T ∈ tys then some (.bl false) else none
  | [.obj c _, .ty C] => if c ∈ cs ∧ C ∈ cs then some (.bl (decide (c = C))) else none
  | [d, .opq (.ty T)] => (tyD d).bind fun t => (kitB t T).map D.bl
  | [d, .ty C] => if C ∈ cs then (tyD d).map fun _ => .bl false else none
  | _ => none
section
variable {K : PySem.W.Frag} {cs : List Str} {tys : List String}
theorem tyD_mem {d : D} {t : String} (h : tyD d = some t) : t ∈ bTys := by
  cases d <;> simp only [tyD] at h <;> cases h <;> decide
theorem tyX_of {g : G} {H : Hp} {s : S} {v : V} {d : D} {t : String} (R : SRel K g H s) (r : Rep K g v d) (h : tyD d = some t) : TyX K H v (.type t) := by
  cases r with
  | non => cases h; exact .base .non
  | bl b => cases h; exact .base (.bl b)
  | int i => cases h; exact .base (.int i)
  | str x => cases h; exact .base (.str x)
  | tup q r =>
    cases h
    rcases sqT_H R q with (z | ⟨o, z⟩) | z
    · exact .base (.tup z)
    · exact .fTuple z
    · obtain ⟨o, its, n, q1, q2, _⟩ := z
      exact .kTuple q1 q2
  | lst q r =>
    cases h
    rcases rd_H R q with z | ⟨o, z⟩
    · exact .base (.lst z)
    · exact .base (.frz z)
  | dic q r =>
    cases h
    rcases rdK_H R q with z | ⟨o, z⟩
    · exact .base (.dK z)
    · exact .fDict z
  | obj q r => cases h
  | cel q => cases h
  | opq v => cases h
  | ty c => cases h
theorem isi_ok (F : IsiF K cs tys) : CallOk K (rIsi K) (isiD cs tys) := fun g H s xs ds d Q R r h k => by
  unfold isiD at h
  split at h
  · split at h
    · rename_i c fs T hc
      cases h
      cases r with
      | cons r1 r => cases r with
        | cons r2 r =>
          cases r
          cases r2
          cases r1 with
          | obj q rf =>
            have i := F.ins c hc.1
            exact ⟨_, _, _, _, false, rfl, .ty T, .base (.ins (ins_H R q) i.cl i.ha i.hn i.tk i.mr), F.oT c hc.1 T hc.2, k _ g H (.refl R) (.bl false)⟩
    · cases h
  · split at h
    · rename_i c fs C hc
      cases h
      cases r with
      | cons r1 r => cases r with
        | cons r2 r =>
          cases r
          cases r2
          cases r1 with
          | obj q rf =>
            have i := F.ins c hc.1
            exact ⟨_, _, _, _, _, rfl, .own _, .base (.ins (ins_H R q) i.cl i.ha i.hn i.tk i.mr), F.oO c hc.1 C hc.2, k _ g H (.refl R) (.bl _)⟩
    · cases h
  · rename_i d0 T _
    cases e : tyD d0 with
    | none => rw [e] at h; cases h
    | some t =>
      rw [e] at h
      dsimp only [Option.bind_some] at h
      cases e2 : kitB t T with
      | none => rw [e2] at h; cases h
      | some b =>
        rw [e2] at h
        cases h
        cases r with
        | cons r1 r => cases r with
          | cons r2 r =>
            cases r
            cases r2
            exact ⟨_, _, _, _, b, rfl, .ty T, tyX_of R r1 e, kit_ty e2, k _ g H (.refl R) (.bl b)⟩
  · split at h
    · rename_i d0 C _ hc
      cases e : tyD d0 with
      | none => rw [e] at h; cases h
      | some t =>
        rw [e] at h
        cases h
        cases r with
        | cons r1 r => cases r with
          | cons r2 r =>
            cases r
            cases r2
            exact ⟨_, _, _, _, false, rfl, .own _, tyX_of R r1 e, F.tO t (tyD_mem e) C hc, k _ g H (.refl R) (.bl false)⟩
    · cases h
  · cases h
end
section
variable {X : Cx} {x : Str} {p : Pos} {T : String}
/-- the name of a built-in type -/
theorem d_bty (hg : Gl X x) (hm : X.mg x = none) (hv : bootBuiltins x = some (.type T)) (hn : x ≠ "__name__" := by decide +kernel) (hdb : (x == ("__debug__" : Str)) = false := by decide +kernel) : PE X (.Name x p) (trE X.K (mC (.opq (.ty T)))) := ⟨fun pins s σ H Q I ⟨g, e, s0, d0, s', R, E, hm0, k⟩ => by
  cases hm0
  exact ld_blt I hg hm hv ⟨.ty T, H, I, rfl, k _ g H (.refl R) (.opq _)⟩ hn hdb⟩
end
end Z

set_option Elab.async false
set_option linter.all false
set_option maxRecDepth 100000
set_option maxHeartbeats 4000000
namespace Z
open PySem PySem.Spec PyProof.Rows L2
/-! ### one order for ints, texts and tuples of them -/
def encS : D → List Int
  | .int i => [0, i]
  | .str x => 1 :: (x.cps.toList.map Int.ofNat ++ [-1])
  | _ => [2]
def encD : D → List Int
  | .tup ds => ds.flatMap encS
  | d => encS d
def ltS (a b : D) : Bool := decide (encD a < encD b)
theorem swo_enc {α : Type} (f : α → List Int) : SrtO.Swo fun x y => decide (f x < f y) := by
  refine ⟨fun x y h => ?_, fun x y z h1 h2 => ?_⟩
  · have h := of_decide_eq_true h
    exact decide_eq_false (List.lt_asymm h)
  · have h1 := of_decide_eq_false h1
    have h2 := of_decide_eq_false h2
    refine decide_eq_false ?_
    rw [List.not_lt] at h1 h2 ⊢
    exact List.le_trans h1 h2
theorem enc_int (i j : Int) (r r' : List Int) : (encS (.int i) ++ r < encS (.int j) ++ r') ↔ (i < j ∨ (i = j ∧ r < r')) := by
  simp [encS, List.cons_lt_cons_iff]
theorem enc_cps : ∀ (xs ys : List Nat) (r r' : List Int), (xs.map Int.ofNat ++ (-1 :: r) < ys.map Int.ofNat ++ (-1 :: r')) ↔ (xs < ys ∨ (xs = ys ∧ r < r'))
  | [], [], r, r' => by simp [List.cons_lt_cons_iff]
  | [], y :: ys, r, r' => by
    simp only [List.map_nil, List.nil_append, List.map_cons, List.cons_append, List.cons_lt_cons_iff]
    constructor
    · intro _; exact .inl (List.nil_lt_cons _ _)
    · intro _; left; exact Int.lt_of_lt_of_le (by decide) (Int.natCast_nonneg y)
  | x :: xs, [], r, r' => by
    simp only [List.map_nil, List.nil_append, List.map_cons, List.cons_append, List.cons_lt_cons_iff]
    constructor
    · rintro (h | ⟨h, _⟩)
      · have := Int.natCast_nonneg x; exact absurd h (by show ¬ ((x : Int) < -1); omega)
      · have := Int.natCast_nonneg x; have h : (x : Int) = -1 := h; omega
    · rintro (h | ⟨h, _⟩)
      · exact absurd h (List.not_lt_nil _)
      · cases h
  | x :: xs, y :: ys, r, r' => by
    have ih := enc_cps xs ys r r'
    simp only [List.map_cons, List.cons_append, List.cons_lt_cons_iff, List.cons.injEq, ih]
    have e1 : (Int.ofNat x < Int.ofNat y) ↔ x < y := by show ((x : Int) < (y : Int)) ↔ _; omega
    have e2 : (Int.ofNat x = Int.ofNat y) ↔ x = y := by show ((x : Int) = (y : Int)) ↔ _; omega
    rw [e1, e2]
    constructor
    · rintro (h | ⟨h, h2 | ⟨h2, h3⟩⟩)
      · exact .inl (.inl h)
      · exact .inl (.inr ⟨h, h2⟩)
      · exact .inr ⟨⟨h, h2⟩, h3⟩
    · rintro ((h | ⟨h, h2⟩) | ⟨⟨h, h2⟩, h3⟩)
      · exact .inl h
      · exact .inr ⟨h, .inl h2⟩
      · exact .inr ⟨h, .inr ⟨h2, h3⟩⟩
theorem str_cps {x y : Str} : x.cps.toList = y.cps.toList ↔ x = y := by
  constructor
  · intro h
    cases x; cases y
    simp only at h
    rw [Array.toList_inj.mp h]
  · rintro rfl; rfl
theorem enc_str (x y : Str) (r r' : List Int) : (encS (.str x) ++ r < encS (.str y) ++ r') ↔ (x.cps.toList < y.cps.toList ∨ (x = y ∧ r < r')) := by
  have := enc_cps x.cps.toList y.cps.toList r r'
  simp only [encS, List.cons_append, List.append_assoc, List.cons_lt_cons_iff, Int.lt_irrefl, false_or, true_and, List.nil_append]
  rw [this, str_cps]
/-! ### which lists may be sorted -/
/-- 0: an int, 1: a text -/
def kS : D → Option Nat
  | .int _ => some 0
  | .str _ => some 1
  | _ => none
def kD : D → Option (List Nat)
  | .tup ds => ds.mapM kS
  | _ => none
theorem mapM_cons_some {α β : Type} {f : α → Option β} {a : α} {l : List α} {r : List β} (h : (a :: l).mapM f = some r) : ∃ b bs, f a = some b ∧ l.mapM f = some bs ∧ r = b :: bs := by
  rw [List.mapM_cons] at h
  cases e : f a with
  | none => rw [e] at h; cases h
  | some b =>
    rw [e] at h
    cases e2 : l.mapM f with
    | none => rw [e2] at h; cases h
    | some bs => rw [e2] at h; cases h; exact ⟨b, bs, rfl, rfl, rfl⟩
/-- a sign list that stands for an item's kind: ints [], texts [] are told by one kind each -/
def sameK : List D → Bool
  | [] => true
  | d :: ds => match d with
    | .int _ => ds.all fun e => match e with | .int _ => true | _ => false
    | .str _ => ds.all fun e => match e with | .str _ => true | _ => false
    | .tup _ => match kD d with
      | some (k :: ks) => ds.all fun e => decide (kD e = some (k :: ks))
      | _ => false
    | _ => false
def sortL (ds : List D) : List D := ds.mergeSort fun a b => !ltS b a
def sortedD : List D → Option D
  | [.lst ds] => if sameK ds then some (.lst (sortL ds)) else none
  | _ => none
/-! ### there is one sorted list -/
theorem perm_srtd_eq {α : Type} {lt : α → α → Bool} (O : SrtO.Swo lt) : ∀ {l m : List α}, l.Perm m → SrtO.Srtd lt l → SrtO.Srtd lt m → (∀ x ∈ l, ∀ y ∈ l, lt x y = false → lt y x = false → x = y) → l = m
  | [], m, p, _, _, _ => p.nil_eq
  | x :: l, [], p, _, _, _ => absurd p.length_eq (by simp)
  | x :: l, y :: m, p, hl, hm, hx => by
    have hy : y ∈ x :: l := p.mem_iff.mpr List.mem_cons_self
    have e : x = y := by
      refine hx x List.mem_cons_self y hy ?_ ?_
      · rcases List.mem_cons.mp (p.mem_iff.mp (List.mem_cons_self (a := x) (l := l))) with e | h
        · rw [e]; exact O.refl y
        · exact (List.pairwise_cons.mp hm).1 x h
      · rcases List.mem_cons.mp hy with e | h
        · rw [e]; exact O.refl x
        · exact (List.pairwise_cons.mp hl).1 y h
    subst e
    rw [perm_srtd_eq O p.cons_inv (List.pairwise_cons.mp hl).2 (List.pairwise_cons.mp hm).2 fun a ha b hb => hx a (List.mem_cons_of_mem _ ha) b (List.mem_cons_of_mem _ hb)]
theorem ltS_swo : SrtO.Swo ltS := swo_enc encD
theorem sortL_perm (ds : List D) : (sortL ds).Perm ds := List.mergeSort_perm ds _
theorem sortL_srtd (ds : List D) : SrtO.Srtd ltS (sortL ds) := by
  have h := List.pairwise_mergeSort (le := fun a b => !ltS b a) (fun a b c h1 h2 => ?_) (fun a b => ?_) ds
  · exact h.imp fun {a b} h => by simpa using h
  · have h1 : ltS b a = false := by simpa using h1
    have h2 : ltS c b = false := by simpa using h2
    simp [ltS_swo.tr _ _ _ h1 h2]
  · cases q : ltS b a with
    | false => simp
    | true => simp [ltS_swo.asym _ _ q]
theorem sortL_eq {ds es : List D} (p : es.Perm ds) (h : SrtO.Srtd ltS es) (hx : ∀ x ∈ ds, ∀ y ∈ ds, ltS x y = false → ltS y x = false → x = y) : sortL ds = es :=
  perm_srtd_eq ltS_swo ((sortL_perm ds).trans p.symm) (sortL_srtd ds) h fun x hx' y hy' => hx x ((sortL_perm ds).mem_iff.mp hx') y ((sortL_perm ds).mem_iff.mp hy')
theorem lt_int {i j : Int} : ltS (.int i) (.int j) = decide (i < j) := by
  unfold ltS
  have := enc_int i j [] []
  simp only [List.append_nil] at this
  show decide (encS (.int i) < encS (.int j)) = _
  rw [decide_eq_decide, this]
  simp
theorem lt_str {x y : Str} : ltS (.str x) (.str y) = decide (x.cps.toList < y.cps.toList) := by
  unfold ltS
  have := enc_str x y [] []
  simp only [List.append_nil] at this
  show decide (encS (.str x) < encS (.str y)) = _
  rw [decide_eq_decide, this]
  simp
theorem nlt_eq {xs ys : List Nat} (h1 : ¬ xs < ys) (h2 : ¬ ys < xs) : xs = ys := List.le_antisymm (List.not_lt.mp h2) (List.not_lt.mp h1)
theorem mapM_len {α β : Type} {f : α → Option β} : ∀ {l : List α} {r : List β}, l.mapM f = some r → l.length = r.length
  | [], r, h => by cases h; rfl
  | a :: l, r, h => by
    obtain ⟨b, bs, _, h2, rfl⟩ := mapM_cons_some h
    simp [mapM_len h2]
/-- items of one kind that are not told apart are equal -/
theorem enc_inj : ∀ (ks : List Nat) {ds es : List D} , ds.mapM kS = some ks → es.mapM kS = some ks → ¬ (ds.flatMap encS < es.flatMap encS) → ¬ (es.flatMap encS < ds.flatMap encS) → ds = es := by
  intro ks
  induction ks with
  | nil =>
    intro ds es h1 h2 _ _
    cases ds with
    | cons d ds => obtain ⟨_, _, _, _, e⟩ := mapM_cons_some h1; cases e
    | nil => cases es with
      | nil => rfl
      | cons d ds => obtain ⟨_, _, _, _, e⟩ := mapM_cons_some h2; cases e
  | cons k ks ih =>
    intro ds es h1 h2 n1 n2
    cases ds with
    | nil => cases h1
    | cons d ds => cases es with
      | nil => cases h2
      | cons e es =>
        obtain ⟨k1, ks1, a1, a2, a3⟩ := mapM_cons_some h1
        obtain ⟨k2, ks2, b1, b2, b3⟩ := mapM_cons_some h2
        cases a3; cases b3
        simp only [List.flatMap_cons] at n1 n2
        cases d <;> simp only [kS] at a1 <;> cases a1 <;> cases e <;> simp only [kS] at b1 <;> cases b1
        · rw [enc_int] at n1 n2
          rename_i i j
          have : i = j := by omega
          subst this
          simp only [Int.lt_irrefl, true_and, false_or] at n1 n2
          rw [ih a2 b2 n1 n2]
        · rw [enc_str] at n1 n2
          rename_i x y
          have : x = y := str_cps.mp (nlt_eq (fun h => n1 (.inl h)) (fun h => n2 (.inl h)))
          subst this
          have irr : ¬ x.cps.toList < x.cps.toList := List.lt_irrefl _
          simp only [irr, true_and, false_or] at n1 n2
          rw [ih a2 b2 n1 n2]
/-! ### the compare of two tuples -/
def scV : Value → D
  | .int i _ => .int i
  | .str x _ => .str x
  | _ => .non
def keyV (h : Heap) : Value → List D
  | .ref a => match h.get? a with
    | some o => match o.data with
      | .seq its _ => its.toList.map scV
      | _ => []
    | none => []
  | _ => []
section
variable {prog : Program} {w : World} {A : Around} {s : Shared}
theorem kat_enc : ∀ (ks : List Nat) (xs ys : List Value) (i : Nat) (Q : Bool → Shared → Prop), (xs.map scV).mapM kS = some ks → (ys.map scV).mapM kS = some ks → Q (decide ((xs.map scV).flatMap encS < (ys.map scV).flatMap encS)) s →
    PySem.W.KatLex prog w A true false Q (xs.zip ys) i s := by
  intro ks
  induction ks with
  | nil =>
    intro xs ys i Q h1 h2 h
    cases xs with
    | cons d ds => obtain ⟨_, _, _, _, e⟩ := mapM_cons_some h1; cases e
    | nil => cases ys with
      | cons d ds => obtain ⟨_, _, _, _, e⟩ := mapM_cons_some h2; cases e
      | nil =>
        refine PySem.W.kat_nil ?_
        have : ¬ (([] : List Int) < []) := List.lt_irrefl _
        simpa [this] using h
  | cons k ks ih =>
    intro xs ys i Q h1 h2 h
    cases xs with
    | nil => cases h1
    | cons x xs => cases ys with
      | nil => cases h2
      | cons y ys =>
        obtain ⟨k1, ks1, a1, a2, a3⟩ := mapM_cons_some h1
        obtain ⟨k2, ks2, b1, b2, b3⟩ := mapM_cons_some h2
        cases a3; cases b3
        rw [List.map_cons, List.map_cons, List.flatMap_cons, List.flatMap_cons] at h
        cases x <;> simp only [scV, kS] at a1 <;> cases a1 <;> cases y <;> simp only [scV, kS] at b1 <;> cases b1
        · rename_i m t n u
          simp only [scV, enc_int] at h
          refine PySem.W.kat_cons (SeqAt.EqAt.int_int m t n u prog w _ _ ?_)
          refine PySem.W.kat_go (fun e => ?_) (fun e => ?_)
          · have e : m = n := by simpa using e
            subst e
            refine PySem.W.kat_yes (ih xs ys (i + 1) Q a2 b2 ?_)
            simpa using h
          · have e : ¬ m = n := by simpa using e
            refine PySem.W.kat_no ?_
            have h : Q (decide (m < n)) s := by simpa [e] using h
            cases hb : (true && i == 0)
            · exact PySem.W.kat_one _ _ (PyProof.Rows.lt_int h)
            · exact oneLt_int h
        · rename_i m t n u
          simp only [scV, enc_str] at h
          refine PySem.W.kat_cons (SeqAt.EqAt.str_str m t n u prog w _ _ ?_)
          refine PySem.W.kat_go (fun e => ?_) (fun e => ?_)
          · have e : m = n := by simpa using e
            subst e
            refine PySem.W.kat_yes (ih xs ys (i + 1) Q a2 b2 ?_)
            have irr : ¬ m.cps.toList < m.cps.toList := List.lt_irrefl _
            simpa [irr] using h
          · have e : ¬ m = n := by simpa using e
            refine PySem.W.kat_no ?_
            have h : Q (decide (m.cps.toList < n.cps.toList)) s := by simpa [e] using h
            cases hb : (true && i == 0)
            · exact PySem.W.kat_one _ _ (PySem.P.lt_str h)
            · exact oneLt_str h
end
end Z
namespace Z
open PySem PySem.Spec PyProof.Rows L2
def keyZ (h : Heap) (v : Value) : D := match v with
  | .int i _ => .int i
  | .str x _ => .str x
  | v => .tup (keyV h v)
section
variable {X : Cx} {pins : List (Addr × Obj)} {σ : L2.St} {H : Hp} {s : Shared} {g : G} {s0 : S}
theorem scs_of : ∀ {xs : List V} {its : List Value} {ds : List D} {ks : List Nat}, Vals xs its → RepL X.K g xs ds → ds.mapM kS = some ks → its.map scV = ds
  | _, _, _, _, .nil, .nil, _ => rfl
  | _, _, _, _, .cons r t, .cons q u, h => by
    obtain ⟨k1, ks1, a1, a2, a3⟩ := mapM_cons_some h
    rw [List.map_cons, scs_of t u a2]
    congr 1
    cases q <;> simp only [kS] at a1 <;> cases a1
    · obtain ⟨t, rfl⟩ := r; rfl
    · obtain ⟨t, rfl⟩ := r; rfl
theorem keyZ_of (I : Inv X pins σ H s) (R : SRel X.K g H s0) {x : V} {v : Value} {d : D} (rv : RelV x v) (r : Rep X.K g x d) (h : (∃ i, d = .int i) ∨ (∃ z, d = .str z) ∨ ∃ ks, kD d = some ks) : keyZ s.heap v = d := by
  rcases h with ⟨i, rfl⟩ | ⟨z, rfl⟩ | ⟨ks, h⟩
  · cases r; obtain ⟨t, rfl⟩ := rv; rfl
  · cases r; obtain ⟨t, rfl⟩ := rv; rfl
  · cases r <;> simp only [kD] at h <;> try cases h
    rename_i a vs ds q r
    obtain rfl : v = Value.ref a := rv
    obtain ⟨its, r2, ⟨o, ho, hc, n, hd⟩, _⟩ := I.tuple (sqT_H R q)
    show D.tup (keyV s.heap (.ref a)) = _
    unfold keyV
    simp only [ho, hd]
    rw [scs_of r2 r h]
/-- what an item is, at any heap that keeps the tuples -/
structure Itm (h : Heap) (v : Value) (d : D) : Prop where
  sc : (∃ i t, v = .int i t ∧ d = .int i) ∨ (∃ z t, v = .str z t ∧ d = .str z) ∨ ∃ a o its n ds ks, v = .ref a ∧ h.get? a = some o ∧ o.cls = .type "tuple" ∧ o.data = .seq its n ∧ its.toList.map scV = ds ∧ d = .tup ds ∧ ds.mapM kS = some ks
theorem itm_of (I : Inv X pins σ H s) (R : SRel X.K g H s0) {x : V} {v : Value} {d : D} (rv : RelV x v) (r : Rep X.K g x d) (h : (∃ i, d = .int i) ∨ (∃ z, d = .str z) ∨ ∃ ks, kD d = some ks) : Itm s.heap v d := by
  refine ⟨?_⟩
  rcases h with ⟨i, rfl⟩ | ⟨z, rfl⟩ | ⟨ks, h⟩
  · cases r; obtain ⟨t, rfl⟩ := rv; exact .inl ⟨_, t, rfl, rfl⟩
  · cases r; obtain ⟨t, rfl⟩ := rv; exact .inr (.inl ⟨_, t, rfl, rfl⟩)
  · cases r <;> simp only [kD] at h <;> try cases h
    rename_i a vs ds q r
    obtain rfl : v = Value.ref a := rv
    obtain ⟨its, r2, ⟨o, ho, hc, n, hd⟩, _⟩ := I.tuple (sqT_H R q)
    exact .inr (.inr ⟨a, o, its.toArray, n, ds, ks, rfl, ho, hc, hd, by rw [List.toList_toArray]; exact scs_of r2 r h, rfl, h⟩)
theorem Itm.keep {h h' : Heap} {v : Value} {d : D} (i : Itm h v d) (k : ∀ b o, h.get? b = some o → o.cls = .type "tuple" → h'.get? b = some o) : Itm h' v d := by
  refine ⟨?_⟩
  rcases i.sc with z | z | ⟨a, o, its, n, ds, ks, e1, e2, e3, e4⟩
  · exact .inl z
  · exact .inr (.inl z)
  · exact .inr (.inr ⟨a, o, its, n, ds, ks, e1, k _ _ e2 e3, e3, e4⟩)
theorem Itm.key {h : Heap} {v : Value} {d : D} (i : Itm h v d) : keyZ h v = d := by
  rcases i.sc with ⟨i, t, rfl, rfl⟩ | ⟨z, t, rfl, rfl⟩ | ⟨a, o, its, n, ds, ks, rfl, e2, e3, e4, e5, rfl, e6⟩
  · rfl
  · rfl
  · show D.tup (keyV h (.ref a)) = _
    unfold keyV
    simp only [e2, e4, e5]
end
inductive Itms (h : Heap) : List Value → List D → Prop
  | nil : Itms h [] []
  | cons {v d vs ds} : Itm h v d → Itms h vs ds → Itms h (v :: vs) (d :: ds)
theorem Itms.keep {h h' : Heap} (k : ∀ b o, h.get? b = some o → o.cls = .type "tuple" → h'.get? b = some o) : ∀ {vs ds}, Itms h vs ds → Itms h' vs ds
  | _, _, .nil => .nil
  | _, _, .cons i r => .cons (i.keep k) (Itms.keep k r)
theorem Itms.keys {h : Heap} : ∀ {vs ds}, Itms h vs ds → vs.map (keyZ h) = ds
  | _, _, .nil => rfl
  | _, _, .cons i r => by rw [List.map_cons, i.key, Itms.keys r]
theorem Itms.mem {h : Heap} : ∀ {vs ds} {v : Value}, Itms h vs ds → v ∈ vs → ∃ d ∈ ds, Itm h v d
  | _, _, v, .cons (d := d) i r, m => by
    rcases List.mem_cons.mp m with e | m
    · subst e; exact ⟨d, List.mem_cons_self, i⟩
    · obtain ⟨d', q, j⟩ := Itms.mem r m
      exact ⟨d', List.mem_cons_of_mem _ q, j⟩
/-- one kind of items -/
inductive OneK : List D → Prop
  | kInts (ns : List Int) : OneK (ns.map D.int)
  | kStrs (xs : List Str) : OneK (xs.map D.str)
  | kTups (ds : List D) (k : Nat) (ks : List Nat) (h : ∀ d ∈ ds, kD d = some (k :: ks)) : OneK ds
theorem all_ints : ∀ {ds : List D}, (ds.all fun e => match e with | .int _ => true | _ => false) = true → ∃ ns : List Int, ds = ns.map D.int
  | [], _ => ⟨[], rfl⟩
  | d :: ds, h => by
    rw [List.all_cons, Bool.and_eq_true] at h
    obtain ⟨ns, e⟩ := all_ints h.2
    cases d <;> simp at h
    exact ⟨_ :: ns, by rw [List.map_cons, e]⟩
theorem all_strs : ∀ {ds : List D}, (ds.all fun e => match e with | .str _ => true | _ => false) = true → ∃ ns : List Str, ds = ns.map D.str
  | [], _ => ⟨[], rfl⟩
  | d :: ds, h => by
    rw [List.all_cons, Bool.and_eq_true] at h
    obtain ⟨ns, e⟩ := all_strs h.2
    cases d <;> simp at h
    exact ⟨_ :: ns, by rw [List.map_cons, e]⟩
theorem sameK_one {ds : List D} (h : sameK ds = true) : OneK ds := by
  unfold sameK at h
  split at h
  · exact .kInts []
  · split at h
    · obtain ⟨ns, e⟩ := all_ints h
      rename_i i
      rw [e]
      exact .kInts (i :: ns)
    · obtain ⟨ns, e⟩ := all_strs h
      rename_i x
      rw [e]
      exact .kStrs (x :: ns)
    · split at h
      · rename_i k ks hk
        refine .kTups _ k ks fun d hd => ?_
        rcases List.mem_cons.mp hd with e | hd
        · rw [e]; exact hk
        · exact of_decide_eq_true (List.all_eq_true.mp h d hd)
      · cases h
    · cases h
theorem OneK.sc {ds : List D} (h : OneK ds) : ∀ d ∈ ds, (∃ i, d = .int i) ∨ (∃ z, d = .str z) ∨ ∃ ks, kD d = some ks := fun d hd => by
  cases h with
  | kInts ns => obtain ⟨i, _, e⟩ := List.mem_map.mp hd; exact .inl ⟨i, e.symm⟩
  | kStrs xs => obtain ⟨i, _, e⟩ := List.mem_map.mp hd; exact .inr (.inl ⟨i, e.symm⟩)
  | kTups _ k ks h => exact .inr (.inr ⟨_, h d hd⟩)
theorem kD_tup {d : D} {ks : List Nat} (h : kD d = some ks) : ∃ ds, d = .tup ds ∧ ds.mapM kS = some ks := by
  cases d <;> simp only [kD] at h <;> try cases h
  exact ⟨_, rfl, h⟩
theorem OneK.inj {ds : List D} (h : OneK ds) : ∀ x ∈ ds, ∀ y ∈ ds, ltS x y = false → ltS y x = false → x = y := fun x hx y hy h1 h2 => by
  cases h with
  | kInts ns =>
    obtain ⟨i, _, rfl⟩ := List.mem_map.mp hx
    obtain ⟨j, _, rfl⟩ := List.mem_map.mp hy
    rw [lt_int] at h1 h2
    have h1 := of_decide_eq_false h1
    have h2 := of_decide_eq_false h2
    rw [show i = j by omega]
  | kStrs xs =>
    obtain ⟨i, _, rfl⟩ := List.mem_map.mp hx
    obtain ⟨j, _, rfl⟩ := List.mem_map.mp hy
    rw [lt_str] at h1 h2
    rw [str_cps.mp (nlt_eq (of_decide_eq_false h1) (of_decide_eq_false h2))]
  | kTups _ k ks h =>
    obtain ⟨xs, rfl, a1⟩ := kD_tup (h x hx)
    obtain ⟨ys, rfl, b1⟩ := kD_tup (h y hy)
    rw [enc_inj (k :: ks) a1 b1 (of_decide_eq_false h1) (of_decide_eq_false h2)]
theorem itms_ints {h : Heap} : ∀ {vs : List Value} {ns : List Int}, Itms h vs (ns.map D.int) → IntsAre vs ns
  | _, [], .nil => .nil
  | _, n :: ns, .cons i r => by
    rcases i.sc with ⟨i, t, rfl, e⟩ | ⟨z, t, rfl, e⟩ | ⟨a, o, its, m, ds, ks, rfl, e2, e3, e4, e5, e, e6⟩ <;> cases e
    exact .cons _ _ (itms_ints r)
theorem itms_strs {h : Heap} : ∀ {vs : List Value} {ns : List Str}, Itms h vs (ns.map D.str) → StrsAre vs ns
  | _, [], .nil => .nil
  | _, n :: ns, .cons i r => by
    rcases i.sc with ⟨i, t, rfl, e⟩ | ⟨z, t, rfl, e⟩ | ⟨a, o, its, m, ds, ks, rfl, e2, e3, e4, e5, e, e6⟩ <;> cases e
    exact .cons _ _ (itms_strs r)
theorem itms_tups {h : Heap} {k : Nat} {ks : List Nat} : ∀ {vs : List Value} {ds : List D}, Itms h vs ds → (∀ d ∈ ds, kD d = some (k :: ks)) → ∃ fs, PySem.W.KatTups h vs fs ∧ fs.length = vs.length ∧ ∀ f ∈ fs, kS (scV f) = some k
  | _, _, .nil, _ => ⟨[], .nil, rfl, fun f hf => by cases hf⟩
  | _, _, .cons i r, hk => by
    obtain ⟨fs, h1, h2, h3⟩ := itms_tups r fun d hd => hk d (List.mem_cons_of_mem _ hd)
    have q := hk _ List.mem_cons_self
    rcases i.sc with ⟨i, t, rfl, e⟩ | ⟨z, t, rfl, e⟩ | ⟨a, o, its, m, ds, ks', rfl, e2, e3, e4, e5, e, e6⟩
    · subst e; cases q
    · subst e; cases q
    · subst e
      have q : ds.mapM kS = some (k :: ks) := q
      cases ds with
      | nil => cases q
      | cons d0 ds0 =>
        obtain ⟨k1, ks1, a1, a2, a3⟩ := mapM_cons_some q
        cases a3
        obtain ⟨f, rest, hf⟩ : ∃ f rest, its.toList = f :: rest := by
          cases hq : its.toList with
          | nil => rw [hq] at e5; cases e5
          | cons f rest => exact ⟨f, rest, rfl⟩
        rw [hf, List.map_cons] at e5
        have hfd : scV f = d0 := (List.cons.inj e5).1
        refine ⟨f :: fs, .cons e2 e3 e4 ?_ h1, by simp [h2], fun f' hf' => ?_⟩
        · rw [← Array.getElem?_toList, hf]; rfl
        · rcases List.mem_cons.mp hf' with z | z
          · subst z; rw [hfd]; exact a1
          · exact h3 f' z
section
variable {prog : Program} {w : World} {A : Around} {s : Shared}
theorem cmp_Z {vs : List Value} {ds : List D} (O : OneK ds) (T : Itms s.heap vs ds) (hne : 2 ≤ vs.length) : ∃ κ, (∀ (Q : SortKind → Shared → Prop) (E : Value → Shared → Prop), Q κ s → wpAny (model prog w) A (keyKind' vs.toArray) Q E s) ∧
    SrtO.Cmp prog w A s κ (fun p => p.1 ∈ vs) (SrtO.lt2 fun v u => ltS (keyZ s.heap v) (keyZ s.heap u)) := by
  cases O with
  | kInts ns =>
    have hI := itms_ints T
    refine ⟨oneType', fun Q E hq => ?_, fun p q hp hq => ?_⟩
    · match vs, hI, hne with
      | v1 :: v2 :: rest, hI, _ =>
        rw [keyKind_ints hI]
        exact wpAny_pure hq
    · obtain ⟨d1, m1, i1⟩ := T.mem hp
      obtain ⟨d2, m2, i2⟩ := T.mem hq
      obtain ⟨a, _, rfl⟩ := List.mem_map.mp m1
      obtain ⟨b, _, rfl⟩ := List.mem_map.mp m2
      show wpAny _ _ _ (fun r s' => s' = s ∧ r = ltS (keyZ s.heap p.1) (keyZ s.heap q.1)) _ _
      rw [i1.key, i2.key, lt_int]
      rcases i1.sc with ⟨i, t, e1, e⟩ | ⟨z, t, _, e⟩ | ⟨_, o, its, m, ds, ks, _, e2, e3, e4, e5, e, e6⟩ <;> cases e
      rcases i2.sc with ⟨i, t, e2, e⟩ | ⟨z, t, _, e⟩ | ⟨_, o, its, m, ds, ks, _, e2, e3, e4, e5, e, e6⟩ <;> cases e
      rw [e1, e2, keyLt'_oneType]
      exact oneLt_int ⟨rfl, rfl⟩
  | kStrs xs =>
    have hI := itms_strs T
    refine ⟨oneType', fun Q E hq => ?_, fun p q hp hq => ?_⟩
    · match vs, hI, hne with
      | v1 :: v2 :: rest, hI, _ =>
        rw [keyKind_strs hI]
        exact wpAny_pure hq
    · obtain ⟨d1, m1, i1⟩ := T.mem hp
      obtain ⟨d2, m2, i2⟩ := T.mem hq
      obtain ⟨a, _, rfl⟩ := List.mem_map.mp m1
      obtain ⟨b, _, rfl⟩ := List.mem_map.mp m2
      show wpAny _ _ _ (fun r s' => s' = s ∧ r = ltS (keyZ s.heap p.1) (keyZ s.heap q.1)) _ _
      rw [i1.key, i2.key, lt_str]
      rcases i1.sc with ⟨i, t, _, e⟩ | ⟨z, t, e1, e⟩ | ⟨_, o, its, m, ds, ks, _, e2, e3, e4, e5, e, e6⟩ <;> cases e
      rcases i2.sc with ⟨i, t, _, e⟩ | ⟨z, t, e2, e⟩ | ⟨_, o, its, m, ds, ks, _, e2, e3, e4, e5, e, e6⟩ <;> cases e
      rw [e1, e2, keyLt'_oneType]
      exact oneLt_str ⟨rfl, rfl⟩
  | kTups _ k ks hk =>
    obtain ⟨fs, h1, h2, h3⟩ := itms_tups T hk
    refine ⟨tuples' true, fun Q E hq => ?_, fun p q hp hq => ?_⟩
    · have hl : 0 < fs.length := by omega
      have hk01 : (k = 0 ∧ ∀ f ∈ fs, ∃ i t, f = Value.int i t) ∨ (k = 1 ∧ ∀ f ∈ fs, ∃ i t, f = Value.str i t) := by
        obtain ⟨f, r, e⟩ : ∃ f r, fs = f :: r := by
          cases fs with
          | nil => simp at hl
          | cons f r => exact ⟨f, r, rfl⟩
        have q0 := h3 f (by rw [e]; exact List.mem_cons_self)
        have hk' : k = 0 ∨ k = 1 := by
          cases f <;> simp only [scV, kS] at q0 <;> cases q0
          · exact .inl rfl
          · exact .inr rfl
        rcases hk' with rfl | rfl
        · refine .inl ⟨rfl, fun f hf => ?_⟩
          have q := h3 f hf
          cases f <;> simp only [scV, kS] at q <;> cases q
          exact ⟨_, _, rfl⟩
        · refine .inr ⟨rfl, fun f hf => ?_⟩
          have q := h3 f hf
          cases f <;> simp only [scV, kS] at q <;> cases q
          exact ⟨_, _, rfl⟩
      rcases hk01 with ⟨_, hf⟩ | ⟨_, hf⟩
      · refine PySem.W.kat_kind (T := .type "int") h1 hl (fun f hm => ?_) (by rfl) ?_
        · obtain ⟨x, t, rfl⟩ := hf f hm
          exact PySem.W.Looks.now
        · have e : (Value.type "int" != Value.type "tuple") = true := by first | decide +kernel | rfl | decide
          rw [e]
          exact hq
      · refine PySem.W.kat_kind (T := .type "str") h1 hl (fun f hm => ?_) (by rfl) ?_
        · obtain ⟨x, t, rfl⟩ := hf f hm
          exact PySem.W.Looks.now
        · have e : (Value.type "str" != Value.type "tuple") = true := by first | decide +kernel | rfl | decide
          rw [e]
          exact hq
    · obtain ⟨d1, m1, i1⟩ := T.mem hp
      obtain ⟨d2, m2, i2⟩ := T.mem hq
      have k1 := hk d1 m1
      have k2 := hk d2 m2
      show wpAny _ _ _ (fun r s' => s' = s ∧ r = ltS (keyZ s.heap p.1) (keyZ s.heap q.1)) _ _
      rw [i1.key, i2.key]
      rcases i1.sc with ⟨i, t, _, e⟩ | ⟨z, t, _, e⟩ | ⟨a1, o1, its1, n1, ds1, ks1, ev1, g1, c1, t1, e1, e, y1⟩ <;> try (subst e; cases k1)
      rcases i2.sc with ⟨i, t, _, e'⟩ | ⟨z, t, _, e'⟩ | ⟨a2, o2, its2, n2, ds2, ks2, ev2, g2, c2, t2, e2, e', y2⟩ <;> try (subst e'; cases k2)
      subst e e'
      have k1 : ds1.mapM kS = some (k :: ks) := k1
      have k2 : ds2.mapM kS = some (k :: ks) := k2
      have l1 : ds1.length = (k :: ks).length := mapM_len k1
      have l2 : ds2.length = (k :: ks).length := mapM_len k2
      rw [ev1, ev2]
      refine PySem.W.kat_lt g1 t1 g2 t2 ?_
      have sz : decide (its1.size < its2.size) = false := by
        have a : its1.size = ds1.length := by rw [← e1, List.length_map, Array.length_toList]
        have b : its2.size = ds2.length := by rw [← e2, List.length_map, Array.length_toList]
        rw [a, b, l1, l2]; simp
      rw [sz]
      refine kat_enc (k :: ks) _ _ 0 _ (by rw [e1]; exact k1) (by rw [e2]; exact k2) ⟨rfl, ?_⟩
      rw [e1, e2]
      rfl
end
end Z
namespace Z
open PySem PySem.Spec PyProof.Rows L2
section
variable {X : Cx} {pins : List (Addr × Obj)} {σ : L2.St} {H : Hp} {s : Shared} {g : G} {s0 : S}
theorem itms_of (I : Inv X pins σ H s) (R : SRel X.K g H s0) : ∀ {xs : List V} {vs : List Value} {ds : List D}, Vals xs vs → RepL X.K g xs ds → (∀ d ∈ ds, (∃ i, d = .int i) ∨ (∃ z, d = .str z) ∨ ∃ ks, kD d = some ks) → Itms s.heap vs ds
  | _, _, _, .nil, .nil, _ => .nil
  | _, _, _, .cons r t, .cons q u, h => .cons (itm_of I R r q (h _ List.mem_cons_self)) (itms_of I R t u fun d hd => h d (List.mem_cons_of_mem _ hd))
/-- what comes out of a sort is again values -/
theorem back_of (I : Inv X pins σ H s) (R : SRel X.K g H s0) {xs : List V} {vs : List Value} {ds : List D} (rv : Vals xs vs) (r : RepL X.K g xs ds) (hd : ∀ d ∈ ds, (∃ i, d = .int i) ∨ (∃ z, d = .str z) ∨ ∃ ks, kD d = some ks) :
    ∀ out : List Value, (∀ v ∈ out, v ∈ vs) → ∃ ys, Vals ys out ∧ RepL X.K g ys (out.map (keyZ s.heap))
  | [], _ => ⟨[], .nil, .nil⟩
  | v :: out, h => by
    obtain ⟨ys, h1, h2⟩ := back_of I R rv r hd out fun u hu => h u (List.mem_cons_of_mem _ hu)
    obtain ⟨i, hi⟩ := List.mem_iff_getElem?.mp (h v List.mem_cons_self)
    have hl : i < xs.length := by rw [rv.length]; exact (List.getElem?_eq_some_iff.mp hi).1
    obtain ⟨u, hu, ru⟩ := rv.get (List.getElem?_eq_getElem hl)
    rw [hi] at hu; cases hu
    obtain ⟨d, q1, q2⟩ := r.getV (List.getElem?_eq_getElem hl)
    refine ⟨xs[i] :: ys, .cons ru h1, ?_⟩
    rw [List.map_cons, keyZ_of I R ru q2 (hd d (List.mem_iff_getElem?.mpr ⟨i, q1⟩))]
    exact .cons q2 h2
theorem cr_sortZ : CallR X (.builtin "sorted") (rF X.K fun ds s => lft (sortedD ds) s) := fun pins s σ H xs us Q I r h => by
  obtain ⟨g, s0, ds, d, s', R, rl, hm, k⟩ := h
  obtain ⟨h4, h5⟩ := lft_some hm
  dsimp only at h4 h5
  subst h5
  unfold sortedD at h4
  split at h4
  · rename_i es
    split at h4
    · rename_i hk
      cases h4
      cases rl with
      | cons r1 rl =>
        cases rl
        cases r1 with
        | @lst a vs _ q rr =>
          obtain ⟨its, rv, hl, hz⟩ := I.list (.inl (rd_H R q))
          rw [Vals.ref1 r]
          have O := sameK_one hk
          have T := itms_of I R rv rr O.sc
          have hlen := rv.length
          refine SrtO.sorted_ord (ltv := fun v u => ltS (keyZ s.heap v) (keyZ s.heap u)) ⟨fun x y => ltS_swo.asym _ _, fun x y z => ltS_swo.tr _ _ _⟩ hl.isList (by rw [← hlen]; exact hz) (fun h2 h1 a' ha kk => ?_) fun out o1 o2 => ?_
          · intro h' keep
            have hT' : Itms h' its es := (T.keep (h' := h1) fun b o e _ => (kk b o e).2).keep fun b o e c => keep b o (fun z => by
              subst z
              have e' : some o = some (seqObj "list" its.toArray 0) := e.symm.trans ha
              cases e'
              exact absurd (Value.type.inj c) (by decide)) e
            obtain ⟨κ, hκ, hC⟩ := cmp_Z (prog := X.prog) (w := X.w) (A := X.A.in1.in1) (s := { s with heap := h' }) O hT' h2
            refine ⟨κ, hκ, fun p q hp hq => ?_⟩
            have e : ∀ v ∈ its, keyZ h' v = keyZ s.heap v := fun v hv => by
              obtain ⟨i, hi⟩ := List.mem_iff_getElem?.mp hv
              have a1 := congrArg (fun l => l[i]?) T.keys
              have a2 := congrArg (fun l => l[i]?) hT'.keys
              simp only [List.getElem?_map, hi, Option.map_some] at a1 a2
              rw [← a1] at a2
              exact Option.some.inj a2
            have := hC p q hp hq
            show wpAny _ _ _ (fun r s' => s' = _ ∧ r = ltS (keyZ s.heap p.1) (keyZ s.heap q.1)) _ _
            rw [← e p.1 hp, ← e q.1 hq]
            exact this
          · obtain ⟨ys, y1, y2⟩ := back_of I R rv rr O.sc out fun v hv => o2.perm.mem_iff.mp hv
            have hperm : (out.map (keyZ s.heap)).Perm es := by
              have := o2.perm.map (keyZ s.heap)
              rw [T.keys] at this
              exact this
            have hs : SrtO.Srtd ltS (out.map (keyZ s.heap)) := List.pairwise_map.mpr o1
            have he := sortL_eq hperm hs O.inj
            rw [← he] at y2
            obtain ⟨ep, he'⟩ := PyProof.Rows.sortedAll_at s.heap its out.toArray
            have hyl : ys.length ≤ sizeLine := by
              rw [y1.length, o2.perm.length_eq, ← hlen]; exact hz
            have hn := I.hok.fresh (Nat.le_succ s.heap.objs.size)
            obtain ⟨z1, z2, z3, z4⟩ := (Step.refl R).new1 (u := .lst ys) hn
            exact ⟨.ref _, upd H (s.heap.objs.size + 1) (.lst ys), I.laid (t' := s.toks) (fun _ _ => PyProof.Rows.sortedAll_old) (Nat.le_succ _) ⟨hyl, out, ep, y1, he'⟩, rfl, k _ g _ z1 z2 z3 z4 ⟨ys, upd_same, y2⟩⟩
    · cases h4
  · cases h4
end
section
variable {X : Cx} {a e : Expr} {es : List Expr} {ma : MA} {p pos : Pos} {x : Str}
/-- f(..), a built-in function, to a new object -/
theorem f_bltF {id : String} {md : MD} (hc : CallR X (.builtin id) (rF X.K md)) (hv : bootBuiltins x = some (.builtin id)) (hg : Gl X x) (hm : X.mg x = none) (ha : PA X (a :: es) (trA X.K ma)) (hn : x ≠ "__name__" := by decide +kernel) (hdb : (x == ("__debug__" : Str)) = false := by decide +kernel)
    (he : starEach (a :: es) X.env = (false, eval a X.env) :: starEach es X.env := by rfl) (hpl : (backTo pos (starEach es X.env)).any (·.1) = false := by rfl) : PE X (.Call (.Name x p) (a :: es) [] pos) (trF X.K (mCallD md ma)) :=
  PE.imp (pe_callB hc hg hm hv ha hn hdb he hpl) fun _ _ _ => trF_callD
theorem f_tyF {T : String} {md : MD} (hc : CallR X (.type T) (rF X.K md)) (hv : bootBuiltins x = some (.type T)) (hg : Gl X x) (hm : X.mg x = none) (ha : PA X (a :: es) (trA X.K ma)) (hn : x ≠ "__name__" := by decide +kernel) (hdb : (x == ("__debug__" : Str)) = false := by decide +kernel)
    (he : starEach (a :: es) X.env = (false, eval a X.env) :: starEach es X.env := by rfl) (hpl : (backTo pos (starEach es X.env)).any (·.1) = false := by rfl) : PE X (.Call (.Name x p) (a :: es) [] pos) (trF X.K (mCallD md ma)) :=
  PE.imp (pe_callTy hc hg hm hv ha hn hdb he hpl) fun _ _ _ => trF_callD
theorem d_tyM {T : String} {md : MD} (hc : CallR X (.type T) (rM X.K md)) (hv : bootBuiltins x = some (.type T)) (hg : Gl X x) (hm : X.mg x = none) (ha : PA X (a :: es) (trA X.K ma)) (hn : x ≠ "__name__" := by decide +kernel) (hdb : (x == ("__debug__" : Str)) = false := by decide +kernel)
    (he : starEach (a :: es) X.env = (false, eval a X.env) :: starEach es X.env := by rfl) (hpl : (backTo pos (starEach es X.env)).any (·.1) = false := by rfl) : PE X (.Call (.Name x p) (a :: es) [] pos) (trE X.K (mCallD md ma)) :=
  PE.imp (pe_callTy hc hg hm hv ha hn hdb he hpl) fun _ _ _ => trE_callD
theorem d_bltM {id : String} {md : MD} (hc : CallR X (.builtin id) (rM X.K md)) (hv : bootBuiltins x = some (.builtin id)) (hg : Gl X x) (hm : X.mg x = none) (ha : PA X (a :: es) (trA X.K ma)) (hn : x ≠ "__name__" := by decide +kernel) (hdb : (x == ("__debug__" : Str)) = false := by decide +kernel)
    (he : starEach (a :: es) X.env = (false, eval a X.env) :: starEach es X.env := by rfl) (hpl : (backTo pos (starEach es X.env)).any (·.1) = false := by rfl) : PE X (.Call (.Name x p) (a :: es) [] pos) (trE X.K (mCallD md ma)) :=
  PE.imp (pe_callB hc hg hm hv ha hn hdb he hpl) fun _ _ _ => trE_callD
end
end Z

set_option Elab.async false
set_option linter.all false
set_option maxRecDepth 100000
set_option maxHeartbeats 4000000
namespace Z
open PySem PySem.Spec PyProof.Rows L2 PySem.W
section
variable {prog : Program} {w : World} {A : Around} {E : Value → Shared → Prop} {s : Shared} {T : String} {r d : Addr} {n : Nat} {P : Nat → Value → Prop} {OK : Heap → Prop}
/-- tuple(x), x a dict or a view of one -/
theorem tuple_src {Q : Value → Shared → Prop} (S : KdlSrc prog w T r d n P OK) (hh : A.handled = none) (hok : OK s.heap) (hn : n ≤ sizeLine) (hT : T = "dict" ∨ T = "dict_values")
    (hQ : ∀ (h' : Heap) (tk : Nat) (acc : Array Value), (∀ b o, s.heap.get? b = some o → h'.get? b = some o) → ItemsOf P acc n → Q (.ref h'.objs.size) { s with heap := h'.push { cls := .type "tuple", data := .seq acc }, toks := tk }) :
    wpAny (model prog w) A (call (.type "tuple") [.ref r]) Q E s := by
  refine callType_codes (Q₁ := fun obj s₁ => s₁.TypeIs obj "tuple" ∧ Q obj s₁) F.called_tuple (F.typeCall_tuple_1 _) F.entry_object_init ?_ fun obj s₁ h₁ => ⟨h₁.1, F.args_object_init_2 obj _, object_init_meets F.called_tuple.init.lookup F.called_tuple.made (by decide) prog w A.in1 _ s₁ ⟨h₁.1, rfl, h₁.2⟩⟩
  refine codeAny_of_tree ?_
  show wpAny _ A.in1.in1 (do checkBuiltinCall "tuple.__new__" ⟨[.type "tuple", .ref r], []⟩; again (.builtin "tuple.__new__" ⟨[.type "tuple", .ref r], []⟩)) _ _ s
  refine wpAny_bind (wpAny_of_eq (F.newCall_tuple_1 _) (wpAny_pure ⟨plainId_quiet F.plain_tuple_new _, codeAny_builtin F.entry_tuple_new ?_⟩))
  rw [Around.under_plainId F.plain_tuple_new _]
  have hsub := sub_tuple_self
  have hinit := init_tuple_lookup
  have hmh := madeHere_tuple
  have hTI : s.TypeIs (.ref r) T := S.type s hok
  have hh1 : A.in1.in1.handled = none := hh
  rcases hT with rfl | rfl
  · wp_walk using wpAny_typeOf hTI, kdu_collect (A := A.in1.in1) S hh1 hok hn
    intro h' tk acc hk hacc
    show wpAny _ _ (Builtin.Tuple.tupleExact acc.toList.toArray >>= fun v => ret v) _ _ _
    unfold Builtin.Tuple.tupleExact
    refine wpAny_bind (wpAny_newObj_type ?_ (by show acc.toList.toArray.size ≤ sizeLine; simp only [Array.toArray_toList]; rw [hacc.1]; exact hn))
    refine wpAny_pure ?_
    have e : acc.toList.toArray = acc := by simp
    rw [e]
    exact ⟨⟨_, Heap.get?_push_size _ rfl, rfl⟩, hQ h' tk acc hk hacc⟩
  · wp_walk using wpAny_typeOf hTI, kdu_collect (A := A.in1.in1) S hh1 hok hn
    intro h' tk acc hk hacc
    show wpAny _ _ (Builtin.Tuple.tupleExact acc.toList.toArray >>= fun v => ret v) _ _ _
    unfold Builtin.Tuple.tupleExact
    refine wpAny_bind (wpAny_newObj_type ?_ (by show acc.toList.toArray.size ≤ sizeLine; simp only [Array.toArray_toList]; rw [hacc.1]; exact hn))
    refine wpAny_pure ?_
    have e : acc.toList.toArray = acc := by simp
    rw [e]
    exact ⟨⟨_, Heap.get?_push_size _ rfl, rfl⟩, hQ h' tk acc hk hacc⟩
end
def kVD : Key → D
  | .inl i => .int i
  | .inr x => .str x
section
variable {K : PySem.W.Frag} {g : G}
theorem rep_kV : ∀ k : Key, Rep K g (kV k) (kVD k)
  | .inl i => .int i
  | .inr x => .str x
theorem repK_keys : ∀ {vs : List (Key × V)} {ds : List (Key × D)}, RepK K g vs ds → RepL K g (vs.map fun p => kV p.1) (ds.map fun p => kVD p.1)
  | _, _, .nil => .nil
  | _, _, .cons _ r => .cons (rep_kV _) (repK_keys r)
theorem repK_vals : ∀ {vs : List (Key × V)} {ds : List (Key × D)}, RepK K g vs ds → RepL K g (vs.map fun p => p.2) (ds.map fun p => p.2)
  | _, _, .nil => .nil
  | _, _, .cons h r => .cons h (repK_vals r)
theorem repK_fst : ∀ {vs : List (Key × V)} {ds : List (Key × D)}, RepK K g vs ds → vs.map (·.1) = ds.map (·.1)
  | _, _, .nil => rfl
  | _, _, .cons _ r => by simp [repK_fst r]
end
section
variable {X : Cx} {pins : List (Addr × Obj)} {σ : L2.St} {H : Hp} {s : Shared}
theorem keys_vals {vs : List (Key × Value)} {us : List Value} (hl : us.length = vs.length) (h : ∀ (j : Nat) (v : Value), us[j]? = some v → ∃ (k : Key) (x : Value), vs[j]? = some (k, x) ∧ keyIs k v = true) : Vals (vs.map fun p => kV p.1) us := keys_at hl h
theorem acc_vals : ∀ {vs : List (Key × Value)} {us : List Value}, us.length = vs.length → (∀ (j : Nat) (v : Value), us[j]? = some v → ∃ k : Key, vs[j]? = some (k, v)) → us = vs.map (·.2)
  | [], [], _, _ => rfl
  | q :: vs, u :: us, hl, h => by
    obtain ⟨k, e⟩ := h 0 u rfl
    have e' : q = (k, u) := Option.some.inj e
    have ih : us = vs.map (·.2) := acc_vals (by simpa using hl) fun j v e => by
      obtain ⟨k, q⟩ := h (j + 1) v (by simpa using e)
      exact ⟨k, by simpa using q⟩
    rw [List.map_cons, e', ← ih]
  | [], _ :: _, hl, _ => by simp at hl
  | _ :: _, [], hl, _ => by simp at hl
theorem kv_fst : ∀ {kvs : List (Key × V)} {vs : List (Key × Value)}, KV kvs vs → vs.map (fun p => kV p.1) = kvs.map fun p => kV p.1
  | _, _, h => by
    have e := h.keys
    have := congrArg (List.map kV) e
    rw [List.map_map, List.map_map] at this
    exact this.symm
theorem kv_snd {kvs : List (Key × V)} {vs : List (Key × Value)} (h : KV kvs vs) : Vals (kvs.map (·.2)) (vs.map (·.2)) := by
  induction h with
  | nil => exact .nil
  | cons r t ih => exact .cons r.2 ih
def tupleDicD : List D → Option D
  | [.dic kvs] => if kvs.length ≤ sizeLine then some (.tup (kvs.map fun p => kVD p.1)) else none
  | _ => none
theorem cr_tupleDic (hc : X.calm = true) : CallR X (.type "tuple") (rM X.K fun ds s => lft (tupleDicD ds) s) := fun pins s σ H xs us Q I r h => by
  obtain ⟨g, s0, ds, d, s', R, rl, hm, k⟩ := h
  obtain ⟨h4, h5⟩ := lft_some hm
  dsimp only at h4 h5
  subst h5
  unfold tupleDicD at h4
  split at h4
  · rename_i kvs
    split at h4
    · rename_i hz
      cases h4
      cases rl with
      | cons r1 rl =>
        cases rl
        cases r1 with
        | @dic a vs _ q rr =>
          rw [Vals.ref1 r]
          obtain ⟨z, lo, ws, rel, dd⟩ := dk_rd I.hok (rdK_H R q)
          obtain ⟨ep, hat⟩ := dd.dictAt
          have hlen : ws.length = kvs.length := by rw [← rel.length, rr.length]
          refine tuple_src (kdl_dict (knd := mixKind X.prog X.w) (kvs := ws) (ep := ep) lo) (I.ok.hd hc) hat (by rw [hlen]; exact hz) (.inl rfl) fun h' tk acc hk hacc => ?_
          have hal : acc.toList.length = ws.length := by rw [Array.length_toList, hacc.1]
          have hv := keys_vals hal fun j v e => hacc.2 j v (by rw [← Array.getElem?_toList]; exact e)
          rw [kv_fst rel] at hv
          have I1 : Inv X pins σ H { s with heap := h', toks := tk } := I.kept hk
          have hn := I1.hok.fresh (Nat.le_refl _)
          obtain ⟨z1, z2⟩ := tup_yld R hn (repK_keys rr)
          refine ⟨.ref h'.objs.size, upd H h'.objs.size (.tup (vs.map fun p => kV p.1)), I1.laid (t' := tk) (fun b u e => Heap.get?_push_of_some _ e) (Nat.le_refl _) (show ObjOk X.prog X.w _ _ _ (.tup _) from ⟨by rw [List.length_map, rr.length]; exact hz, acc.toList, hv, ⟨_, Heap.get?_push_size _ rfl, rfl, 0, by simp⟩⟩), rfl, k _ _ _ z1 z2⟩
    · cases h4
  · cases h4
/-! ### tuple(x.values()) -/
def tupleValsD : D → Option D
  | .dic kvs => if kvs.length ≤ sizeLine then some (.tup (kvs.map fun p => p.2)) else none
  | _ => none
variable {e : Expr} {me : ME} {p pos apos cpos : Pos}
theorem d_tupleVals (hc : X.calm = true) (hg : Gl X "tuple") (hm : X.mg "tuple" = none) (he : PE X e (trE X.K me)) (hbase : attributeBase e "values" X.env (eval e X.env) = eval e X.env := by rfl) (hline : (apos.endLine == cpos.line) = true := by rfl)
    (na : starEach [.Call (.Attribute e "values" apos) [] [] cpos] X.env = (false, eval (.Call (.Attribute e "values" apos) [] [] cpos) X.env) :: starEach [] X.env := by rfl) :
    PE X (.Call (.Name "tuple" p) [.Call (.Attribute e "values" apos) [] [] cpos] [] pos) (trE X.K (mUn tupleValsD me)) := ⟨fun pins s σ H Q I ⟨g, en, s0, d, s', R, E, hmm, k⟩ => by
  obtain ⟨d1, s1, h1, hm1⟩ := bnd_some hmm
  obtain ⟨h4, h5⟩ := lft_some hm1
  dsimp only at h4 h5
  subst h5
  unfold tupleValsD at h4
  split at h4
  · rename_i kvs
    split at h4
    · rename_i hz
      cases h4
      refine Call_ (ld_blt I hg hm PyProof.Rows.boot_tuple (PyProof.Rows.callWith_type1 (args_cons ?_ na) na))
      refine wpAny_Call_method (T := "dict") (id := "dict.values") hbase rfl hline F.plainAttrs_dict F.slot_dict_values F.type_dict_values (thn (he.run pins s σ H (fun v H1 => ∃ g1, ∃ a vs, v = .ref a ∧ Step X.K g H g1 H1 s' ∧ g1.F a = some (.dK vs) ∧ RepK X.K g1 vs kvs) I ⟨g, en, s0, _, _, R, E, h1, fun v g1 H1 st rv => ?_⟩) fun u t1 ⟨x, H1, I1, rx, g1, a, vs, ex, st, q, rr⟩ => ?_)
      · cases rv with
        | dic q rr => exact ⟨g1, _, _, rfl, st, q, rr⟩
      · subst ex
        obtain rfl : u = Value.ref a := rx
        obtain ⟨z, lo, ws, rel, dd⟩ := dk_rd I1.hok (rdK_H st.rel q)
        obtain ⟨ep, hat⟩ := dd.dictAt
        have hlen : ws.length = kvs.length := by rw [← rel.length, rr.length]
        refine ⟨dd.typeIs, dd.mapOf.noDict, ?_⟩
        refine method_meetsIn F.slot_dict_values F.entry_dict_values rfl (PySem.evalArgs_none ⟨rfl, dd.typeIs, F.args_dict_values_1 _, _, meets_dict_values (mixKind X.prog X.w) a lo, ⟨ws, dd⟩, ?_⟩)
        refine args_nil ?_
        have kp : ∀ b o, t1.heap.get? b = some o → (t1.heap.push { cls := .type "dict_values", data := .fields #[.ref a] }).get? b = some o := fun b o e => Heap.get?_push_of_some _ e
        have hview : (t1.heap.push { cls := .type "dict_values", data := .fields #[.ref a] }).IsValuesView t1.heap.objs.size a := ⟨_, Heap.get?_push_size _ rfl, rfl, rfl⟩
        refine tuple_src (s := { t1 with heap := t1.heap.push { cls := .type "dict_values", data := .fields #[.ref a] } }) (kdl_values (knd := mixKind X.prog X.w) (r := t1.heap.objs.size) (d := a) (kvs := ws) (ep := ep)) (I1.ok.hd hc) ⟨hview, hat.push _⟩ (by rw [hlen]; exact hz) (.inr rfl) fun h' tk acc hk hacc => ?_
        have hal : acc.toList.length = ws.length := by rw [Array.length_toList, hacc.1]
        have hv : Vals (vs.map (·.2)) acc.toList := by
          rw [acc_vals hal fun j v e => hacc.2 j v (by rw [← Array.getElem?_toList]; exact e)]
          exact kv_snd rel
        have I2 : Inv X pins σ H1 { t1 with heap := h', toks := tk } := I1.kept fun b o e => hk b o (kp b o e)
        have hn := I2.hok.fresh (Nat.le_refl _)
        obtain ⟨z1, z2⟩ := tup_yld st.rel hn (repK_vals rr)
        exact ⟨.ref h'.objs.size, upd H1 h'.objs.size (.tup (vs.map (·.2))), I2.laid (t' := tk) (fun b u e => Heap.get?_push_of_some _ e) (Nat.le_refl _) (show ObjOk X.prog X.w _ _ _ (.tup _) from ⟨by rw [List.length_map, rr.length]; exact hz, acc.toList, hv, ⟨_, Heap.get?_push_size _ rfl, rfl, 0, by simp⟩⟩), rfl, k _ _ _ (st.trans z1) z2⟩
    · cases h4
  · cases h4⟩
end
end Z

set_option Elab.async false
set_option linter.all false
set_option maxRecDepth 100000
set_option maxHeartbeats 4000000
namespace Z
open PySem PySem.Spec PyProof.Rows L2
/-! ### enumerate of a tuple -/
def tItObj (l : Addr) : Obj := { cls := .type "tuple_iterator", data := .fields #[.ref l, .int 0 0] }
theorem meets_enumT (l : Addr) (its : Array Value) :
    Meets (Builtin.«enumerate.__new__» ⟨[.type "enumerate", .ref l], []⟩) (fun _ R s => s.heap.IsTuple l its ∧
      R (.ok (.ret (.ref (s.heap.push (tItObj l)).objs.size))) { s with heap := (s.heap.push (tItObj l)).push { cls := .type "enumerate", data := .fields #[.none, .bool false, .ref s.heap.objs.size, rawInt 0, .none, .none] } }) :=
  .of_wp fun prog w A R s h => by
    obtain ⟨hp, gs, dr, tk, os⟩ := s
    obtain ⟨h1, h⟩ := h
    have hsub := sub_enumerate
    have q1 : ∀ {A' : Around} {E : Value → Shared → Prop} {Q : Value → Shared → Prop}, Q (.ref hp.objs.size) ⟨hp.push (tItObj l), gs, dr, tk, os⟩ → wpAny (model prog w) A' (pyIter (.ref l)) Q E ⟨hp, gs, dr, tk, os⟩ :=
      fun q => wpAny_pyIter_tuple h1 q
    wp_walk using q1
    refine wpAny_stack_any fun st => wpAny_pure ?_
    split
    · rename_i c _ _ _ _ _
      cases (c == Value.type "enumerate")
      · wp_walk using q1
        exact ⟨_, rfl, h⟩
      · wp_walk using q1
        exact ⟨_, rfl, h⟩
    · wp_walk using q1
      exact ⟨_, rfl, h⟩
section
variable {prog : Program} {w : World} {A : Around} {E : Value → Shared → Prop} {s : Shared}
theorem enum_tuple {l : Addr} {its : Array Value} {Q : Value → Shared → Prop} (hl : s.heap.IsTuple l its)
    (h : ∀ h', IsEnum h' (s.heap.objs.size + 1) s.heap.objs.size 0 .none → h'.IsTupleIter s.heap.objs.size l 0 → h'.objs.size = s.heap.objs.size + 2 → (∀ b o, s.heap.get? b = some o → h'.get? b = some o) → Q (.ref (s.heap.objs.size + 1)) { s with heap := h' }) :
    wpAny (model prog w) A (call (.type "enumerate") [.ref l]) Q E s := by
  refine callType_new F.called_enumerate (by decide) (F.typeCall_enumerate_1 _) (F.newCall_enumerate_1 _) (fun obj => F.args_object_init_2 obj _) F.entry_enumerate_new (meets_enumT l its) ⟨hl, ?_⟩
  have hz : (s.heap.push (tItObj l)).objs.size = s.heap.objs.size + 1 := Heap.size_push ..
  show _ ∧ _
  rw [hz]
  have he : IsEnum ((s.heap.push (tItObj l)).push { cls := .type "enumerate", data := .fields #[.none, .bool false, .ref s.heap.objs.size, rawInt 0, .none, .none] }) (s.heap.objs.size + 1) s.heap.objs.size 0 .none := by
    have q := Heap.get?_push_size (s.heap.push (tItObj l)) (o := { cls := .type "enumerate", data := .fields #[.none, .bool false, .ref s.heap.objs.size, rawInt 0, .none, .none] }) rfl
    rw [hz] at q; exact q
  exact ⟨⟨_, he, rfl⟩, h _ he ⟨_, Heap.get?_push_of_some _ (Heap.get?_push_size _ rfl), rfl, rfl⟩ (by rw [Heap.size_push, hz]) fun b o x => Heap.get?_push_of_some _ (Heap.get?_push_of_some _ x)⟩
end
/-- the tuple at a, each item in a new pair -/
def IteT (K : PySem.W.Frag) (a : Addr) : It :=
  ⟨fun i H => ∃ (xs : List V) (x : V), SqT K H a xs ∧ xs[i]? = some x, fun i H v H' => ∃ T x, v = .ref T ∧ H T = none ∧ H' = upd H T (.tup [.int (i : Nat), x]) ∧ ∀ xs, SqT K H a xs → xs[i]? = some x, fun i H => ∃ xs : List V, SqT K H a xs ∧ xs.length = i⟩
theorem turn_enumT {P : Program} {w : World} {K : PySem.W.Frag} {elts : List Expr} {kk : Nat} {tpos : Pos} (a e it : Addr) :
    Turn P w K (.Tuple elts kk tpos) (IteT K a) [e, it] e (fun i h => (∃ old, IsEnum h e it ((i : Nat) : Int) old) ∧ h.IsTupleIter it a i ∧ e ≠ it ∧ a ≠ it ∧ a ≠ e) where
  mem := by simp
  obj := fun i h st b hb => by
    obtain ⟨⟨old, he⟩, ⟨o, ho, hc, hd⟩, _⟩ := st
    rcases (show b = e ∨ b = it by simpa using hb) with z | z
    · rw [z]; exact ⟨_, he, fun v q => nomatch q⟩
    · rw [z]; exact ⟨o, ho, fun v q => by rw [hd] at q; cases q⟩
  keep := fun i h h' st k => ⟨let ⟨old, he⟩ := st.1; ⟨old, k e (by simp) _ he⟩, st.2.1.at fun o q => k it (by simp) o q, st.2.2⟩
  item := by
    intro X hP hw hK hc i pins s σ H E I hf st hg
    subst hP hw hK
    obtain ⟨⟨old, he⟩, hit, hne, hai, hae⟩ := st
    obtain ⟨xs, x, hq, hx⟩ := hg
    obtain ⟨its, rv, p, hz⟩ := I.tuple hq
    obtain ⟨u, hu, ru⟩ := rv.get hx
    have hel : e < s.heap.objs.size := Heap.lt_size he
    have hil : it < s.heap.objs.size := let ⟨_, q, _⟩ := hit; Heap.lt_size q
    have hsz : i < its.toArray.size := by
      have := (List.getElem?_eq_some_iff.mp hu).1
      simpa using this
    have Dw := Draws.tuple (prog := X.prog) (w := X.w) (A := X.A.in1) (I.ok.hd hc) it a hai its.toArray
    refine wpAny_pyNext_enum_itemD Dw he ⟨hit, p⟩ hsz hne (by simp only [List.mem_cons, List.not_mem_nil, or_false, not_or]; exact ⟨hne, fun z => hae z.symm⟩) fun y h' tk hy ho hs' hT hsz' hk => ?_
    have ey : y = u := by
      have hy : its.toArray[i]? = some y := hy
      simp only [List.getElem?_toArray] at hy
      rw [hu] at hy; exact (Option.some.inj hy).symm
    subst ey
    refine ⟨_, rfl, wpAny_letOwnedTupleGo_enum (s := { s with heap := h', toks := tk + 1 }) ho fun h'' he' sb => ?_⟩
    have hT2 : h''.get? s.heap.objs.size = some { cls := .type "tuple", data := .seq #[.int i tk, y] } := (sb.2 _ (Nat.ne_of_gt hel)).trans hT
    have new : ObjOk X.prog X.w (upd H s.heap.objs.size (.tup [.int (i : Nat), x])) h'' s.heap.objs.size (.tup [.int (i : Nat), x]) :=
      ⟨by show 2 ≤ sizeLine; decide, [.int i tk, y], .cons ⟨_, rfl⟩ (.cons ru .nil), ⟨_, hT2, rfl, _, rfl⟩⟩
    have I1 : Inv X pins σ (upd H s.heap.objs.size (.tup [.int (i : Nat), x])) { s with heap := h'', toks := tk + 1 } :=
      I.turnedNew (ch := [e, it]) (fun b ob hb q => (sb.2 b (fun z => hb (by simp [z]))).trans (hk b ob (fun z => hb (by simp [z])) (fun z => hb (by simp [z])) q)) hf (Nat.le_refl _) new
    refine ⟨.ref s.heap.objs.size, _, I1, rfl, ⟨_, x, rfl, I.hok.fresh (Nat.le_refl _), rfl, fun ys hy => by rw [I.tuple_inj hy hq]; exact hx⟩, ⟨⟨y, ?_⟩, hs'.1.at fun o q => (sb.2 it (Ne.symm hne)).trans q, hne, hai, hae⟩, fun b hb => ?_⟩
    · rw [show ((i + 1 : Nat) : Int) = (i : Int) + 1 by omega]; exact he'
    · have hb' : b < s.heap.objs.size := by
        rcases (show b = e ∨ b = it by simpa using hb) with z | z
        · rw [z]; exact hel
        · rw [z]; exact hil
      rw [upd_ne (Nat.ne_of_lt hb')]
      exact (hf b hb).1
  done := by
    intro X hP hw hK hc i pins s σ H E I hf st hg
    subst hP hw hK
    obtain ⟨⟨old, he⟩, hit, hne, hai, hae⟩ := st
    obtain ⟨xs, hq, hx⟩ := hg
    obtain ⟨its, rv, p, hz⟩ := I.tuple hq
    obtain ⟨f0, f1, f2, f3, f4, f5⟩ := hf it (by simp)
    subst hx
    have Dw := Draws.tuple (prog := X.prog) (w := X.w) (A := X.A.in1) (I.ok.hd hc) it a hai its.toArray
    have hsz : xs.length = its.toArray.size := by simpa using rv.length
    rw [hsz] at he hit
    exact wpAny_pyNext_enum_endD Dw he ⟨hit, p⟩ fun h' eb => ⟨rfl, I.turned (t' := s.toks) (fun b o hb q => eb b o hb q) f0 f1 f3 f4 f5⟩
  self := fun A i s Q E st h => let ⟨⟨_, he⟩, _⟩ := st; wpAny_pyIter_enum he h
section
variable {X : Cx} {K : PySem.W.Frag} {e : Expr} {ta : TA} {ma : MA} {p pos tpos : Pos} {elts : List Expr} {kk : Nat}
def iEnumT (K : PySem.W.Frag) (ta : TA) : TI := fun σ H R => ta σ H fun vs H1 => ∃ a xs, vs = [.ref a] ∧ SqT K H1 a xs ∧ R (IteT K a) H1
theorem pi_enumT (hg : Gl X "enumerate") (hm : X.mg "enumerate" = none) (ha : PA X [e] ta) (hs : starEach [e] X.env = [(false, eval e X.env)] := by rfl) : PI X (.Tuple elts kk tpos) (.Call (.Name "enumerate" p) [e] [] pos) (iEnumT X.K ta) := ⟨fun pins s σ H R I h => by
  refine Call_ (ld_blt I hg hm boot_enumerate (PyProof.Rows.callWith_type1 (thn (ha.run pos pins s σ H _ I h) fun us s1 ⟨vs, H1, I1, r1, a, xs, ex, hq, q⟩ => ?_) hs rfl))
  subst ex
  rw [Vals.ref1 r1]
  obtain ⟨its, rv, p', hz⟩ := I1.tuple hq
  have hlt : a < s1.heap.objs.size := let ⟨_, z, _⟩ := p'; Heap.lt_size z
  refine enum_tuple p' fun h' he hit hsz hk => wpAny_pyIter_enum he ?_
  have I2 : Inv X pins σ H1 { s1 with heap := h' } := I1.kept (t' := s1.toks) hk
  refine ⟨s1.heap.objs.size + 1, [s1.heap.objs.size + 1, s1.heap.objs.size], _, _, H1, rfl, I2, turn_enumT a (s1.heap.objs.size + 1) s1.heap.objs.size, ⟨⟨.none, he⟩, hit, Nat.succ_ne_self _, Nat.ne_of_lt hlt, Nat.ne_of_lt (Nat.lt_succ_of_lt hlt)⟩, fun b hb => ?_, q⟩
  have hle : s1.heap.objs.size ≤ b := by
    rcases (show b = s1.heap.objs.size + 1 ∨ b = s1.heap.objs.size by simpa using hb) with z | z <;> rw [z]
    · exact Nat.le_succ _
    · exact Nat.le_refl _
  exact I1.fpOk hle (I1.hok.fresh hle)⟩
theorem itd_enumT {g : G} {a : Addr} {vs : List V} {ds : List D} (h : SqT K g.F a vs) (r : RepL K g vs ds) : ItD K (IteT K a) g (enumD ds) := by
  have hq : ∀ (g' : G) (H : Hp) (s : S), SRel K g' H s → GLe g g' → SqT K H a vs := fun g' H s R L => sqT_H R (sqT_mono L.F h)
  refine ⟨fun g' H s i R L hi => ?_, fun g' H s R L => ⟨vs, hq g' H s R L, by rw [r.length]; simp [enumD]⟩, fun g' H s i x H' d R L hd y => ?_⟩
  · have hi' : i < vs.length := by rw [r.length]; simpa [enumD] using hi
    exact ⟨vs, vs[i], hq g' H s R L, List.getElem?_eq_getElem hi'⟩
  · obtain ⟨T, y, rfl, hT, rfl, hy⟩ := y
    have hx := hy vs (hq g' _ s R L)
    have hi : i < ds.length := by
      have := (List.getElem?_eq_some_iff.mp hd).1
      simpa [enumD] using this
    simp [enumD, List.getElem?_map, List.getElem?_range hi, List.getElem?_eq_getElem hi] at hd
    subst hd
    obtain ⟨v, h1, h2⟩ := r.get (List.getElem?_eq_getElem hi)
    rw [hx] at h1; cases h1
    obtain ⟨q1, q2⟩ := tup_yld R hT (.cons (.int (i : Nat)) (.cons (h2.mono L) .nil))
    exact ⟨_, q1, q2⟩
def enum2I (ma : MA) : MI := fun e s => bnd (ma e s) fun ds s => match ds with
  | [.lst ds] => some (enumD ds, s)
  | [.tup ds] => some (enumD ds, s)
  | _ => none
theorem i_enum2 (hg : Gl X "enumerate") (hm : X.mg "enumerate" = none) (ha : PA X [e] (trA X.K ma)) (hs : starEach [e] X.env = [(false, eval e X.env)] := by rfl) : PI X (.Tuple elts kk tpos) (.Call (.Name "enumerate" p) [e] [] pos) (trI X.K (enum2I ma)) :=
  PI.imp (PI.or (pi_enum hg hm ha hs) (pi_enumT hg hm ha hs)) fun σ H R ⟨g, en, s, ds, s', R0, E, hm, k⟩ => by
    obtain ⟨xs, s1, h1, hm1⟩ := bnd_some hm
    split at hm1
    · cases hm1
      refine .inl ⟨g, en, s, _, _, R0, E, h1, fun vs g1 H1 st rv => ?_⟩
      cases rv with
      | cons r rr =>
        cases rr
        cases r with
        | lst q r => exact ⟨_, _, rfl, .inl (rd_H st.rel q), k _ g1 H1 st (itd_enum q r)⟩
    · cases hm1
      refine .inr ⟨g, en, s, _, _, R0, E, h1, fun vs g1 H1 st rv => ?_⟩
      cases rv with
      | cons r rr =>
        cases rr
        cases r with
        | tup q r => exact ⟨_, _, rfl, sqT_H st.rel q, k _ g1 H1 st (itd_enumT q r)⟩
    · cases hm1
end
end Z

set_option Elab.async false
set_option linter.all false
set_option maxRecDepth 100000
set_option maxHeartbeats 4000000
namespace Z
open PySem PySem.Spec PyProof.Rows L2
/-! ### a def called below a built-in -/
section
variable {X : Cx} {d : DefZ} {ps : List Str} {k j : Nat} {sp : Sp} {md : MD} {c : Str}
/-- what is asked of a receiver: the class -/
def ofC (c : Str) (d : D) : Bool := match d with
  | .obj c' _ => decide (c' = c)
  | _ => false
/-- f(x) of an instance goes to a def of its class -/
def ownD (c : Str) (md : MD) (ok : D → Bool) : MD := fun ds s => match ds with
  | [d] => match ofC c d with
    | true => match md [d] s with
      | some (r, s') => if ok r then some (r, s') else none
      | none => none
    | false => none
  | _ => none
def okLen (d : D) : Bool := match d with
  | .int n => decide (0 ≤ n) && decide (n < 2 ^ 63)
  | _ => false
def okStr (d : D) : Bool := match d with
  | .str _ => true
  | _ => false
def okBool (d : D) : Bool := match d with
  | .bl _ => true
  | _ => false
end
end Z
namespace Z
open PySem PySem.Spec PyProof.Rows L2
/-! ### operators that go to a def of the class -/
def mOpM (f : D → D → S → Option (D × S)) (ma mb : ME) : ME := fun e s => bnd (ma e s) fun a s => bnd (mb e s) fun b s => f a b s
def rOpM (K : PySem.W.Frag) (f : D → D → S → Option (D × S)) : R2 := fun x y H Q => ∃ g s a b d s', SRel K g H s ∧ Rep K g x a ∧ Rep K g y b ∧ f a b s = some (d, s') ∧ ∀ v g' H', Step K g H g' H' s' → Rep K g' v d → Q v H'
def tAlt (m1 m2 : MT) : MT := fun e s => match m1 e s with
  | some r => some r
  | none => m2 e s
section
variable {X : Cx} {a b o e : Expr} {ma mb mo me : ME} {m1 m2 : MT} {d : DefZ} {ps : List Str} {k j : Nat} {md : MD} {c : Str} {pos : Pos} {op : CmpOp}
theorem PT.or {t t' : TT} (h : PT X a t) (h' : PT X a t') : PT X a (fun σ H Q => t σ H Q ∨ t' σ H Q) := ⟨fun pins s σ H Q I q => q.elim (h.run pins s σ H Q I) (h'.run pins s σ H Q I)⟩
theorem trE_opM {K : PySem.W.Frag} {f : D → D → S → Option (D × S)} {σ : L2.St} {H : Hp} {Q : VK} (q : trE K (mOpM f ma mb) σ H Q) : tOp (rOpM K f) (trE K ma) (trE K mb) σ H Q := by
  obtain ⟨g, e, s, d, s', R, E, hm, k⟩ := q
  obtain ⟨x, s1, h1, hm1⟩ := bnd_some hm
  obtain ⟨y, s2, h2, hm2⟩ := bnd_some hm1
  exact ⟨g, e, s, x, s1, R, E, h1, fun v g1 H1 st1 rv => ⟨g1, e, s1, y, s2, st1.rel, E.step st1, h2, fun w g2 H2 st2 rw => ⟨g2, s2, x, y, d, s', st2.rel, rv.mono st2.le, rw, hm2, fun z g3 H3 st3 r3 => k z g3 H3 ((st1.trans st2).trans st3) r3⟩⟩⟩
/-- x in o, o an instance of c -/
def ownIn (c : Str) (md : MD) : D → D → S → Option (D × S) := fun a b s => match ofC c b with
  | true => match md [b, a] s with
    | some (.bl r, s') => some (.bl r, s')
    | _ => none
  | false => none
def ownNotIn (c : Str) (md : MD) : D → D → S → Option (D × S) := fun a b s => match ofC c b with
  | true => match md [b, a] s with
    | some (.bl r, s') => some (.bl (!r), s')
    | _ => none
  | false => none
/-- o[i], o an instance of c -/
def ownSub (c : Str) (md : MD) : D → D → S → Option (D × S) := fun a b s => match ofC c a with
  | true => md [a, b] s
  | false => none
end
/-! ### repr -/
def reprD (d : D) : Option D := (toP d).bind fun p => if p.showable = true ∧ p.depth ≤ 60 ∧ p.shown.length ≤ sizeLine ∧ p.hasDict = false then some (.str p.shown) else none
def reprM : MD := fun ds s => match ds with
  | [d] => lft (reprD d) s
  | _ => none
section
variable {X : Cx}
theorem cr_repr (hu : X.A.units + 64 < cLine) (hg : X.A.guards = some []) : CallR X (.builtin "repr") (rM X.K reprM) := fun pins s σ H xs us Q I r ⟨g, s0, ds, y, s', R, rl, hmd, kk⟩ => by
  unfold reprM at hmd
  split at hmd
  · rename_i d
    obtain ⟨h4, h5⟩ := lft_some hmd
    dsimp only at h4 h5
    subst h5
    unfold reprD at h4
    cases e : toP d with
    | none => rw [e] at h4; cases h4
    | some p =>
      rw [e] at h4
      dsimp only [Option.bind_some] at h4
      split at h4
      · rename_i hc
        cases h4
        obtain ⟨c1, c2, c3, c4⟩ := hc
        cases rl with
        | cons r1 rl =>
          cases rl
          obtain ⟨u, rfl, ru⟩ := vals1 r
          have dp := dp_of R r1 e
          have fin : ∀ h' (t : Tok) tk, (∀ b o, s.heap.get? b = some o → h'.get? b = some o) → EP X pins σ Q (.str p.shown t) { s with heap := h', toks := tk } := fun h' t tk hk => ⟨.str p.shown, H, I.kept hk, ⟨t, rfl⟩, kk _ g H (.refl R) (.str _)⟩
          obtain ⟨as, rd⟩ := Dp.reads I p _ u dp ru
          cases id r1 with
          | non => obtain rfl : u = Value.none := ru; simp only [toP] at e; cases e; exact PySem.P.repr_of_none (fin _ _ _ fun _ _ z => z)
          | bl b => obtain rfl : u = Value.bool b := ru; simp only [toP] at e; cases e; exact PySem.P.repr_of_bool (fin _ _ _ fun _ _ z => z)
          | int i => obtain ⟨t, rfl⟩ := ru; simp only [toP] at e; cases e; exact PySem.P.repr_of_int (by simpa [PyData.showable] using c1) (fin _ _ _ fun _ _ z => z)
          | str x => obtain ⟨t, rfl⟩ := ru; simp only [toP] at e; cases e; exact PySem.P.repr_of_str (fin _ _ _ fun _ _ z => z) c3
          | tup q rr => obtain rfl : u = Value.ref _ := ru; exact PySem.repr_of_reads' rd c1 (PyData.noDict_hsm c4) hg (by omega) (fun _ _ z => z) (fun h' t tk hk => fin h' t tk hk) c3
          | lst q rr => obtain rfl : u = Value.ref _ := ru; exact PySem.repr_of_reads' rd c1 (PyData.noDict_hsm c4) hg (by omega) (fun _ _ z => z) (fun h' t tk hk => fin h' t tk hk) c3
          | dic q rr => simp only [toP] at e; cases e
          | obj q rr => simp only [toP] at e; cases e
          | cel q => simp only [toP] at e; cases e
          | opq v => simp only [toP] at e; cases e
          | ty c => simp only [toP] at e; cases e
      · cases h4
  · cases hmd
end
end Z

set_option Elab.async false
set_option linter.all false
set_option maxRecDepth 100000
set_option maxHeartbeats 4000000
namespace Z
open PySem PySem.Spec PyProof.Rows L2
section
variable {X : Cx} {K : PySem.W.Frag} {a b : Expr} {me mb ma : ME} {pos : Pos}
/-! ### a cell's item, read -/
def idxCel (a b : D) (s : S) : Option (D × S) := match a, b with
  | .cel n, .int k => match s[n]? with
    | some (.lst ds) => (atI ds k).map fun d => (d, s)
    | _ => none
  | _, _ => none
theorem idxCel_ok {x y : V} {H : Hp} {Q : VK} (h : rOpM K idxCel x y H Q) : rIx K x y H Q := by
  obtain ⟨g, s, p, q, d, s', R, rx, ry, hf, k⟩ := h
  unfold idxCel at hf
  split at hf
  · rename_i n i
    split at hf
    · rename_i ds hs
      obtain ⟨d', hd, e⟩ := Option.map_eq_some_iff.mp hf
      cases e
      cases rx with
      | cel hp =>
        cases ry
        obtain ⟨w, q1, q2, vs, q3, q4⟩ := R.cell n _ hs
        rw [hp] at q1
        cases q1
        obtain ⟨v, h1, h2⟩ := repL_at q4 hd
        exact .inl ⟨_, _, _, _, rfl, rfl, .inl (.inl q3), h1, k _ _ _ (.refl R) h2⟩
    · cases hf
  · cases hf
theorem d_idxCel (ha : PE X a (trE X.K me)) (hb : PE X b (trE X.K mb)) (hs : PlainIx b := by exact fun _ _ => rfl) : PE X (.Subscript a b pos) (trE X.K (mOpM idxCel me mb)) :=
  PE.imp (pe_ix ix_seq ha hb hs) fun σ H Q q => by
    have z := trE_opM q
    obtain ⟨g, e, s, d, s', R, E, hm, k⟩ := z
    exact ⟨g, e, s, d, s', R, E, hm, fun v g1 H1 st rv => by
      obtain ⟨g2, e2, s2, d2, s3, R2, E2, hm2, k2⟩ := k v g1 H1 st rv
      exact ⟨g2, e2, s2, d2, s3, R2, E2, hm2, fun w g3 H3 st3 rw => idxCel_ok (k2 w g3 H3 st3 rw)⟩⟩
/-! ### + of all kinds, as a value -/
def addAll (a b : D) : Option D := match addD a b with
  | some d => some d
  | none => catD a b
theorem addAll_ok : OpOk K (fun x y H Q => rAddZ K x y H Q ∨ rCatZ x y H Q) addAll := fun g H s x y a b d Q R ra rb e k => by
  unfold addAll at e
  split at e
  · rename_i d' h
    cases e
    exact .inl (add_ok g H s x y a b _ Q R ra rb h k)
  · exact .inr (cat_ok.E g H s x y a b d Q R ra rb e k)
theorem d_addA (ha : PE X a (trE X.K ma)) (hb : PE X b (trE X.K mb)) : PE X (.BinOp a .Add b pos) (trE X.K (mOp addAll ma mb)) := PE.imp (pe_op (OpR.or op_addZ op_catZ) ha hb) fun _ _ _ => trE_op addAll_ok
/-! ### list * int -/
/-! ### membership by deep equality -/
def inDp (x y : D) : Option Bool := match toP x, (match y with
    | .lst ds => toPL ds
    | .tup ds => toPL ds
    | _ => none) with
  | some d, some xs => if PyData.canLayAll0 xs = true ∧ d.canLay0 = true ∧ d.depth ≤ 60 then some (xs.any fun y => PyData.eqv y d) else none
  | _, _ => none
def inA (x y : D) : Option Bool := match inB x y with
  | some b => some b
  | none => inDp x y
def inAD (x y : D) : Option D := (inA x y).map .bl
def notInAD (x y : D) : Option D := (inA x y).map fun b => .bl (!b)
def rInDp (K : PySem.W.Frag) (f : Bool → Bool) : R2 := fun x y H Q => ∃ p d xs, y = .ref p ∧ Dp K H x d ∧ (Dp K H y (.list xs) ∨ Dp K H y (.tuple xs)) ∧ PyData.canLayAll0 xs = true ∧ d.canLay0 = true ∧ d.depth ≤ 60 ∧ Q (.bl (f (xs.any fun y => PyData.eqv y d))) H
theorem op_inDp (hu : X.A.units + 64 < cLine) : OpR X (compareOp .In) (rInDp X.K id) := fun pins s σ H x y v u Q I rx ry q0 => by
  obtain ⟨p, d, xs, rfl, dx, dy, c1, c2, c3, q⟩ := q0
  obtain ⟨bs, r2⟩ := Dp.reads I d x v dx rx
  have room : X.A.units + 1 + min (PyData.depthAll xs) d.depth < cLine := by omega
  rcases dy with dy | dy
  · obtain ⟨as, r1⟩ := Dp.reads I _ _ u dy ry
    exact PySem.SeqAt.in_list_reads r1 r2 c1 c2 room ⟨.bl _, H, I, rfl, q⟩
  · obtain ⟨as, r1⟩ := Dp.reads I _ _ u dy ry
    exact PySem.SeqAt.in_tuple_reads r1 r2 c1 c2 room ⟨.bl _, H, I, rfl, q⟩
theorem op_notInDp (hu : X.A.units + 64 < cLine) : OpR X (compareOp .NotIn) (rInDp X.K (!·)) := fun pins s σ H x y v u Q I rx ry q0 => by
  obtain ⟨p, d, xs, rfl, dx, dy, c1, c2, c3, q⟩ := q0
  obtain ⟨bs, r2⟩ := Dp.reads I d x v dx rx
  have room : X.A.units + 1 + min (PyData.depthAll xs) d.depth < cLine := by omega
  rcases dy with dy | dy
  · obtain ⟨as, r1⟩ := Dp.reads I _ _ u dy ry
    exact PySem.SeqAt.notIn_list_reads r1 r2 c1 c2 room ⟨.bl _, H, I, rfl, q⟩
  · obtain ⟨as, r1⟩ := Dp.reads I _ _ u dy ry
    exact PySem.SeqAt.notIn_tuple_reads r1 r2 c1 c2 room ⟨.bl _, H, I, rfl, q⟩
theorem inDp_ok {f : Bool → Bool} {g : G} {H : Hp} {s : S} {x y : V} {a b : D} {k : Bool} {Q : VK} (R : SRel K g H s) (ra : Rep K g x a) (rb : Rep K g y b) (e : inDp a b = some k) (q : Q (.bl (f k)) H) : rInDp K f x y H Q := by
  unfold inDp at e
  split at e
  · rename_i d xs hd hx
    split at e
    · rename_i hc
      cases e
      have dx := dp_of R ra hd
      split at hx
      · cases id rb with
        | lst h1 r1 => exact ⟨_, d, xs, rfl, dx, .inl (dp_of R rb (by simp only [toP, hx]; rfl)), hc.1, hc.2.1, hc.2.2, q⟩
      · cases id rb with
        | tup h1 r1 => exact ⟨_, d, xs, rfl, dx, .inr (dp_of R rb (by simp only [toP, hx]; rfl)), hc.1, hc.2.1, hc.2.2, q⟩
      · cases hx
    · cases e
  · cases e
theorem inA_ok : OpOk K (fun x y H Q => rInZ K x y H Q ∨ rInDp K id x y H Q) inAD := fun g H s x y a b d Q R ra rb e k => by
  unfold inAD inA at e
  split at e
  · rename_i b0 hb
    exact .inl (in_ok g H s x y a b d Q R ra rb (by unfold inD; rw [hb]; exact e) k)
  · obtain ⟨k0, h1, rfl⟩ := Option.map_eq_some_iff.mp e
    exact .inr (inDp_ok R ra rb h1 (k _ _ _ (.refl R) (.bl _)))
theorem notInA_ok : OpOk K (fun x y H Q => rNotInZ K x y H Q ∨ rInDp K (!·) x y H Q) notInAD := fun g H s x y a b d Q R ra rb e k => by
  unfold notInAD inA at e
  split at e
  · rename_i b0 hb
    exact .inl (notIn_ok g H s x y a b d Q R ra rb (by unfold notInD; rw [hb]; exact e) k)
  · obtain ⟨k0, h1, rfl⟩ := Option.map_eq_some_iff.mp e
    exact .inr (inDp_ok R ra rb h1 (k _ _ _ (.refl R) (.bl _)))
theorem d_inA (hu : X.A.units + 64 < cLine) (ha : PE X a (trE X.K ma)) (hb : PE X b (trE X.K mb)) (hm : behindInMarks .In b = false := by rfl) : PE X (.Compare a [.In] [b] pos) (trE X.K (mOp inAD ma mb)) := PE.imp (pe_cmpR (OpR.or oIn (op_inDp hu)) ha hb hm) fun _ _ _ => trE_op inA_ok
theorem bly_inA : Bly inAD := fun a b d h => by unfold inAD at h; obtain ⟨c, _, rfl⟩ := Option.map_eq_some_iff.mp h; exact ⟨_, rfl⟩
theorem bly_notInA : Bly notInAD := fun a b d h => by unfold notInAD at h; obtain ⟨c, _, rfl⟩ := Option.map_eq_some_iff.mp h; exact ⟨_, rfl⟩
theorem t_inA (hu : X.A.units + 64 < cLine) (ha : PE X a (trE X.K ma)) (hb : PE X b (trE X.K mb)) (hm : behindInMarks .In b = false := by rfl) : PT X (.Compare a [.In] [b] pos) (trT X.K (mT (mOp inAD ma mb))) := PT.imp (pt_cmpR (OpR.or oIn (op_inDp hu)) ha hb hm) fun _ _ _ => trT_op inA_ok bly_inA
theorem t_notInA (hu : X.A.units + 64 < cLine) (ha : PE X a (trE X.K ma)) (hb : PE X b (trE X.K mb)) (hm : behindInMarks .NotIn b = false := by rfl) : PT X (.Compare a [.NotIn] [b] pos) (trT X.K (mT (mOp notInAD ma mb))) := PT.imp (pt_cmpR (OpR.or oNotIn (op_notInDp hu)) ha hb hm) fun _ _ _ => trT_op notInA_ok bly_notInA
end
end Z

set_option Elab.async false
set_option linter.all false
set_option maxRecDepth 100000
set_option maxHeartbeats 4000000
namespace Z
open PySem PySem.Spec PyProof.Rows L2 PySem.W
/-! ### a, *b = list -/
section
variable {prog : Program} {w : World} {A : Around} {E : Value → Shared → Prop} {s : Shared}
end
section
variable {X : Cx} {K : PySem.W.Frag} {ms : MGs} {pos : Pos} {es : List Expr} {t : Expr} {p : Pos}
def gStar (i n : Nat) (ms : MGs) : MG := fun d e s => match d with
  | .lst ds => if i < n ∧ n ≤ ds.length + 1 ∧ ds.length ≤ 16384 then ms (ds.take i ++ [.lst ((ds.drop i).take (ds.length + 1 - n))] ++ (ds.drop i).drop (ds.length + 1 - n)) e s else none
  | _ => none
def gStarT (K : PySem.W.Frag) (i n : Nat) (t : TGs) : TG := fun v σ H Q => ∃ a xs, v = .ref a ∧ SqL K H a xs ∧ i < n ∧ n ≤ xs.length + 1 ∧ xs.length ≤ 16384 ∧
  ∀ l, H l = none → t (xs.take i ++ [.ref l] ++ (xs.drop i).drop (xs.length + 1 - n)) σ (upd H l (.lst ((xs.drop i).take (xs.length + 1 - n)))) Q
end
end Z
namespace Z
open PySem PySem.Spec PyProof.Rows L2
/-! ### keywords -/
def pick {α : Type} (ix : List Nat) (ws : List α) : List α := ix.filterMap fun i => ws[i]?
theorem vals_get {zs : List V} {ws : List Value} (r : Vals zs ws) (i : Nat) : (zs[i]? = none ∧ ws[i]? = none) ∨ ∃ v u, zs[i]? = some v ∧ ws[i]? = some u ∧ RelV v u := by
  cases h : zs[i]? with
  | none =>
    left
    refine ⟨rfl, ?_⟩
    rw [List.getElem?_eq_none_iff] at h ⊢
    rw [← r.length]; exact h
  | some v =>
    obtain ⟨u, h1, h2⟩ := r.get h
    exact .inr ⟨v, u, rfl, h1, h2⟩
theorem vals_pick {zs : List V} {ws : List Value} (r : Vals zs ws) : ∀ ix : List Nat, Vals (pick ix zs) (pick ix ws)
  | [] => .nil
  | i :: ix => by
    have ih := vals_pick r ix
    unfold pick at ih ⊢
    rcases vals_get r i with ⟨h1, h2⟩ | ⟨v, u, h1, h2, h3⟩
    · rw [List.filterMap_cons_none h1, List.filterMap_cons_none h2]; exact ih
    · rw [List.filterMap_cons_some h1, List.filterMap_cons_some h2]; exact .cons h3 ih
theorem rep_pick {K : PySem.W.Frag} {g : G} {vs : List V} {ds : List D} (r : RepL K g vs ds) : ∀ ix : List Nat, RepL K g (pick ix vs) (pick ix ds)
  | [] => .nil
  | i :: ix => by
    have ih := rep_pick r ix
    unfold pick at ih ⊢
    cases h : ds[i]? with
    | none =>
      have h1 : vs[i]? = none := by
        rw [List.getElem?_eq_none_iff] at h ⊢
        rw [r.length]; exact h
      rw [List.filterMap_cons_none h1, List.filterMap_cons_none h]; exact ih
    | some d =>
      obtain ⟨v, h1, h2⟩ := r.get h
      rw [List.filterMap_cons_some h1, List.filterMap_cons_some h]; exact .cons h2 ih
/-- n values ahead, then the keywords ks: in the order of the parameters ps they are those at ix -/
structure KwZ (fd : FuncData) (ps ks : List Str) (n : Nat) (ix : List Nat) : Prop where
  to : ∀ (s : Shared) (us ws : List Value), us.length = n → ws.length = ks.length → BindsTo s fd ⟨us, ks.zip ws⟩ (ps.zip (us ++ pick ix ws))
theorem kwz {K : PySem.W.Frag} {x qual : Str} {params : Arguments} {body : List Stmt} {scope : Scope} {f : Addr} {fd : FuncData} {ps ks : List Str} {n : Nat} {ix : List Nat} (F : FunD K x qual params body scope [] [] f fd)
    (h : ∀ (kV doc pm : Value) (an : Option Addr) (cdv ct : Value) (us ws : List Value), us.length = n → ws.length = ks.length → bindArgs (PySem.W.fnOf x qual params body scope .none kV doc pm an cdv ct) ⟨us, ks.zip ws⟩ = pure (ps.zip (us ++ pick ix ws))) : KwZ fd ps ks n ix := ⟨fun s us ws l1 l2 => by
  obtain ⟨oc, od, dV, kV, doc, pm, an, cdv, ct, osl, rfl, lk, hcd, hD, hK⟩ := F.ex
  rcases hD with ⟨_, rfl⟩ | ⟨e, _⟩
  · exact .of_eq (h kV doc pm an cdv ct us ws l1 l2)
  · exact absurd rfl e⟩
/-- a call with n values ahead and keywords alone -/
def CallRK (X : Cx) (f : Value) (ks : List Str) (r : List V → List V → Hp → VK → Prop) : Prop := ∀ (pins : List (Addr × Obj)) (s : Shared) (σ : L2.St) (H : Hp) (as vs : List V) (bs us : List Value) (Q : VK), Inv X pins σ H s → Vals as bs → Vals vs us → us.length = ks.length → r as vs H Q →
  wpAny (model X.prog X.w) X.A (call f bs (ks.zip us)) (EP X pins σ Q) X.xe s
section
variable {X : Cx} {d : DefZ} {ps ks : List Str} {k j n : Nat} {ix : List Nat} {sp : Sp} {x m c : Str} {p pos apos kpos : Pos} {e o : Expr} {kws : List Keyword} {t : TA} {md : MD} {ma : MA} {me mo : ME} {mi : MI0} {nm : Option Str}
theorem k_nil : PK X [] (trA X.K aNil) := ⟨fun pos pins s σ H Q I ⟨g, e, s0, ds, s', R, E, hm, k⟩ => pk_nil.run pos pins s σ H Q I (by cases hm; exact k [] g H (.refl R) .nil)⟩
theorem k_cons (h : PE X e (trE X.K me)) (hr : PK X kws (trA X.K ma)) : PK X (⟨nm, e, kpos⟩ :: kws) (trA X.K (aCons me ma)) := ⟨fun pos pins s σ H Q I ⟨g, en, s0, ds, s', R, E, hm, k⟩ => (pk_cons h hr).run pos pins s σ H Q I (by
  obtain ⟨d, s1, h1, hm1⟩ := bnd_some hm
  obtain ⟨ds1, s2, h2, hm2⟩ := bnd_some hm1
  cases hm2
  exact ⟨g, en, s0, d, s1, R, E, h1, fun v g1 H1 st1 rv => ⟨g1, en, s1, ds1, s', st1.rel, E.step st1, h2, fun vs g2 H2 st2 rvs => k (v :: vs) g2 H2 (st1.trans st2) (.cons (rv.mono st2.le) rvs)⟩⟩)⟩
theorem DfZ.callRK (F : DfZ X.prog X.w X.K X.mg X.base k d ps sp) (hr : RmZ k X.A) (hk : ∀ fd, FunD X.K d.name d.qual d.params d.body d.scope (d.dvs X.K) [] (d.ad X.K) fd → KwZ fd ps ks n ix) :
    CallRK X (.ref (d.ad X.K)) ks (fun as vs H Q => as.length = n ∧ sp (as ++ pick ix vs) H Q fun _ _ _ => False) := fun pins s σ H as vs bs us Q I ra rv hl ⟨h0, h⟩ => by
  obtain ⟨fd, hfd, F, hb⟩ := F.ex
  have bt := (hk fd hfd).to s bs us (by rw [← ra.length]; exact h0) hl
  refine wpAny_call (codeAny_mono (F.run X.A X.stack s H ⟨bs, ks.zip us⟩ (bs ++ pick ix us) (as ++ pick ix vs) Q _ hr I.env0 bt (ra.append (vals_pick rv ix)) h) fun f s' hf => ?_)
  match f, hf with
  | .ok (.ret u), hf => exact I.after hf
/-- f(k = v, ..) of a value that is known -/
theorem pe_callRK {f : Addr} {r : List V → List V → Hp → VK → Prop} (cr : CallRK X (.ref f) ks r) (hk : PySem.W.keepIn X.K (.ref f) = true) (hg : Gl X x) (hm : X.mg x = some (.ref f)) (ha : PK X kws t) (hl : ∀ σ H Q, t σ H Q → t σ H fun vs H' => vs.length = ks.length ∧ Q vs H')
    (hdb : (x == ("__debug__" : Str)) = false := by decide +kernel) (hall : (backToKw pos (keywordEach kws X.env)).all (·.1.isSome) = true := by rfl) (hks : (backToKw pos (keywordEach kws X.env)).filterMap (·.1) = ks := by rfl)
    (hpl : ((backTo pos (starEach [] X.env)).any (·.1) || (backToKw pos (keywordEach kws X.env)).any (·.1.isNone)) = false := by rfl) : PE X (.Call (.Name x p) [] kws pos) (fun σ H Q => t σ H fun vs H' => r [] vs H' Q) := ⟨fun pins s σ H Q I h =>
  wpAny_Call_Name_kw (ld_glob I hg hm (PySem.W.callWith_KW0 (first := []) (h₀ := X.base) I.ok.mod.kin hk hall (thn (ha.run pos pins s σ H _ I (hl σ H _ h)) fun us s1 ⟨vs, H1, I1, rv, hlen, q⟩ => ⟨I1.kIn, by rw [hks]; exact cr pins s1 σ H1 [] vs [] us Q I1 .nil rv (by rw [← rv.length]; exact hlen) q⟩) hpl) hdb)⟩
theorem trA_len {K : PySem.W.Frag} {n : Nat} (h : ∀ e s ds s', ma e s = some (ds, s') → ds.length = n) {σ : L2.St} {H : Hp} {Q : List V → Hp → Prop} (q : trA K ma σ H Q) : trA K ma σ H fun vs H' => vs.length = n ∧ Q vs H' :=
  let ⟨g, e, s, ds, s', R, E, hm, k⟩ := q
  ⟨g, e, s, ds, s', R, E, hm, fun vs g' H' st r => ⟨by rw [r.length]; exact h e s ds s' hm, k vs g' H' st r⟩⟩
theorem len_nil : ∀ (e : EnvD) (s : S) ds s', aNil e s = some (ds, s') → ds.length = 0 := fun e s ds s' h => by cases h; rfl
theorem len_cons {n : Nat} (h : ∀ e s ds s', ma e s = some (ds, s') → ds.length = n) : ∀ e s ds s', aCons me ma e s = some (ds, s') → ds.length = n + 1 := fun e s ds s' q => by
  obtain ⟨d, s1, h1, hm1⟩ := bnd_some q
  obtain ⟨ds1, s2, h2, hm2⟩ := bnd_some hm1
  cases hm2
  rw [List.length_cons, h _ _ _ _ h2]
def mdPick (ix : List Nat) (md : MD) : MD := fun ds s => md (pick ix ds) s
theorem d_callK (F : DfZ X.prog X.w X.K X.mg X.base j d ps (spM X.K md)) (hr : RmZ k X.A) (hj : j ≤ k) (hk : ∀ fd, FunD X.K d.name d.qual d.params d.body d.scope (d.dvs X.K) [] (d.ad X.K) fd → KwZ fd ps ks 0 ix) (hg : Gl X x) (hm : X.mg x = some (.ref (d.ad X.K)))
    (ha : PK X kws (trA X.K ma)) (hl : ∀ e s ds s', ma e s = some (ds, s') → ds.length = ks.length)
    (hdb : (x == ("__debug__" : Str)) = false := by decide +kernel) (hall : (backToKw pos (keywordEach kws X.env)).all (·.1.isSome) = true := by rfl) (hks : (backToKw pos (keywordEach kws X.env)).filterMap (·.1) = ks := by rfl)
    (hpl : ((backTo pos (starEach [] X.env)).any (·.1) || (backToKw pos (keywordEach kws X.env)).any (·.1.isNone)) = false := by rfl) : PE X (.Call (.Name x p) [] kws pos) (trE X.K (mCallD (mdPick ix md) ma)) :=
  PE.imp (pe_callRK (F.callRK (hr.mono hj) hk) F.kp hg hm ha (fun _ _ _ q => trA_len hl q) hdb hall hks hpl) fun σ H Q ⟨g, e, s, d, s', R, E, hm, k⟩ => by
  obtain ⟨ds, s1, h1, hm1⟩ := bnd_some hm
  exact ⟨g, e, s, ds, s1, R, E, h1, fun vs g1 H1 st1 rv => ⟨rfl, g1, s1, _, d, s', st1.rel, rep_pick rv ix, hm1, fun v g2 H2 st2 r2 => k v g2 H2 (st1.trans st2) r2⟩⟩
/-- o.m(k = v, ..) -/
def mMethK (c m : Str) (ix : List Nat) (md : MD) (mo : ME) (ma : MA) : ME := fun e s => bnd (mo e s) fun d s => match d with
  | .obj c' fs => if c' = c ∧ lookF fs m = none then bnd (ma e s) fun ds s => md (.obj c' fs :: pick ix ds) s else none
  | _ => none
end
end Z

set_option Elab.async false
set_option linter.all false
set_option maxRecDepth 100000
set_option maxHeartbeats 4000000
namespace Z
open PySem PySem.Spec PyProof.Rows L2
/-! ### C.m(..), m a classmethod -/
def mCm (c : Str) (md : MD) (mo : ME) (ma : MA) : ME := fun e s => bnd (mo e s) fun d s => match d with
  | .ty c' => if c' = c then bnd (ma e s) fun ds s => md (.ty c :: ds) s else none
  | _ => none
def mCmK (c : Str) (ix : List Nat) (md : MD) (mo : ME) (ma : MA) : ME := fun e s => bnd (mo e s) fun d s => match d with
  | .ty c' => if c' = c then bnd (ma e s) fun ds s => md (.ty c :: pick ix ds) s else none
  | _ => none
section
variable {X : Cx} {d : DefZ} {ps ks : List Str} {k j : Nat} {ix : List Nat} {m c : Str} {pos apos : Pos} {e o : Expr} {es : List Expr} {kws : List Keyword} {md : MD} {ma : MA} {mo : ME} {rec : Addr}
end
end Z

set_option Elab.async false
set_option linter.all false
set_option maxRecDepth 100000
set_option maxHeartbeats 4000000
namespace Z
open PySem PySem.Spec PyProof.Rows L2
/-! ### {k: v for .. in .. for .. in ..} -/
abbrev dE2 (kx vx t0 i0 : Expr) (f0 : List Expr) (t1 i1 : Expr) (f1 : List Expr) (sc : Scope) (ps : Pos) : Expr := .DictComp kx vx [⟨t0, i0, f0, 0⟩, ⟨t1, i1, f1, 0⟩] sc ps
section
variable {kx vx t0 i0 t1 i1 : Expr} {f0 f1 : List Expr} {sc : Scope} {ps : Pos} {it : Value} {cell : Addr} {env : Env}
theorem dturn0 : compTurn (dE2 kx vx t0 i0 f0 t1 i1 f1 sc ps) 0 it (.ref cell) env = (do
    standAt i0.pos
    match ← pyNext it with
    | none => pure (.done .next)
    | some item =>
      letOwnedTupleGo t0 it item
      assign t0 env item
      let mut go := true
      for c in f0 do
        if go then go ← isTrue c env (eval c env)
      if go then
        let src ← eval i1 env
        standAt i1.pos
        let src ← foldedSetIterable i1 env src
        let _ ← runOwn (.compStart (dE2 kx vx t0 i0 f0 t1 i1 f1 sc ps) 1 (← holding [src] (pyIter src)) (.ref cell) env) env
      again (.compLoop (dE2 kx vx t0 i0 f0 t1 i1 f1 sc ps) 0 it (.ref cell) env)) := by rfl
theorem dturn1 : compTurn (dE2 kx vx t0 i0 f0 t1 i1 f1 sc ps) 1 it (.ref cell) env = (do
    standAt i1.pos
    match ← pyNext it with
    | none => pure (.done .next)
    | some item =>
      letOwnedTupleGo t1 it item
      assign t1 env item
      let mut go := true
      for c in f1 do
        if go then go ← isTrue c env (eval c env)
      if go then
        (do
          let kk ← eval kx env
          let vv ← holding [kk] (eval vx env)
          standAt { kx.pos with endLine := vx.pos.endLine, endCol := vx.pos.endCol }
          holding [kk, vv] (dictSet cell kk vv))
      again (.compLoop (dE2 kx vx t0 i0 f0 t1 i1 f1 sc ps) 1 it (.ref cell) env)) := by rfl
variable {prog : Program} {w : World} {A : Around} {R : Result → Shared → Prop} {s : Shared}
abbrev nxE (prog : Program) (w : World) (A : Around) (env : Env) (R : Result → Shared → Prop) : Value → Shared → Prop := notedBy (model prog w) A env fun e s' => R (.error e) s'
/-- the tests of a clause -/
abbrev tests (fs : List Expr) (env : Env) : Sem Bool := forIn fs true fun c r => if r = true then do let ok ← isTrue c env (eval c env); pure (ForInStep.yield ok) else pure (ForInStep.yield r)
theorem dloop0 (hs : ∀ x, foldedSetIterable i1 env x = pure x) (J : Nat → Shared → Prop)
    (turn : ∀ n s, J n s → wpAny (model prog w) A (pyNext it) (fun r a => match r with
      | none => R (.ok .next) a
      | some item => wpAny (model prog w) A (letOwnedTupleGo t0 it item) (fun _ b => wpAny (model prog w) A (assign t0 env item) (fun _ c => wpAny (model prog w) A (tests f0 env) (fun go d =>
          if go = true then wpAny (model prog w) A (eval i1 env) (fun x e => wpAny (model prog w) A (pyIter x) (fun it1 f =>
              codeAny (model prog w) A (.compStart (dE2 kx vx t0 i0 f0 t1 i1 f1 sc ps) 1 it1 (.ref cell) env) (fun r z => match r with
                | .ok _ => ∃ m, m < n ∧ J m z
                | .error _ => False) f) (nxE prog w A env R) e) (nxE prog w A env R) d
          else ∃ m, m < n ∧ J m d) (nxE prog w A env R) c) (nxE prog w A env R) b) (nxE prog w A env R) a) (nxE prog w A env R) s)
    (n : Nat) (h : J n s) : codeAny (model prog w) A (.compLoop (dE2 kx vx t0 i0 f0 t1 i1 f1 sc ps) 0 it (.ref cell) env) R s := by
  refine codeAny_loop rfl J (fun n s hJ => ?_) n h
  show wpAny _ A ((compTurn (dE2 kx vx t0 i0 f0 t1 i1 f1 sc ps) 0 it (.ref cell) env).onRaise (fun x => do noteFrame x env; theTreesLotGoes x)) _ _ s
  refine wpAny_noted ?_
  rw [dturn0]
  refine wpAny_bind (wpAny_standAt (wpAny_bind (wpAny_mono (turn n s hJ) (fun r a ha => ?_) fun _ _ z => z)))
  match r, ha with
  | none, ha => exact wpAny_pure ha
  | some item, ha =>
    refine wpAny_bind (wpAny_mono ha (fun _ b hb => wpAny_bind (wpAny_mono hb (fun _ c hc => wpAny_bind (wpAny_mono hc (fun go d hd => ?_) fun _ _ z => z)) fun _ _ z => z)) fun _ _ z => z)
    match go, hd with
    | false, hd => exact wpAny_pure ⟨rfl, hd⟩
    | true, hd =>
      refine wpAny_bind (wpAny_mono hd (fun x e he => wpAny_bind (wpAny_standAt (wpAny_bind (wpAny_of_eq (hs x) (wpAny_bind (wpAny_holding (wpAny_mono he (fun it1 f hf => ?_) fun _ _ z => z))))))) fun _ _ z => z)
      refine wpAny_bind (wpAny_runOwn ?_)
      rw [Around.mark_none]
      refine codeAny_mono hf fun r z hr => ?_
      match r, hr with
      | .ok _, hr =>
        first
          | exact wpAny_pure ⟨rfl, hr⟩
          | exact wpAny_bind (wpAny_pure (wpAny_pure ⟨rfl, hr⟩))
theorem dloop1 (J : Nat → Shared → Prop)
    (turn : ∀ n s, J n s → wpAny (model prog w) A (pyNext it) (fun r a => match r with
      | none => R (.ok .next) a
      | some item => wpAny (model prog w) A (letOwnedTupleGo t1 it item) (fun _ b => wpAny (model prog w) A (assign t1 env item) (fun _ c => wpAny (model prog w) A (tests f1 env) (fun go d =>
          if go = true then wpAny (model prog w) A (eval kx env) (fun kk e => wpAny (model prog w) A (eval vx env) (fun vv f =>
              wpAny (model prog w) A (dictSet cell kk vv) (fun _ z => ∃ m, m < n ∧ J m z) (nxE prog w A env R) f) (nxE prog w A env R) e) (nxE prog w A env R) d
          else ∃ m, m < n ∧ J m d) (nxE prog w A env R) c) (nxE prog w A env R) b) (nxE prog w A env R) a) (nxE prog w A env R) s)
    (n : Nat) (h : J n s) : codeAny (model prog w) A (.compLoop (dE2 kx vx t0 i0 f0 t1 i1 f1 sc ps) 1 it (.ref cell) env) R s := by
  refine codeAny_loop rfl J (fun n s hJ => ?_) n h
  show wpAny _ A ((compTurn (dE2 kx vx t0 i0 f0 t1 i1 f1 sc ps) 1 it (.ref cell) env).onRaise (fun x => do noteFrame x env; theTreesLotGoes x)) _ _ s
  refine wpAny_noted ?_
  rw [dturn1]
  refine wpAny_bind (wpAny_standAt (wpAny_bind (wpAny_mono (turn n s hJ) (fun r a ha => ?_) fun _ _ z => z)))
  match r, ha with
  | none, ha => exact wpAny_pure ha
  | some item, ha =>
    refine wpAny_bind (wpAny_mono ha (fun _ b hb => wpAny_bind (wpAny_mono hb (fun _ c hc => wpAny_bind (wpAny_mono hc (fun go d hd => ?_) fun _ _ z => z)) fun _ _ z => z)) fun _ _ z => z)
    match go, hd with
    | false, hd => exact wpAny_pure ⟨rfl, hd⟩
    | true, hd =>
      exact wpAny_bind (wpAny_bind (wpAny_mono hd (fun kk e he => wpAny_bind (wpAny_holding (wpAny_mono he (fun vv f hf => wpAny_bind (wpAny_standAt (wpAny_holding (wpAny_mono hf (fun _ z hz => wpAny_pure ⟨rfl, hz⟩) fun _ _ q => q)))) fun _ _ q => q))) fun _ _ q => q))
theorem dstart1 (a0 : codeAny (model prog w) A (.compLoop (dE2 kx vx t0 i0 f0 t1 i1 f1 sc ps) 1 it (.ref cell) env) R s)
    (a1 : wpAny (model prog w) A (pyIter it) (fun u z => codeAny (model prog w) A (.compLoop (dE2 kx vx t0 i0 f0 t1 i1 f1 sc ps) 1 u (.ref cell) env) R z) (nxE prog w A env R) s) :
    codeAny (model prog w) A (.compStart (dE2 kx vx t0 i0 f0 t1 i1 f1 sc ps) 1 it (.ref cell) env) R s := by
  refine codeAny_of_tree ?_
  show wpAny _ _ ((compStart (dE2 kx vx t0 i0 f0 t1 i1 f1 sc ps) 1 it (.ref cell) env).onRaise (fun x => do noteFrame x env; standAt theWindowsPlace)) _ _ s
  refine wpAny_notedAt ?_
  unfold compStart
  show wpAny _ _ (ask >>= _) _ _ s
  refine wpAny_bind (wpAny_askSetting (wpAny_ite ?_))
  split
  · first
      | exact wpAny_pure ⟨rfl, a0⟩
      | exact wpAny_bind (wpAny_pure (wpAny_pure ⟨rfl, a0⟩))
  · first
      | exact wpAny_bind (wpAny_rule (wpAny_bind (wpAny_standAt (wpAny_bind (wpAny_mono a1 (fun u z hz => wpAny_pure ⟨rfl, hz⟩) fun _ _ q => q)))))
      | (refine wpAny_bind (wpAny_rule ?_); show wpAny _ _ (standAt i1.pos >>= _) _ _ s; exact wpAny_bind (wpAny_standAt (wpAny_bind (wpAny_mono a1 (fun u z hz => wpAny_pure ⟨rfl, hz⟩) fun _ _ q => q))))
end
end Z
namespace Z
open PySem PySem.Spec PyProof.Rows L2
/-- of the block of a comprehension, wherever it runs -/
abbrev InBlk (X : Cx) (sc : Scope) (p : Cx → Prop) : Prop := ∀ (s : Shared) (H : Hp) (C : Addr) (cl : List (Str × Addr)) (fp : List Addr), p (X.blk s H sc (compEnvC sc cl C X.env) fp)
section
variable {X : Cx}
def tDc2 (wi : TI) (g : TG) (tt : TT) (wi1 : TI) (g1 : TG) (tt1 : TT) (tk tv : TE) (vs vs1 : List Nat) : TE := fun σ H Q => wi σ H fun J Ha => ∀ M, Ha M = none → ∃ W : Nat → Nat → Hp → Prop, (∃ m, W 0 m (upd Ha M (.dK []))) ∧ ∀ i m H, W i m H →
  (J.stop i H ∧ Q (.ref M) H) ∨ (J.go i H ∧ ∃ Nx : Hp → Prop, (∀ Hz, Nx Hz → ∃ m', m' < m ∧ W (i + 1) m' Hz) ∧ ∀ x Hb, J.yld i H x Hb → g x (wipe σ vs) Hb fun σ2 Hc => wipe σ2 vs = wipe σ vs ∧ tt σ2 Hc fun b Hd =>
    if b = true then wi1 σ2 Hd fun J1 He => ∃ W1 : Nat → Nat → Hp → Prop, (∃ m, W1 0 m He) ∧ ∀ j k H, W1 j k H →
      (J1.stop j H ∧ Nx H) ∨ (J1.go j H ∧ ∃ Nx1 : Hp → Prop, (∀ Hz, Nx1 Hz → ∃ k', k' < k ∧ W1 (j + 1) k' Hz) ∧ ∀ x Hf, J1.yld j H x Hf → g1 x (wipe σ2 vs1) Hf fun σ3 Hg => wipe σ3 vs1 = wipe σ2 vs1 ∧ tt1 σ3 Hg fun b Hh =>
        if b = true then tk σ3 Hh fun y Hi => tv σ3 Hi fun z Hj => ∃ kvs k, y = kV k ∧ Hj M = some (.dK kvs) ∧ kvs.length < sizeLine ∧ Nx1 (upd Hj M (.dK (putK kvs k z))) else Nx1 Hh)
    else Nx Hd)
variable {pins : List (Addr × Obj)} {s : Shared} {σ : L2.St} {H : Hp} {Q : VK} {kx vx t0 i0 t1 i1 : Expr} {f0 f1 : List Expr} {sc : Scope} {own : List (Str × Nat)} {vs1 : List Nat} {ps ps' : Pos} {wi wi1 : TI} {g g1 : TG} {tt tt1 : TT} {tk tv : TE} {use : Option (Value → Sem Unit)} {Qf : Value → Shared → Prop}
theorem dc2_core (hc : X.calm = true) (hN : X.N.Nodup) (I : Inv X pins σ H s) (hi : PI X t0 i0 wi) (ok : BlkOk X.N X.env.scope sc own) (hv : ∀ i ∈ vs1, i ∈ own.map (·.2))
    (hg : InBlk X sc fun Y => PG Y t0 g) (ht : InBlk X sc fun Y => PTs Y f0 tt) (hk : InBlk X sc fun Y => PE Y kx tk) (he : InBlk X sc fun Y => PE Y vx tv)
    (hi1 : InBlk X sc fun Y => PI Y t1 i1 wi1) (hg1 : InBlk X sc fun Y => PG Y t1 g1) (ht1 : InBlk X sc fun Y => PTs Y f1 tt1) (hs : ∀ x, foldedSetIterable i0 X.env x = pure x) (hs1 : ∀ env x, foldedSetIterable i1 env x = pure x)
    (h : tDc2 wi g tt wi1 g1 tt1 tk tv (own.map (·.2)) vs1 σ H Q)
    (out : ∀ M C z m Hz, Inv X pins σ Hz z → Q (.ref M) Hz → z.heap.Ns C m → FpOk X pins Hz C → compPost (model X.prog X.w) X.A X.xe use Qf (.ref M) C (.ok .next) z) :
    wpAny (model X.prog X.w) X.A (comprehension (dE2 kx vx t0 i0 f0 t1 i1 f1 sc ps) sc X.env ps' newDict false (eval i0 X.env) use) Qf X.xe s := by
  have clo : ∀ y ∈ sc.names, y.2 = .free → ∃ c, X.env.cells.lookup y.1 = some c := fun y hy e => (ok.free y hy e).elim (fun z => I.ok.has _ (.inl z)) fun z => I.ok.has _ (.inr z)
  refine wpAny_comprehension_free (use := use) rfl hs (closure_ok clo) ok.kind (fun y hy e => by rw [ok.uniq y hy, e]) (thn (hi.run pins s σ H _ I h) fun src sa ha => thn ha fun itv sb hb => ?_)
  obtain ⟨it, fp, tn, J, Hb, rfl, Ib, T, stb, fb, q⟩ := hb
  refine wpAny_newObj_type (newEnv_comp ?_)
  generalize hM : sb.heap.objs.size = M
  have freeM : Hb M = none := Ib.hok.fresh (Nat.le_of_eq hM)
  obtain ⟨W, ⟨m0, w0⟩, turn⟩ := q M freeM
  generalize hsc : ({ sb with heap := sb.heap.push { cls := .type "dict", data := .dict #[] } } : Shared) = sd
  have hpd : sd.heap = sb.heap.push { cls := .type "dict", data := .dict #[] } := by rw [← hsc]
  have Id : Inv X pins σ (upd Hb M (.dK [])) sd := by
    subst hsc
    refine Ib.laid (t' := sb.toks) (fun b o e => Heap.get?_push_of_some _ e) (Nat.le_of_eq hM) ?_
    subst hM
    exact dk_empty sb.heap Ib.big
  have fpLt : ∀ b ∈ fp, b < sb.heap.objs.size := fun b hb => let ⟨o, e, _⟩ := T.obj _ _ stb b hb; Heap.lt_size e
  have fd : ∀ b ∈ fp, FpOk X pins (upd Hb M (.dK [])) b ∧ b < sd.heap.objs.size := fun b hb => by
    have lt := fpLt b hb
    have ne : b ≠ M := by rw [← hM]; exact Nat.ne_of_lt lt
    exact ⟨⟨by rw [upd_ne ne]; exact (fb b hb).1, (fb b hb).2⟩, by rw [hpd, Heap.size_push]; exact Nat.lt_succ_of_lt lt⟩
  have std : tn 0 sd.heap := T.keep _ _ _ stb fun b _ o e => by rw [hpd]; exact Heap.get?_push_of_some _ e
  have Ie := block_start Id ok hN fd
  generalize hcl : cellsFrom (sd.heap.objs.size + 1) sc.names (cloFrom X.env.cells sc.names []) = cl at Ie
  have pg := hg sd (upd Hb M (.dK [])) sd.heap.objs.size cl fp
  have pt := ht sd (upd Hb M (.dK [])) sd.heap.objs.size cl fp
  have pk := hk sd (upd Hb M (.dK [])) sd.heap.objs.size cl fp
  have pv := he sd (upd Hb M (.dK [])) sd.heap.objs.size cl fp
  have qi := hi1 sd (upd Hb M (.dK [])) sd.heap.objs.size cl fp
  have qg := hg1 sd (upd Hb M (.dK [])) sd.heap.objs.size cl fp
  have qt := ht1 sd (upd Hb M (.dK [])) sd.heap.objs.size cl fp
  show codeAny _ _ (.compStart (dE2 kx vx t0 i0 f0 t1 i1 f1 sc ps) 0 (.ref it) (.ref M) (compEnvC sc cl sd.heap.objs.size X.env)) (compPost (model X.prog X.w) X.A X.xe use Qf (.ref M) sd.heap.objs.size) { sd with heap := pushCells (sd.heap.push { cls := .type "dict", data := .dict #[] }) sc.names }
  have fpN : ∀ b ∈ fp, (upd Hb M (.dK [])) b = none := fun b hb => (fd b hb).1.1
  generalize hce : compEnvC sc cl sd.heap.objs.size X.env = ce at Ie pg pt pk pv qi qg qt ⊢
  have ceL : ce.locals = sd.heap.objs.size := by subst hce; rfl
  generalize hHd : upd Hb M (.dK []) = Hd at Id Ie pg pt pk pv qi qg qt w0 fpN fd
  generalize hse : ({ sd with heap := pushCells (sd.heap.push { cls := .type "dict", data := .dict #[] }) sc.names } : Shared) = se at Ie ⊢
  have ste : tn 0 se.heap := T.keep _ _ _ std fun b _ o e => by rw [← hse]; exact pushCells_keeps _ _ _ _ (Heap.get?_push_of_some _ e)
  have still : ∀ {σz : L2.St} {Hz : Hp} {z : Shared}, Inv (X.blk sd Hd sc ce fp) [] σz Hz z → (∀ b ∈ fp, Hz b = none) → ∀ b ∈ fp, FpOk (X.blk sd Hd sc ce fp) [] Hz b := fun {σz Hz z} Iz n b hb =>
    ⟨n b hb, (Iz.ok.exf b hb).1, Iz.ok.exfs b hb, .inl hb, fun x c e => (Iz.ok.exf b hb).2 x c e, fun p hp => absurd (show p ∈ ([] : List (Addr × Obj)) ++ [] from hp) (by simp)⟩
  have outer : codeAny (model X.prog X.w) X.A (.compLoop (dE2 kx vx t0 i0 f0 t1 i1 f1 sc ps) 0 (.ref it) (.ref M) ce) (compPost (model X.prog X.w) X.A X.xe use Qf (.ref M) sd.heap.objs.size) se := by
    refine dloop0 (hs1 ce) (fun n z => ∃ i Hz, Inv (X.blk sd Hd sc ce fp) [] (wipe σ (own.map (·.2))) Hz z ∧ tn i z.heap ∧ (∀ b ∈ fp, Hz b = none) ∧ W i n Hz) ?_ m0 ⟨0, Hd, Ie, ste, fpN, w0⟩
    rintro n sf ⟨i, Hf, If, stf, nf, wf⟩
    rcases turn i n Hf wf with ⟨stop, qq⟩ | ⟨go, Nx, hNx, step⟩
    · refine thnF (T.done (X.blk sd Hd sc ce fp) rfl rfl rfl hc i [] sf _ Hf (fun _ _ => False) If (still If nf) stf stop) fun r sg ⟨hr, Ig⟩ => ?_
      subst hr
      have back : Inv X pins σ Hf sg := Id.call' (ch := fp) Ig.os Ig.base Ig.hok Ig.bare fun b hb => let f := (fd b hb).1.2; ⟨f.2.2.1, f.1, f.2.2.2.1, f.2.2.2.2⟩
      have noC : Hf sd.heap.objs.size = none := by rw [← ceL]; exact Ig.free
      obtain ⟨m, hn, _⟩ := Ig.loc
      have hn : sg.heap.Ns ce.locals m := hn
      rw [ceL] at hn
      exact out M sd.heap.objs.size sg m Hf back qq hn (Id.fpOk (Nat.le_refl _) noC)
    · refine thnF (T.item (X.blk sd Hd sc ce fp) rfl rfl rfl hc i [] sf _ Hf (fun _ _ => False) If (still If nf) stf go) fun r sg ⟨u, hr, hg⟩ => ?_
      subst hr
      refine thnF hg fun _ sh ⟨x, Hh, Ih, rh, yh, sth, nh⟩ => ?_
      have Ip := Ih.pinned (still Ih nh) (T.obj _ _ sth)
      refine thnF (pg.run _ sh _ Hh x u _ Ip rh (step x Hh yh)) fun _ si ⟨σi, Hi, Ii, wi8, qi8⟩ => ?_
      refine thnF (pt.run _ si σi Hi _ Ii qi8) fun b sj ⟨Hj, Ij, qj⟩ => ?_
      have close : ∀ {σz : L2.St} {z : Shared} {Hz : Hp}, Inv (X.blk sd Hd sc ce fp) ([] ++ pinsAt fp sh.heap) σz Hz z → (wipe σ (own.map (·.2))).length = σz.length → (∀ (j : Nat) v, (wipe σ (own.map (·.2)))[j]? = some (some v) → σz[j]? = some (some v)) → Nx Hz →
          ∃ m, m < n ∧ ∃ i Hz, Inv (X.blk sd Hd sc ce fp) [] (wipe σ (own.map (·.2))) Hz z ∧ tn i z.heap ∧ (∀ b ∈ fp, Hz b = none) ∧ W i m Hz := fun {σz z Hz} Iz hl hkk nx => by
        obtain ⟨m', hm, w'⟩ := hNx Hz nx
        have pinned : ∀ b ∈ fp, ∀ o, sh.heap.get? b = some o → z.heap.get? b = some o ∧ Hz b = none := fun b hb o e => by
          have p := Iz.pin (b, o) (List.mem_append_right _ (List.mem_append_right _ (mem_pinsAt hb e)))
          exact ⟨p.1, p.2.1⟩
        exact ⟨m', hm, i + 1, Hz, (Iz.unpinned (pins := [])).weak hl hkk, T.keep _ _ _ sth fun b hb o e => (pinned b hb o e).1, fun b hb => let ⟨o, e, _⟩ := T.obj _ _ sth b hb; (pinned b hb o e).2, w'⟩
      have len8 : (wipe σ (own.map (·.2))).length = σi.length := by rw [← wi8, wipe_length]
      have keep8 : ∀ (j : Nat) v, (wipe σ (own.map (·.2)))[j]? = some (some v) → σi[j]? = some (some v) := fun j v e => (wipe_some (wi8 ▸ e)).1
      have keep9 : ∀ (j : Nat) v, (wipe σ (own.map (·.2)))[j]? = some (some v) → (wipe σi vs1)[j]? = some (some v) := fun j v e => by
        have w := wipe_some (wi8.symm ▸ e)
        rw [wipe_out fun z => w.2 (hv j z)]
        exact w.1
      match b, qj with
      | false, qj =>
        simp only [Bool.false_eq_true, if_false] at qj ⊢
        exact close Ij len8 keep8 qj
      | true, qj =>
        simp only [if_true] at qj ⊢
        refine thnF (qi.run _ sj σi Hj _ Ij qj) fun xv sk hx => thnF hx fun itv sl hl => ?_
        obtain ⟨it1, fp1, tn1, J1, Hl, rfl, Il, T1, stl, fl, W1, ⟨m1, w1⟩, turn1⟩ := hl
        have still1 : ∀ {Hz : Hp}, (∀ b ∈ fp1, Hz b = none) → ∀ b ∈ fp1, FpOk (X.blk sd Hd sc ce fp) ([] ++ pinsAt fp sh.heap) Hz b := fun n b hb => ⟨n b hb, (fl b hb).2⟩
        have inner : codeAny (model X.prog X.w) X.A (.compLoop (dE2 kx vx t0 i0 f0 t1 i1 f1 sc ps) 1 (.ref it1) (.ref M) ce)
            (fun r z => match r with
              | .ok _ => ∃ m, m < n ∧ ∃ i Hz, Inv (X.blk sd Hd sc ce fp) [] (wipe σ (own.map (·.2))) Hz z ∧ tn i z.heap ∧ (∀ b ∈ fp, Hz b = none) ∧ W i m Hz
              | .error _ => False) sl := by
          refine dloop1 (fun k z => ∃ j Hz, Inv (X.blk sd Hd sc ce fp) ([] ++ pinsAt fp sh.heap) (wipe σi vs1) Hz z ∧ tn1 j z.heap ∧ (∀ b ∈ fp1, Hz b = none) ∧ W1 j k Hz) ?_ m1 ⟨0, Hl, Il.weak (wipe_length _ _) (fun j v e => (wipe_some e).1), stl, fun b hb => (fl b hb).1, w1⟩
          rintro k sm ⟨j, Hm, Im, stm, nm, wm⟩
          rcases turn1 j k Hm wm with ⟨stop1, nx1⟩ | ⟨go1, Nx1, hNx1, step1⟩
          · refine thnF (T1.done (X.blk sd Hd sc ce fp) rfl rfl rfl hc j _ sm (wipe σi vs1) Hm (fun _ _ => False) Im (still1 nm) stm stop1) fun r sn ⟨hr, In⟩ => ?_
            subst hr
            exact close In (len8.trans (wipe_length σi vs1).symm) keep9 nx1
          · refine thnF (T1.item (X.blk sd Hd sc ce fp) rfl rfl rfl hc j _ sm (wipe σi vs1) Hm (fun _ _ => False) Im (still1 nm) stm go1) fun r sn ⟨u1, hr, hn⟩ => ?_
            subst hr
            refine thnF hn fun _ so ⟨x1, Ho, Io, ro, yo, sto, no⟩ => ?_
            refine thnF (qg.run _ so (wipe σi vs1) Ho x1 u1 _ (Io.pinned (still1 no) (T1.obj _ _ sto)) ro (step1 x1 Ho yo)) fun _ sp ⟨σp, Hp_, Ip_, wp_, qp⟩ => ?_
            refine thnF (qt.run _ sp σp Hp_ _ Ip_ qp) fun b1 sq ⟨Hq, Iq, qq⟩ => ?_
            have close1 : ∀ {z : Shared} {Hz : Hp}, Inv (X.blk sd Hd sc ce fp) (([] ++ pinsAt fp sh.heap) ++ pinsAt fp1 so.heap) σp Hz z → Nx1 Hz → ∃ m, m < k ∧ ∃ j Hz, Inv (X.blk sd Hd sc ce fp) ([] ++ pinsAt fp sh.heap) (wipe σi vs1) Hz z ∧ tn1 j z.heap ∧ (∀ b ∈ fp1, Hz b = none) ∧ W1 j m Hz := fun {z Hz} Iz nx => by
              obtain ⟨m', hm, w'⟩ := hNx1 Hz nx
              have pinned : ∀ b ∈ fp1, ∀ o, so.heap.get? b = some o → z.heap.get? b = some o ∧ Hz b = none := fun b hb o e => by
                have p := Iz.pin (b, o) (List.mem_append_right _ (List.mem_append_right _ (mem_pinsAt hb e)))
                exact ⟨p.1, p.2.1⟩
              exact ⟨m', hm, j + 1, Hz, Iz.unpinned.weak (by rw [← wp_, wipe_length]) (fun j v e => (wipe_some (wp_.symm ▸ e)).1), T1.keep _ _ _ sto fun b hb o e => (pinned b hb o e).1, fun b hb => let ⟨o, e, _⟩ := T1.obj _ _ sto b hb; (pinned b hb o e).2, w'⟩
            match b1, qq with
            | false, qq =>
              simp only [Bool.false_eq_true, if_false] at qq ⊢
              exact close1 Iq qq
            | true, qq =>
              simp only [if_true] at qq ⊢
              refine thnF (pk.run _ sq σp Hq _ Iq qq) fun z1 sr ⟨yk, Hr, Ir, rr, qr⟩ => ?_
              refine thnF (pv.run _ sr σp Hr _ Ir qr) fun z2 ss ⟨yv, Hs, Is, rs, kvs, kk, ek, hDs, hzs, nx⟩ => ?_
              subst ek
              exact d_dictSet (X := X.blk sd Hd sc ce fp) Is hDs hzs rr rs fun st It => close1 It nx
        exact dstart1 inner (T1.self X.A 0 _ _ _ stl inner)
  exact codeAny_compStart_dict outer (T.self X.A 0 _ _ _ ste outer)
end
end Z
namespace Z
open PySem PySem.Spec PyProof.Rows L2
def dcL2 (mc : MC) (mt : MT) (mi1 : MI) (vs1 : List Nat) (mc1 : MC) (mt1 : MT) (mk mv : ME) (e : EnvD) : List D → List (Key × D) → S → Option (List (Key × D) × S)
  | [], acc, s => some (acc, s)
  | d :: ds, acc, s => match mc d e with
    | none => none
    | some e1 => match mt e1 s with
      | none => none
      | some (false, s1) => dcL2 mc mt mi1 vs1 mc1 mt1 mk mv e ds acc s1
      | some (true, s1) => match mi1 e1 s1 with
        | none => none
        | some (ds1, s2) => match dcL mc1 mt1 mk mv (wipeE e1 vs1) ds1 acc s2 with
          | none => none
          | some (acc1, s3) => dcL2 mc mt mi1 vs1 mc1 mt1 mk mv e ds acc1 s3
def mDc2 (vs : List Nat) (mi : MI) (mc : MC) (mt : MT) (mi1 : MI) (vs1 : List Nat) (mc1 : MC) (mt1 : MT) (mk mv : ME) : ME := fun e s => bnd (mi e s) fun ds s1 => bnd (dcL2 mc mt mi1 vs1 mc1 mt1 mk mv (wipeE e vs) ds [] s1) fun ys s2 => some (.dic ys, s2)
section
variable {K : PySem.W.Frag} {vs vs1 : List Nat} {mi mi1 : MI} {mc mc1 : MC} {mt mt1 : MT} {mk mv : ME} {t t1 : TG}
theorem tDc2_of {σ : L2.St} {H : Hp} {Q : VK} (ht : CtOk K vs t mc) (ht1 : CtOk K vs1 t1 mc1) (h : trF K (mDc2 vs mi mc mt mi1 vs1 mc1 mt1 mk mv) σ H Q) :
    tDc2 (trI K mi) t (trT K mt) (trI K mi1) t1 (trT K mt1) (trE K mk) (trE K mv) vs vs1 σ H Q := by
  obtain ⟨g, e, s, d, s', R0, E0, hm, k⟩ := h
  obtain ⟨ds, s1, h1, hm1⟩ := bnd_some hm
  obtain ⟨ys, s2, h2, hm2⟩ := bnd_some hm1
  cases hm2
  refine ⟨g, e, s, ds, s1, R0, E0, h1, fun J g1 H1 st1 hJ P hP => ?_⟩
  obtain ⟨hn0, hf1, hc1⟩ := st1.fresh hP
  have stp := st1.put (u := .dK []) hn0 hc1 hf1
  have own0 : ∀ {j : Nat} {d : D}, e[j]? = some (Sl.own d) → σ[j]? ≠ some (some (V.ref P)) := fun {j d} hj => E0.noOwn hn0 hj
  let At (n : Nat) (H2 : Hp) : Prop := ∃ g2 s3 vs2 acc2, Step K g H g2 H2 s3 ∧ GLe g1 g2 ∧ H2 P = some (.dK vs2) ∧ P ∉ g2.ad ∧ g2.F P = none ∧ RepK K g2 vs2 acc2 ∧ dcL2 mc mt mi1 vs1 mc1 mt1 mk mv (wipeE e vs) (ds.drop n) acc2 s3 = some (ys, s')
  refine ⟨fun i m H2 => m = ds.length - i ∧ i ≤ ds.length ∧ At i H2, ⟨_, rfl, Nat.zero_le _, g1, s1, [], [], stp, .refl, upd_same, hc1, hf1, .nil, by simpa using h2⟩, ?_⟩
  rintro i m H2 ⟨rfl, hi, g2, s3, vs2, acc2, st2, L2, hP2, hc2, hf2, ra, hl⟩
  by_cases hlt : i < ds.length
  · refine .inr ⟨hJ.go g2 H2 s3 i st2.rel L2 hlt, At (i + 1), fun H' q => ⟨ds.length - (i + 1), by omega, rfl, hlt, q⟩, fun x H3 y => ?_⟩
    rw [List.drop_eq_getElem_cons hlt] at hl
    obtain ⟨g3, st3, rx⟩ := hJ.yld g2 H2 s3 i x H3 ds[i] st2.rel L2 (List.getElem?_eq_getElem hlt) y
    obtain ⟨hP3, hc3, hf3⟩ := st3.apart hP2 hc2 hf2
    have st03 := st2.trans st3
    have E3 := E0.step st03
    unfold dcL2 at hl
    split at hl
    · cases hl
    · rename_i e1 hmc
      refine ht.run g3 H3 _ _ e1 s3 x _ _ st3.rel (E3.wipe vs) rx hmc fun σ1 SE1 hw => ⟨?_, ?_⟩
      · rw [hw]
        apply List.ext_getElem?
        intro j
        rw [wipe_get, wipe_get]
        by_cases hj : j ∈ vs
        · simp only [hj, if_true, Option.map_map]; rfl
        · simp only [hj, if_false]
      · have E1 := SE1.env
        split at hl
        · cases hl
        · rename_i s4 hmt
          refine ⟨g3, e1, s3, false, s4, st3.rel, E1, hmt, fun g4 H4 st4 => ?_⟩
          simp only [Bool.false_eq_true, if_false]
          obtain ⟨hP4, hc4, hf4⟩ := st4.apart hP3 hc3 hf3
          exact ⟨g4, s4, vs2, acc2, st03.trans st4, (L2.trans st3.le).trans st4.le, hP4, hc4, hf4, (ra.mono st3.le).mono st4.le, hl⟩
        · rename_i s4 hmt
          refine ⟨g3, e1, s3, true, s4, st3.rel, E1, hmt, fun g4 H4 st4 => ?_⟩
          simp only [if_true]
          obtain ⟨hP4, hc4, hf4⟩ := st4.apart hP3 hc3 hf3
          split at hl
          · cases hl
          · rename_i ds1 s5 hmi
            split at hl
            · cases hl
            · rename_i acc1 s6 hin
              refine ⟨g4, e1, s4, ds1, s5, st4.rel, E1.step st4, hmi, fun J1 g5 H5 st5 hJ1 => ?_⟩
              obtain ⟨hP5, hc5, hf5⟩ := st5.apart hP4 hc4 hf4
              have ra5 := ((ra.mono st3.le).mono st4.le).mono st5.le
              have all := (st03.trans st4).trans st5
              refine dc_loop ht1 all ((E1.step st4).step st5) hJ1 hn0 hP5 hc5 hf5 ra5 hin ?_ fun g6 H6 vs6 st6 L6 hP6 hc6 hf6 ra6 => ?_
              · intro j dd hj hσ
                have z := own_blk SE1 (P := P) (fun {j d} hj => own0 hj) hj
                exact z hσ
              · exact ⟨g6, s6, vs6, acc1, st6, (((L2.trans st3.le).trans st4.le).trans st5.le).trans L6, hP6, hc6, hf6, ra6, hl⟩
  · have hn : i = ds.length := by omega
    subst hn
    refine .inl ⟨hJ.stop g2 H2 s3 st2.rel L2, ?_⟩
    rw [List.drop_length] at hl
    cases hl
    exact k P g2 H2 st2 hn0 hf2 hc2 ⟨vs2, hP2, ra⟩
end
section
variable {X : Cx} {kx vx tg iter tg1 iter1 : Expr} {ifs ifs1 : List Expr} {scope : Scope} {own : List (Str × Nat)} {pos spos py : Pos} {mi mi1 : MI} {mc mc1 : MC} {mt mt1 : MT} {mk mv : ME} {t t1 : TG} {vs vs1 : List Nat} {y : Str} {i : Nat}
theorem f_dc2 (hvs : own.map (·.2) = vs) (hc : X.calm = true) (hN : X.N.Nodup) (hi : PI X tg iter (trI X.K mi)) (ok : BlkOk X.N X.env.scope scope own) (hv : ∀ i ∈ vs1, i ∈ vs) (hct : CtOk X.K vs t mc) (hct1 : CtOk X.K vs1 t1 mc1)
    (hg : InBlk X scope fun Y => PG Y tg t) (ht : InBlk X scope fun Y => PTs Y ifs (trT Y.K mt)) (hi1 : InBlk X scope fun Y => PI Y tg1 iter1 (trI Y.K mi1)) (hg1 : InBlk X scope fun Y => PG Y tg1 t1) (ht1 : InBlk X scope fun Y => PTs Y ifs1 (trT Y.K mt1))
    (hk : InBlk X scope fun Y => PE Y kx (trE Y.K mk)) (he : InBlk X scope fun Y => PE Y vx (trE Y.K mv)) (hs : ∀ x, foldedSetIterable iter X.env x = pure x := by intro _; rfl) (hs1 : ∀ env x, foldedSetIterable iter1 env x = pure x := by intro _ _; rfl) :
    PE X (.DictComp kx vx [⟨tg, iter, ifs, 0⟩, ⟨tg1, iter1, ifs1, 0⟩] scope pos) (trF X.K (mDc2 vs mi mc mt mi1 vs1 mc1 mt1 mk mv)) := ⟨fun pins s σ H Q I h => by
  have h0 := tDc2_of hct hct1 h
  subst hvs
  rw [arm_eval_DictComp]
  refine dc2_core hc hN I hi ok hv hg ht hk he hi1 hg1 ht1 hs hs1 h0 fun M C z m Hz Iz q hn f => ⟨m, hn, fun h3 sb => ?_⟩
  exact ⟨.ref M, Hz, Iz.turned (t' := z.toks) (fun b o hb e => (sb.2 b hb).trans e) f.1 f.2.1 f.2.2.2.1 f.2.2.2.2.1 f.2.2.2.2.2, rfl, q⟩⟩
end
end Z

set_option Elab.async false
set_option linter.all false
set_option maxRecDepth 100000
set_option maxHeartbeats 4000000
namespace Z
open PySem PySem.Spec PyProof.Rows L2
/-! ### sorted(d) -/
def strKs : List (Key × D) → Option (List Str)
  | [] => some []
  | (.inr x, _) :: r => (strKs r).map (x :: ·)
  | _ => none
theorem strKs_map : ∀ {kvs : List (Key × D)} {ks : List Str}, strKs kvs = some ks → kvs.map (·.1) = ks.map Sum.inr
  | [], ks, h => by cases h; rfl
  | (.inr x, d) :: r, ks, h => by
    unfold strKs at h
    obtain ⟨q, h1, rfl⟩ := Option.map_eq_some_iff.mp h
    simp [strKs_map h1]
  | (.inl x, d) :: r, ks, h => by cases h
def sortedDicD : List D → Option D
  | [.dic kvs] => (strKs kvs).bind fun ks => if ks.length < 64 then some (.lst (sortL (ks.map .str))) else none
  | _ => none
theorem ltCps_lt : ∀ xs ys : List Nat, ltCps xs ys = decide (xs < ys)
  | [], [] => by simp [ltCps]
  | [], y :: ys => by simp [ltCps]
  | x :: xs, [] => by simp [ltCps]
  | x :: xs, y :: ys => by
    have ih := ltCps_lt xs ys
    simp only [ltCps, ih, List.cons_lt_cons_iff]
    by_cases h1 : x < y
    · simp [h1]
    · by_cases h2 : x = y
      · subst h2; simp
      · simp [h1, h2]
theorem rising_srtd : ∀ (ys : List Str) (x : Str), risingS x ys = true → SrtO.Srtd ltS ((x :: ys).map .str)
  | [], x, _ => by simp
  | y :: ys, x, h => by
    unfold risingS at h
    rw [Bool.and_eq_true, ltCps_lt] at h
    obtain ⟨h1, h2⟩ := h
    have ih := rising_srtd ys y h2
    have step : ltS (.str y) (.str x) = false := by
      rw [lt_str]
      simpa using h1
    rw [List.map_cons]
    refine List.pairwise_cons.mpr ⟨fun z hz => ?_, ih⟩
    rw [List.map_cons] at hz
    rcases List.mem_cons.mp hz with e | hz
    · rw [e]; exact step
    · exact ltS_swo.tr _ _ _ step ((List.pairwise_cons.mp ih).1 z hz)
theorem srtd_of {ys : List Str} (h : sortedS ys = true) : SrtO.Srtd ltS (ys.map .str) := by
  cases ys with
  | nil => exact .nil
  | cons y ys => exact rising_srtd ys y h
section
variable {X : Cx}
theorem cr_sortDic (hc : X.calm = true) : CallR X (.builtin "sorted") (rF X.K fun ds s => lft (sortedDicD ds) s) := fun pins s σ H xs us Q I r h => by
  obtain ⟨g, s0, ds, d, s', R, rl, hm, k⟩ := h
  obtain ⟨h4, h5⟩ := lft_some hm
  dsimp only at h4 h5
  subst h5
  unfold sortedDicD at h4
  split at h4
  · rename_i kvs
    obtain ⟨ks, h6, h7⟩ := Option.bind_eq_some_iff.mp h4
    split at h7
    · rename_i hlt
      cases h7
      cases rl with
      | cons r1 rl =>
        cases rl
        cases r1 with
        | @dic a vs _ q rr =>
          refine call_sortedD hc pins s σ H _ us Q I r ⟨a, vs, ks, rfl, rdK_H R q, (repK_fst rr).trans (strKs_map h6), hlt, fun ys p hp hs hn => ?_⟩
          have e : sortL (ks.map D.str) = ys.map D.str := sortL_eq (hp.map _) (srtd_of hs) (by
            have := (OneK.kStrs ks).inj
            exact this)
          obtain ⟨st, h8, h9, o⟩ := fresh_upd (u := .lst (ys.map V.str)) (d := .lst (ys.map D.str)) R hn fun g' L => ⟨_, upd_same, rep_strs ys⟩
          refine k p g _ st hn h8 h9 ?_
          rw [e]
          exact o
    · cases h7
  · cases h4
end
end Z

set_option Elab.async false
set_option linter.all false
set_option maxRecDepth 100000
set_option maxHeartbeats 4000000
namespace Z
open PySem PySem.Spec PyProof.Rows L2
/-! ### the forms that the printed derivations use -/
def visB (sc : Scope) (x : Str) : Bool := match sc.names.lookup x with
  | some .local => true
  | some .cell => true
  | some .free => true
  | _ => false
def locB (sc : Scope) (x : Str) : Bool := match sc.names.lookup x with
  | some .local => true
  | some .cell => true
  | _ => false
theorem vis_of {sc : Scope} {x : Str} (h : visB sc x = true) : Vis sc x := by
  unfold visB at h
  split at h
  · exact .inl (by assumption)
  · exact .inr (.inl (by assumption))
  · exact .inr (.inr (by assumption))
  · cases h
theorem loc_of {sc : Scope} {x : Str} (h : locB sc x = true) : Loc sc x := by
  unfold locB at h
  split at h
  · exact .inl (by assumption)
  · exact .inr (by assumption)
  · cases h
theorem hu_of {k : Nat} {A : Around} (r : RmZ k A) : A.units + 64 < cLine := by have := r.r.un; omega
theorem hu1_of {k : Nat} {A : Around} (r : RmZ k A) : A.units + 1 < cLine := by have := r.r.un; omega
section
variable {X : Cx} {k : Nat} {a b e o : Expr} {es : List Expr} {pos p pos' apos cpos : Pos} {x y z : Str} {me ma mb mo m1 m2 : ME} {mx : MX} {mA : MA} {mg : MG} {mt : MT}
theorem p_var (i : Nat) (hN : X.N[i]? = some x := by rfl) (hv : visB X.env.scope x = true := by rfl) (hd : (x == ("__debug__" : Str)) = false := by decide +kernel) (hcd : (x == ("__classdict__" : Str)) = false := by decide +kernel) : PE X (.Name x pos) (trE X.K (mVar i)) := d_var hN (vis_of hv) hd hcd
theorem p_gint {n : Int} (h : ∃ t, X.mg x = some (.int n t)) (hg : Gl X x := by rfl) (hd : (x == ("__debug__" : Str)) = false := by decide +kernel) : PE X (.Name x pos) (trE X.K (mC (.int n))) := by
  obtain ⟨t, e⟩ := h
  exact d_glob (v := .int n) hg ⟨_, e, ⟨t, rfl⟩⟩ (fun _ => .int n) hd
theorem p_gstr {n : Str} (h : ∃ t, X.mg x = some (.str n t)) (hg : Gl X x := by rfl) (hd : (x == ("__debug__" : Str)) = false := by decide +kernel) : PE X (.Name x pos) (trE X.K (mC (.str n))) := by
  obtain ⟨t, e⟩ := h
  exact d_glob (v := .str n) hg ⟨_, e, ⟨t, rfl⟩⟩ (fun _ => .str n) hd
theorem p_gtup {xs : List Str} (h : X.mg x = some (.ref (He.ga X.K x)) ∧ ∀ H, SqT X.K H (He.ga X.K x) (xs.map V.str)) (hg : Gl X x := by rfl) (hd : (x == ("__debug__" : Str)) = false := by decide +kernel) : PE X (.Name x pos) (trE X.K (mC (.tup (xs.map D.str)))) :=
  d_glob (v := .ref (He.ga X.K x)) hg ⟨_, h.1, rfl⟩ (fun g => .tup (h.2 g.F) (rep_strs xs)) hd
theorem p_set (i : Nat) (hN : X.N.Nodup) (h : PE X a (trE X.K me)) (hi : X.N[i]? = some x := by rfl) (hx : locB X.env.scope x = true := by rfl) (hs : swapsWith a (some (.Name x pos')) pos.line X.env = pure false := by rfl) (hf : X.fn x = true ∨ X.env.scope.names.lookup x = some .local := by first | exact .inl rfl | exact .inr rfl) :
    PS X (.Assign [.Name x pos'] a pos) (trS X.K (sSet i me)) := s_set hN hi (loc_of hx) h hs hf
theorem p_own (i : Nat) (hN : X.N.Nodup) (h : PE X a (trF X.K me)) (hi : X.N[i]? = some x := by rfl) (hx : locB X.env.scope x = true := by rfl) (hs : swapsWith a (some (.Name x pos')) pos.line X.env = pure false := by rfl) (hf : X.fn x = true ∨ X.env.scope.names.lookup x = some .local := by first | exact .inl rfl | exact .inr rfl) :
    PS X (.Assign [.Name x pos'] a pos) (trS X.K (sOwn i me)) := s_own hN hi (loc_of hx) h hs hf
theorem p_nm (i : Nat) (hN : X.N.Nodup) (hi : X.N[i]? = some x := by rfl) (hx : locB X.env.scope x = true := by rfl) (hf : X.fn x = true ∨ X.env.scope.names.lookup x = some .local := by first | exact .inl rfl | exact .inr rfl) : PG X (.Name x pos) (trG X.K (gNm i)) := g_nm hN hi (loc_of hx) hf
theorem p_cnm (i : Nat) (hN : X.N.Nodup) (hi : X.N[i]? = some x := by rfl) (hx : locB X.env.scope x = true := by rfl) (hf : X.fn x = true ∨ X.env.scope.names.lookup x = some .local := by first | exact .inl rfl | exact .inr rfl) : PG X (.Name x pos) (gName i) := pg_name hN hi (loc_of hx) hf
theorem nm_nil : Nms X [] [] := .nil
theorem nm_cons (i : Nat) {is : List Nat} (r : Nms X es is) (hi : X.N[i]? = some x := by rfl) (hx : locB X.env.scope x = true := by rfl) (hf : X.fn x = true ∨ X.env.scope.names.lookup x = some .local := by first | exact .inl rfl | exact .inr rfl) : Nms X (.Name x pos :: es) (i :: is) := .cons hi (loc_of hx) hf r
theorem p_ctup {is : List Nat} {kk : Nat} (n : Nat) (hN : X.N.Nodup) (r : Nms X es is) (hn : (assignEach es X.env).length = n := by rfl) (hst : (assignEach es X.env).findIdx? (·.1) = none := by rfl) (hc : X.calm = true := by rfl) : PG X (.Tuple es kk pos) (gTup X.K n (gNames is)) := pg_tup hc (gs_names hN r) hn hst
theorem p_app (i : Nat) (h : PE X a (trE X.K me)) (hN : X.N[i]? = some x := by rfl) (hv : visB X.env.scope x = true := by rfl) (hst : starEach [a] X.env = [(false, eval a X.env)] := by rfl)
    (hbase : attributeBase (.Name x p) "append" X.env (eval (.Name x p) X.env) = eval (.Name x p) X.env := by rfl)
    (hfew : ((backTo cpos (starEach [a] X.env)).all (fun x => !x.1) && (backToKw cpos (keywordEach [] X.env)).all (fun x => x.1.isSome) && decide ([a].length + ([] : List Keyword).length + (if ([] : List Keyword).isEmpty then 0 else 1) < 30)) = true := by rfl)
    (hline : (apos.endLine == cpos.line) = true := by rfl) (hs1 : starEach [a] X.env = (false, eval a X.env) :: starEach [] X.env := by rfl) (hpl : (backTo cpos (starEach [] X.env)).any (·.1) = false := by rfl) (hd : (x == ("__debug__" : Str)) = false := by decide +kernel) (hcd : (x == ("__classdict__" : Str)) = false := by decide +kernel)
    (hs : swapsWith (.Call (.Attribute (.Name x p) "append" apos) [a] [] cpos) none pos.line X.env = pure false := by rfl) : PS X (.Expr (.Call (.Attribute (.Name x p) "append" apos) [a] [] cpos) pos) (trS X.K (sApp i me)) :=
  s_app hN (vis_of hv) h hst (pe_bm PySem.F.plainAttrs_list PySem.F.slot_list_append PySem.F.type_list_append mt_append (pe_var hN (vis_of hv) hd hcd) (pa_cons h pa_nil hs1) hbase hfew hline hs1 hpl) hs
theorem p_par2 (i j : Nat) {px py pt : Pos} {kt k2 pt2} (hN : X.N.Nodup) (ha : PA X [a, b] (trX X.K mx)) (hi : X.N[i]? = some x := by rfl) (hj : X.N[j]? = some y := by rfl) (hij : i ≠ j := by decide)
    (hx : X.env.scope.names.lookup x = some .local := by rfl) (hy : X.env.scope.names.lookup y = some .local := by rfl)
    (hw : swappedStores [.Tuple [.Name x px, .Name y py] kt pt] (.Tuple [a, b] k2 pt2) X.env = pure (some [x, y]) := by rfl)
    (hs : swapsWithSole [.Tuple [.Name x px, .Name y py] kt pt] (.Tuple [a, b] k2 pt2) pos.line X.env = pure false := by rfl) (hc : X.calm = true := by rfl) :
    PS X (.Assign [.Tuple [.Name x px, .Name y py] kt pt] (.Tuple [a, b] k2 pt2) pos) (trS X.K (sPar [i, j] mx)) := s_par2 hc hN hi hj hij hx hy ha hw hs
theorem p_par3 (i j l : Nat) {c : Expr} {px py pz pt : Pos} {kt k2 pt2} (hN : X.N.Nodup) (ha : PA X [a, b, c] (trX X.K mx)) (hi : X.N[i]? = some x := by rfl) (hj : X.N[j]? = some y := by rfl) (hl : X.N[l]? = some z := by rfl) (hij : i ≠ j := by decide) (hil : i ≠ l := by decide) (hjl : j ≠ l := by decide)
    (hx : X.env.scope.names.lookup x = some .local := by rfl) (hy : X.env.scope.names.lookup y = some .local := by rfl) (hz : X.env.scope.names.lookup z = some .local := by rfl)
    (hw : swappedStores [.Tuple [.Name x px, .Name y py, .Name z pz] kt pt] (.Tuple [a, b, c] k2 pt2) X.env = pure (some [x, y, z]) := by rfl)
    (hs : swapsWithSole [.Tuple [.Name x px, .Name y py, .Name z pz] kt pt] (.Tuple [a, b, c] k2 pt2) pos.line X.env = pure false := by rfl) (hc : X.calm = true := by rfl) :
    PS X (.Assign [.Tuple [.Name x px, .Name y py, .Name z pz] kt pt] (.Tuple [a, b, c] k2 pt2) pos) (trS X.K (sPar [i, j, l] mx)) := s_par3 hc hN hi hj hl hij hil hjl hx hy hz ha hw hs
theorem p_setd (i : Nat) (h1 : PE X a (trE X.K m1)) (h2 : PE X b (trE X.K m2)) (hN : X.N[i]? = some x := by rfl) (hv : visB X.env.scope x = true := by rfl) (hs : swapsWith (.Call (.Attribute (.Name x p) "setdefault" apos) [a, b] [] cpos) none pos.line X.env = pure false := by rfl)
    (hd : (x == ("__debug__" : Str)) = false := by decide +kernel) (hcd : (x == ("__classdict__" : Str)) = false := by decide +kernel) (m : M2 X (.Name x p) "setdefault" apos a b cpos := by exact ⟨rfl, rfl, rfl, rfl, rfl⟩) : PS X (.Expr (.Call (.Attribute (.Name x p) "setdefault" apos) [a, b] [] cpos) pos) (trS X.K (sSetd i m1 m2)) := s_setd hN (vis_of hv) h1 h2 hd hcd m hs
theorem p_putK (i : Nat) (hr : RmZ k X.A) (h1 : PE X a (trE X.K m1)) (h2 : PE X b (trE X.K m2)) (hN : X.N[i]? = some x := by rfl) (hv : visB X.env.scope x = true := by rfl) (hs : swapsWith b (some (.Subscript (.Name x p) a apos)) pos.line X.env = pure false := by rfl)
    (hd : (x == ("__debug__" : Str)) = false := by decide +kernel) (hcd : (x == ("__classdict__" : Str)) = false := by decide +kernel) : PS X (.Assign [.Subscript (.Name x p) a apos] b pos) (trS X.K (sPutK i m1 m2)) := s_putK (hu1_of hr) hN (vis_of hv) h1 h2 hd hcd hs
theorem p_nfld {c f x0 : Str} (c0 : Str) (hc : Cls X.K (He.ga X.K c)) (hn : NoAttr X.K (He.ga X.K c) f) (h : PE X a (trE X.K me)) (hN : X.N[0]? = some x0 := by rfl) (hv : visB X.env.scope x0 = true := by rfl) (hs : swapsWith a (some (.Attribute (.Name x0 p) f pos')) pos.line X.env = pure false := by rfl)
    (hd : (x0 == ("__debug__" : Str)) = false := by decide +kernel) (hcd : (x0 == ("__classdict__" : Str)) = false := by decide +kernel) : PS X (.Assign [.Attribute (.Name x0 p) f pos'] a pos) (trN X.K c (nFld f me)) := n_fld hN (vis_of hv) h hc hn hd hcd hs
/-! built-in functions -/
theorem bt_len : bootBuiltins "len" = some (.builtin "len") := by decide +kernel
theorem bt_all : bootBuiltins "all" = some (.builtin "all") := by decide +kernel
theorem bt_any : bootBuiltins "any" = some (.builtin "any") := by decide +kernel
theorem bt_sum : bootBuiltins "sum" = some (.builtin "sum") := by decide +kernel
theorem bt_max : bootBuiltins "max" = some (.builtin "max") := by decide +kernel
theorem bt_min : bootBuiltins "min" = some (.builtin "min") := by decide +kernel
theorem bt_abs : bootBuiltins "abs" = some (.builtin "abs") := by decide +kernel
theorem bt_divmod : bootBuiltins "divmod" = some (.builtin "divmod") := by decide +kernel
theorem bt_sorted : bootBuiltins "sorted" = some (.builtin "sorted") := by decide +kernel
theorem bt_repr : bootBuiltins "repr" = some (.builtin "repr") := by decide +kernel
theorem bt_isinstance : bootBuiltins "isinstance" = some (.builtin "isinstance") := by decide +kernel
theorem bt_int : bootBuiltins "int" = some (.type "int") := by decide +kernel
theorem bt_str : bootBuiltins "str" = some (.type "str") := by decide +kernel
theorem bt_bool : bootBuiltins "bool" = some (.type "bool") := by decide +kernel
theorem bt_tuple : bootBuiltins "tuple" = some (.type "tuple") := by decide +kernel
theorem bt_list : bootBuiltins "list" = some (.type "list") := by decide +kernel
theorem bt_dict : bootBuiltins "dict" = some (.type "dict") := by decide +kernel
end
end Z

set_option Elab.async false
set_option linter.all false
set_option maxRecDepth 100000
set_option maxHeartbeats 4000000
namespace Z
open PySem PySem.Spec PyProof.Rows L2
/-! ### what the head tells -/
structure TxOf (ex : List (PySem.W.Frag → Bool)) (fn : List DefZ) (K : PySem.W.Frag) (mg : Str → Option Value) : Prop where
  says : SaysZ (fun K => ex.all fun f => f K) fn K
  ns : ∃ h : Heap, K.In h ∧ h.Ns mainGlobals mg
section
variable {ex : List (PySem.W.Frag → Bool)} {fn : List DefZ} {K : PySem.W.Frag} {mg : Str → Option Value}
theorem TxOf.fact (T : TxOf ex fn K mg) (i : Nat) {f : PySem.W.Frag → Bool} (h : ex[i]? = some f) : f K = true := List.all_eq_true.mp T.says.ex_ok f (List.mem_of_getElem? h)
theorem TxOf.fun_ (T : TxOf ex fn K mg) (i : Nat) {d : DefZ} (h : fn[i]? = some d := by rfl) : ∃ fd, FunD K d.name d.qual d.params d.body d.scope (d.dvs K) [] (d.ad K) fd := T.says.at_ i h
theorem TxOf.glo (T : TxOf ex fn K mg) (i : Nat) {x : Str} (h : ex[i]? = some (fun K => (He.Fa.glo x).ok K) := by rfl) : mg x = some (.ref (He.ga K x)) := let ⟨_, X, G⟩ := T.ns; He.glo_ok X G (T.fact i h)
theorem TxOf.free (T : TxOf ex fn K mg) (i : Nat) {x : Str} (h : ex[i]? = some (fun K => (He.Fa.free x).ok K) := by rfl) : mg x = none := let ⟨_, X, G⟩ := T.ns; He.free_ok X G (T.fact i h)
theorem TxOf.gint (T : TxOf ex fn K mg) (i : Nat) {x : Str} {n : Int} (h : ex[i]? = some (fun K => (He.Fa.int x n).ok K) := by rfl) : ∃ t, mg x = some (.int n t) := let ⟨_, X, G⟩ := T.ns; He.int_ok X G (T.fact i h)
theorem TxOf.gstr (T : TxOf ex fn K mg) (i : Nat) {x z : Str} (h : ex[i]? = some (fun K => (He.Fa.str x z).ok K) := by rfl) : ∃ t, mg x = some (.str z t) := let ⟨_, X, G⟩ := T.ns; He.str_ok X G (T.fact i h)
theorem map_dvs (K : PySem.W.Frag) : ∀ xs : List Str, (xs.map He.Dv.str).map (He.Dv.v K) = xs.map V.str
  | [] => rfl
  | x :: r => by simp only [List.map_cons, map_dvs K r]; rfl
theorem TxOf.gtup (T : TxOf ex fn K mg) (i j : Nat) {x : Str} {xs : List Str} (h : ex[i]? = some (fun K => (He.Fa.glo x).ok K) := by rfl) (h2 : ex[j]? = some (fun K => He.tupB K x (xs.map He.Dv.str)) := by rfl) : mg x = some (.ref (He.ga K x)) ∧ ∀ H, SqT K H (He.ga K x) (xs.map V.str) :=
  ⟨T.glo i h, fun H => by
    have z := He.tupB_ok (T.fact j h2) H
    rw [map_dvs] at z
    exact z⟩
theorem TxOf.cls (T : TxOf ex fn K mg) (i : Nat) {x : Str} (h : ex[i]? = some (fun K => (He.Fa.cls x).ok K) := by rfl) : Cls K (He.ga K x) := He.cls_ok (T.fact i h)
theorem TxOf.noat (T : TxOf ex fn K mg) (i : Nat) {x f : Str} (h : ex[i]? = some (fun K => (He.Fa.noat x f).ok K) := by rfl) : NoAttr K (He.ga K x) f := He.noat_ok (T.fact i h)
theorem TxOf.mkr (T : TxOf ex fn K mg) (i : Nat) {x : Str} (h : ex[i]? = some (fun K => (He.Fa.mkr x).ok K) := by rfl) : Mk K (He.ga K x) (He.ma K (He.ga K x) "__init__") := He.mkr_ok (T.fact i h)
theorem TxOf.prop (T : TxOf ex fn K mg) (i : Nat) {c f : Str} (h : ex[i]? = some (fun K => propB K c f) := by rfl) : PropOf K (He.ga K c) f (He.ma K (He.ga K c) f) (At.ad K (.p c f)) := propB_ok (T.fact i h)
theorem TxOf.isi (T : TxOf ex fn K mg) (i : Nat) {cs : List Str} {ts : List String} (h : ex[i]? = some (fun K => isiB K cs ts) := by rfl) : IsiF K cs ts := isiB_ok (T.fact i h)
end
section
variable {X : Cx} {st : List Stmt} {h : ExceptHandler} {hs : List ExceptHandler} {m : MS} {pos : Pos}
end
end Z

set_option Elab.async false
set_option linter.all false
set_option maxRecDepth 100000
set_option maxHeartbeats 4000000
namespace Z
open PySem PySem.Spec PyProof.Rows L2
/-! ### the law's end -/
theorem rmz_caller {k : Nat} (h : Room k callerA) : RmZ k callerA := ⟨h, rfl⟩
/-- the script as a tracked thing that is only read -/
abbrev scrO (us : List Value) : Obj := { cls := .type "list", data := .seq us.toArray }
/-- none of the text's objects is a list -/
def noLstB (K : PySem.W.Frag) : Bool := K.all fun p => match p.2.cls with
  | .type t => !decide (t = "list")
  | _ => true
theorem noLst_ok {K : PySem.W.Frag} (h : noLstB K = true) {a : Addr} {us : List Value} (e : K.lookup a = some (scrO us)) : False := by
  have m : (a, scrO us) ∈ K := by
    clear h
    induction K with
    | nil => cases e
    | cons p r ih =>
      obtain ⟨b, o⟩ := p
      by_cases hb : a = b
      · subst hb
        simp only [List.lookup, beq_self_eq_true] at e
        cases e
        exact List.mem_cons_self
      · have hb' : (a == b) = false := by simpa using hb
        simp only [List.lookup, hb'] at e
        exact List.mem_cons_of_mem _ (ih e)
  have z := List.all_eq_true.mp h _ m
  have z : (!decide ("list" = "list")) = true := z
  simp at z
section
variable {P : Program} {w : World} {K : PySem.W.Frag} {mg mb : Str → Option Value} {k : Nat} {fa a : Addr} {fd : FuncData} {x : Str} {md : MD} {s1 : Shared} {us : List Value} {ns : List Int}
/-- from one abstract heap in which at most the script is tracked -/
theorem end_core (KX : K.In s1.heap) (hns : s1.heap.Ns mainGlobals mg) (hb : s1.heap.Ns builtinsNs mb) (hbb : ∀ x : Str, x ≠ "__name__" → mb x = bootBuiltins x) (nl : s1.heap.NoLimit) (hg : s1.gens = #[]) (ha : s1.heap.get? a = some (scrO us)) (hr : Room k callerA)
    (F : ∀ base : Heap, K.In base → base.Ns mainGlobals mg → FnZ P w K mg base NoX k fa fd [x] (spM K md)) (bind : ∀ (s : Shared) (u : Value), BindsTo s fd ⟨[u], []⟩ [(x, u)])
    {H : Hp} (hp : HOk P w H s1.heap) (one : ∀ b, H b ≠ none → b = a) (nK : H a ≠ none → K.lookup a = none) (fz : H a = none ∨ ∃ u, H a = some (.frz (scrO us) u))
    {g : G} (R : SRel K g H []) (rp : Rep K g (.ref a) (.lst (ns.map .int))) (e : ∃ s', md [.lst (ns.map .int)] [] = some (.bl true, s')) :
    codeAny (model P w) callerA (.call (.ref fa) ⟨[.ref a], []⟩) (fun r s' => r = .ok (.ret (.bool true)) ∧ OldK s1.heap s'.heap ∧ s'.os = s1.os ∧ AllBare s'.gens) s1 := by
  have noDict : ∀ {b : Addr} {o : Obj} {es : Array DictEntry} {ep : Nat}, s1.heap.get? b = some o → o.data = .dict es ep → H b = none := fun {b o es ep} e1 e2 => by
    refine Classical.byContradiction fun q => ?_
    have eb := one b q
    rw [eb, ha] at e1
    cases e1
    exact nomatch (show Data.seq us.toArray _ = Data.dict es ep from e2)
  have stay : ∀ {b : Addr} {m : Str → Option Value}, s1.heap.Ns b m → (hidT s1.heap H).Ns b m := fun {b m} ⟨o, es, ep, e1, e2, r⟩ => ⟨o, es, ep, hidT_get e1 (noDict e1 e2), e2, r⟩
  have KB : K.In (hidT s1.heap H) := fun b o e1 => hidT_get (KX b o e1) (Classical.byContradiction fun q => by
    have eb := one b q
    rw [eb] at e1 q
    rw [nK q] at e1
    cases e1)
  have M : Mod K mg (hidT s1.heap H) := ⟨KB, stay hns, ⟨mb, stay hb, hbb⟩, let ⟨mc, z1, z2⟩ := nl; ⟨mc, stay z1, z2⟩⟩
  have E0 : Env0 P w K mg (hidT s1.heap H) callerA [] s1 H := ⟨rfl, M, fun b o z => of_hidT z, Nat.le_of_eq (hidT_size _ _), trivial, (fun b z => nomatch (show b ∈ ([] : List Addr) from z)), hp, .of_eq hg⟩
  obtain ⟨s', e⟩ := e
  have sp : spM K md [.ref a] H (fun v _ => v = .bl true) fun _ _ _ => False := ⟨g, [], [.lst (ns.map .int)], .bl true, s', R, .cons rp .nil, e, fun v g' H' _ rv => by cases rv; rfl⟩
  refine codeAny_mono ((F _ KB (stay hns)).run callerA [] s1 H ⟨[.ref a], []⟩ [.ref a] [.ref a] _ _ (rmz_caller hr) E0 (bind s1 (.ref a)) (.cons (show RelV (V.ref a) (Value.ref a) from rfl) .nil) sp) fun r z h => ?_
  match r, h with
  | .ok (.ret u), h =>
    obtain ⟨v, H', os, bare, un, hp', rv, q⟩ := h
    have q : v = .bl true := q
    subst q
    obtain rfl : u = Value.bool true := rv
    refine ⟨rfl, OldK.of_keep fun b o e1 => ?_, os, bare⟩
    by_cases q : H b = none
    · exact un.keep b o e1 q (fun z => nomatch (show b ∈ ([] : List Addr) from z)) (by simp)
    · have eb := one b q
      subst eb
      rcases fz with z | ⟨u, z⟩
      · exact absurd z q
      · have z2 := un.frzs b _ _ z
        have e2 := (hp' b _ z2).1
        rw [ha] at e1
        cases e1
        exact e2
theorem end_call (KX : K.In s1.heap) (hns : s1.heap.Ns mainGlobals mg) (hb : s1.heap.Ns builtinsNs mb) (hbb : ∀ x : Str, x ≠ "__name__" → mb x = bootBuiltins x) (nl : s1.heap.NoLimit) (hg : s1.gens = #[]) (ha : s1.heap.get? a = some (scrO us)) (nl0 : noLstB K = true) (hi : IntsAre us ns) (hl : ns.length ≤ sizeLine) (hr : Room k callerA)
    (F : ∀ base : Heap, K.In base → base.Ns mainGlobals mg → FnZ P w K mg base NoX k fa fd [x] (spM K md)) (bind : ∀ (s : Shared) (u : Value), BindsTo s fd ⟨[u], []⟩ [(x, u)]) (e : ∃ s', md [.lst (ns.map .int)] [] = some (.bl true, s')) :
    codeAny (model P w) callerA (.call (.ref fa) ⟨[.ref a], []⟩) (fun r s' => r = .ok (.ret (.bool true)) ∧ OldK s1.heap s'.heap ∧ s'.os = s1.os ∧ AllBare s'.gens) s1 := by
  have rv := vals_ints hi
  have lenV := hi.length
  have ri : ∀ g : G, RepL K g (ns.map V.int) (ns.map D.int) := fun g => by
    clear rv lenV hi hl e
    induction ns with
    | nil => exact .nil
    | cons n r ih => exact .cons (.int n) ih
  cases hk : K.lookup a with
  | some o =>
    have e1 := (KX a o hk).symm.trans ha
    cases e1
    exact (noLst_ok nl0 hk).elim
  | none =>
    have hA : (fun b => if b = a then some (HO.frz (scrO us) (.lst (ns.map V.int))) else none : Hp) a = some (HO.frz (scrO us) (.lst (ns.map V.int))) := if_pos rfl
    refine end_core (g := ⟨fun b => if b = a then some (HO.frz (scrO us) (.lst (ns.map V.int))) else none, []⟩) (H := fun b => if b = a then some (.frz (scrO us) (.lst (ns.map V.int))) else none) KX hns hb hbb nl hg ha hr F bind ?_ ?_ (fun _ => hk) (.inr ⟨_, hA⟩) ?_ (.lst (.inr ⟨_, hA⟩) (ri _)) e
    · intro b u z
      by_cases hba : b = a
      · subst hba
        have z := hA.symm.trans z
        cases z
        exact ⟨ha, by rw [List.length_map]; exact hl, us, _, rv, ha⟩
      · exact nomatch ((if_neg hba).symm.trans z)
    · intro b z
      by_cases hba : b = a
      · exact hba
      · exact absurd (if_neg hba) z
    · exact ⟨fun b u z => .inl z, rfl, (fun n c z => nomatch z), (fun n m c z => nomatch z)⟩
/-- a law: what its def keeps, and that its mirror tells True at every script -/
theorem walk_Z {l : PySem.W.OpenLaw} {n k : Nat} {q : Program} {loose : List Str} {XP : (Str → Option Value) → Heap → Prop} {YP : World → Heap → Prop} {d : DefRec} {x : Str} {md : MD}
    (hn : l.most = some n) (hn2 : n ≤ sizeLine) (hdf : d.params.defaults = []) (hr : Room k callerA)
    (F : ∀ (w : World) (mg : Str → Option Value) (fa : Addr) (h : Heap), YP w h → h.Ns mainGlobals mg → mg d.name = some (.ref fa) → ∃ (K : PySem.W.Frag) (fd : FuncData), K.In h ∧ noLstB K = true ∧ (∀ (s : Shared) (u : Value), BindsTo s fd ⟨[u], []⟩ [(x, u)]) ∧
      ∀ base : Heap, K.In base → base.Ns mainGlobals mg → FnZ l.prog w K mg base NoX k fa fd [x] (spM K md))
    (plain : ∀ ns : List Int, ns.length ≤ n → (∀ z ∈ ns, Builtin.Int.intBits z ≤ 1048576) → ∃ s', md [.lst (ns.map .int)] [] = some (.bl true, s')) :
    PySem.W.WalkO q loose XP YP l.row.toRowW d [] (fun f vs => PySem.call f vs) :=
  Att.attach_callB hn hdf fun w s0 s1 mg mb fa o pm cd doc a vs ns G Y ho hd hcd hmg hobj hints hlen hbits hg => by
    obtain ⟨K, fd, KX, nl0, hb, hF⟩ := F w mg fa _ Y G.T.g hmg
    exact end_call KX G.T.g G.T.b G.T.builtins G.T.nolimit hg hobj nl0 hints (Nat.le_trans hlen hn2) hr hF hb (plain ns hlen hbits)
end
end Z
namespace Z
open PySem PySem.Spec PyProof.Rows L2
theorem fun_one {K : PySem.W.Frag} {x qual : Str} {params : Arguments} {body : List Stmt} {scope : Scope} {dvs : List V} {f : Addr} {fd fd' : FuncData} (F : FunD K x qual params body scope dvs [] f fd) (F' : FunD K x qual params body scope dvs [] f fd') : fd = fd' := by
  obtain ⟨oc, od, dV, kV, doc, pm, an, cdv, ct, osl, rfl, lk, _, _, _⟩ := F.ex
  obtain ⟨oc', od', dV', kV', doc', pm', an', cdv', ct', osl', rfl, lk', _, _, _⟩ := F'.ex
  have e := lk.symm.trans lk'
  cases e
  rfl
theorem law_fd {P : Program} {w : World} {K : PySem.W.Frag} {mg : Str → Option Value} {k : Nat} {d : DefZ} {x : Str} {sp : Sp} {fa : Addr} (h0 : ∃ fd, FunD K d.name d.qual d.params d.body d.scope (d.dvs K) [] (d.ad K) fd) (hd : d.dfl = []) (hf : fa = d.ad K)
    (hb : ∀ (kV doc pm : Value) (an : Option Addr) (cdv ct : Value) (us : List Value), us.length = [x].length → bindArgs (PySem.W.fnOf d.name d.qual d.params d.body d.scope .none kV doc pm an cdv ct) ⟨us, []⟩ = pure ([x].zip us))
    (h : ∀ base : Heap, DfZ P w K mg base k d [x] sp) : ∃ fd : FuncData, (∀ (s : Shared) (u : Value), BindsTo s fd ⟨[u], []⟩ [(x, u)]) ∧ ∀ base : Heap, K.In base → base.Ns mainGlobals mg → FnZ P w K mg base NoX k fa fd [x] sp := by
  subst hf
  obtain ⟨fd, F⟩ := h0
  have e0 : d.dvs K = [] := by unfold DefZ.dvs; rw [hd]; rfl
  have F1 := F
  rw [e0] at F1
  refine ⟨fd, fun s u => FunD.bindsA (ps := [x]) F1 hb s [u] rfl, fun base _ _ => ?_⟩
  obtain ⟨fd', F', FZ, _⟩ := (h base).ex
  have e := fun_one F F'
  subst e
  exact FZ
end Z

set_option Elab.async false
set_option linter.all false
set_option maxRecDepth 100000
set_option maxHeartbeats 4000000
namespace Z
open PySem PySem.Spec PyProof.Rows L2
section
variable {X : Cx} {a b : Expr} {ma mb : ME} {d : DefZ} {ps : List Str} {k j : Nat} {md : MD} {c : Str} {pos : Pos}
/-- x == y, two instances of c -/
def ownEq (c : Str) (md : MD) : D → D → S → Option (D × S) := fun a b s => match ofC c a && ofC c b with
  | true => match md [a, b] s with
    | some (.bl r, s') => some (.bl r, s')
    | _ => none
  | false => none
end
/-! ### d.get(k, x) -/
def mGet (mo ma mb : ME) : ME := fun e s => bnd (mo e s) fun d s => bnd (ma e s) fun kd s => bnd (mb e s) fun x s => match d with
  | .dic kvs => match keyD kd with
    | some k => some ((lookD kvs k).getD x, s)
    | none => none
  | _ => none
section
variable {X : Cx} {o a b : Expr} {mo ma mb : ME} {apos pos : Pos}
end
/-! ### {} -/
def mDic0 : ME := fun _ s => some (.dic [], s)
theorem f_dic0 {X : Cx} {pos : Pos} : PE X (.Dict [] [] pos) (trF X.K mDic0) := PE.imp pe_dnewK fun σ H Q ⟨g, e, s, d, s', R, E, hm, k⟩ => by
  cases hm
  intro p hp
  obtain ⟨z1, z2, z3, z4⟩ := (Step.refl R).new1 (u := .dK []) hp
  exact k p g _ z1 z2 z3 z4 ⟨_, upd_same, .nil⟩
section
variable {Q : D → S → Prop} {s : S}
theorem wp_ownEq {c : Str} {md : MD} {fs gs : List (Str × D)} (h : ∃ r s1, md [.obj c fs, .obj c gs] s = some (r, s1) ∧ ∃ k, r = .bl k ∧ Q (.bl k) s1) : ∃ d s', ownEq c md (.obj c fs) (.obj c gs) s = some (d, s') ∧ Q d s' := by
  obtain ⟨r, s1, h1, kk, rfl, h2⟩ := h
  unfold ownEq
  have : ofC c (.obj c fs) = true := by simp [ofC]
  have : ofC c (.obj c gs) = true := by simp [ofC]
  exact ⟨.bl kk, s1, by simp [*], h2⟩
end
end Z

set_option Elab.async false
set_option linter.all false
set_option maxRecDepth 100000
set_option maxHeartbeats 4000000
namespace SrtO
open PySem PyProof.Rows Srt
/-! ### sorted of a tuple -/
section
variable {prog : Program} {w : World} {A : Around} {E : Value → Shared → Prop} {s : Shared}
end
end SrtO
namespace Z
open PySem PySem.Spec PyProof.Rows L2
section
variable {X : Cx}
/-- sorted(a tuple) -/
def sortedTD : List D → Option D
  | [.tup ds] => if sameK ds then some (.lst (sortL ds)) else none
  | _ => none
end
end Z

set_option Elab.async false
set_option linter.all false
set_option maxRecDepth 100000
set_option maxHeartbeats 4000000
namespace Z
open PySem PySem.Spec PyProof.Rows L2
/-! ### dict(list of pairs) -/
def pairD : D → Option (Key × D)
  | .tup [k, v] => (keyD k).map fun kk => (kk, v)
  | _ => none
def pairsD : List D → Option (List (Key × D))
  | [] => some []
  | d :: ds => match pairD d with
    | some p => (pairsD ds).map (p :: ·)
    | none => none
def mergeD (kvs : List (Key × D)) : List (Key × D) := kvs.foldl (fun a p => putD a p.1 p.2) []
def dictPD : List D → Option D
  | [.lst ds] => (pairsD ds).map fun kvs => .dic (mergeD kvs)
  | _ => none
section
variable {X : Cx} {K : PySem.W.Frag} {g : G} {H : Hp} {s : S}
theorem pairs_rep (R : SRel K g H s) : ∀ {vs : List V} {ds : List D} {kvs : List (Key × D)}, RepL K g vs ds → pairsD ds = some kvs →
    ∃ (ps : List Addr) (ks : List (Key × V)), vs = ps.map V.ref ∧ Paired (fun p kv => SqT K H p [kV kv.1, kv.2]) ps ks ∧ RepK K g ks kvs
  | _, _, _, .nil, e => by cases e; exact ⟨[], [], rfl, .nil, .nil⟩
  | _, _, _, .cons (v := v) (d := d) r rs, e => by
    simp only [pairsD] at e
    split at e
    · rename_i p hp
      obtain ⟨q, hq, rfl⟩ := Option.map_eq_some_iff.mp e
      obtain ⟨ps, ks, rfl, h2, h3⟩ := pairs_rep R rs hq
      unfold pairD at hp
      split at hp
      · rename_i k x
        obtain ⟨kk, hk, rfl⟩ := Option.map_eq_some_iff.mp hp
        cases r with
        | @tup a ws _ hT rr =>
          cases rr with
          | cons r1 rr => cases rr with
            | cons r2 rr =>
              cases rr
              have e1 := rep_key r1 hk
              subst e1
              exact ⟨a :: ps, (kk, _) :: ks, rfl, .cons (sqT_H R hT) h2, .cons r2 h3⟩
      · cases hp
    · cases e
theorem merge_rep : ∀ {ks : List (Key × V)} {kvs : List (Key × D)} {a : List (Key × V)} {b : List (Key × D)}, RepK K g ks kvs → RepK K g a b → RepK K g (mergeK a ks) (kvs.foldl (fun a p => putD a p.1 p.2) b)
  | _, _, _, _, .nil, r => r
  | _, _, _, _, .cons (k := k) h t, r => by
    have h2 := merge_rep t (RepK.put (k := k) h r)
    rw [List.foldl_cons]
    unfold mergeK at h2 ⊢
    rw [List.foldl_cons]
    exact h2
theorem cr_dictP (hc : X.calm = true) : CallR X (.type "dict") (rF X.K fun ds s => lft (dictPD ds) s) := fun pins s σ H xs us Q I r h => by
  obtain ⟨g, s0, ds, d, s', R, rl, hm, k⟩ := h
  obtain ⟨h4, h5⟩ := lft_some hm
  dsimp only at h4 h5
  subst h5
  unfold dictPD at h4
  split at h4
  · rename_i es
    obtain ⟨kvs, h6, rfl⟩ := Option.map_eq_some_iff.mp h4
    cases rl with
    | cons r1 rl =>
      cases rl
      cases r1 with
      | @lst a vs _ q rr =>
        obtain ⟨ps, ks, rfl, h7, h8⟩ := pairs_rep R rr h6
        refine call_dictP hc pins s σ H _ us Q I r ⟨a, ps, ks, rfl, .inl (rd_H R q), h7, fun p hp => ?_⟩
        obtain ⟨st, z1, z2, o⟩ := fresh_upd (u := .dK (mergeK [] ks)) (d := .dic (mergeD kvs)) R hp fun g' L => ⟨_, upd_same, (merge_rep h8 .nil).mono L⟩
        exact k p g _ st hp z1 z2 o
  · cases h4
end
end Z

set_option Elab.async false
set_option linter.all false
set_option maxRecDepth 100000
set_option maxHeartbeats 4000000
namespace Z
open PySem PySem.Spec PyProof.Rows L2
/-! ### t[::-1], xs[::-1] -/
section
variable {prog : Program} {w : World} {A : Around} {E : Value → Shared → Prop} {s : Shared}
end
section
variable {X : Cx}
def tRevT (K : PySem.W.Frag) (te : TE) : TE := fun σ H Q => te σ H fun x H1 => ∃ a xs, x = .ref a ∧ SqT K H1 a xs ∧ ∀ p, H1 p = none → Q (.ref p) (upd H1 p (.tup xs.reverse))
def mRev (f : D → Option D) (m : ME) : ME := fun e s => bnd (m e s) fun d s => lft (f d) s
def revT : D → Option D
  | .tup ds => some (.tup ds.reverse)
  | _ => none
def revLD : D → Option D
  | .lst ds => some (.lst ds.reverse)
  | _ => none
end
/-! ### x != y of two instances whose class has no __ne__ -/
section
open PySem.W PySem.Sem PySem.Builtin
variable {prog : Program} {w : World} {A : Around} {E : Value → Shared → Prop} {s : Shared} {K : Frag} {x C L f : Addr} {h₀ : Heap} {m : Str → Option Value} {ox : Obj} {od : Option Obj} {b tb : Value}
end
def neB (K : PySem.W.Frag) (c : Str) : Bool := He.eqO (PySem.W.findIn K (.ref (He.ga K c)) "__ne__") (some (some (.builtin "object.__ne__"))) && decide (PySem.W.mroIn K (He.ga K c) (.type "object") = some true)
section
variable {X : Cx} {a b : Expr} {ma mb : ME} {d : DefZ} {ps : List Str} {k j : Nat} {md : MD} {c : Str} {pos : Pos}
/-- x != y, two instances of c -/
def ownNe (c : Str) (md : MD) : D → D → S → Option (D × S) := fun a b s => match ofC c a && ofC c b with
  | true => match md [a, b] s with
    | some (.bl r, s') => some (.bl (!r), s')
    | _ => none
  | false => none
end
section
variable {Q : D → S → Prop} {s : S}
theorem wp_ownNe {c : Str} {md : MD} {fs gs : List (Str × D)} (h : ∃ r s1, md [.obj c fs, .obj c gs] s = some (r, s1) ∧ ∃ k, r = .bl k ∧ Q (.bl (!k)) s1) : ∃ d s', ownNe c md (.obj c fs) (.obj c gs) s = some (d, s') ∧ Q d s' := by
  obtain ⟨r, s1, h1, kk, rfl, h2⟩ := h
  unfold ownNe
  have : ofC c (.obj c fs) = true := by simp [ofC]
  have : ofC c (.obj c gs) = true := by simp [ofC]
  exact ⟨.bl (!kk), s1, by simp [*], h2⟩
end
end Z

set_option Elab.async false
set_option linter.all false
set_option maxRecDepth 100000
set_option maxHeartbeats 4000000
namespace Z
open PySem PySem.Spec PyProof.Rows L2
/-! ### min, max of a list of ints -/
def leastI : Int → List Int → Int
  | a, [] => a
  | a, x :: xs => leastI (if x < a then x else a) xs
def mostI : Int → List Int → Int
  | a, [] => a
  | a, x :: xs => mostI (if a < x then x else a) xs
theorem leastI_le : ∀ (xs : List Int) (a : Int), leastI a xs ≤ a ∧ ∀ x ∈ xs, leastI a xs ≤ x
  | [], a => ⟨Int.le_refl _, fun x h => by cases h⟩
  | x :: xs, a => by
    have ih := leastI_le xs (if x < a then x else a)
    unfold leastI
    refine ⟨?_, fun y hy => ?_⟩
    · have := ih.1
      split at this <;> split <;> omega
    · rcases List.mem_cons.mp hy with rfl | h
      · have := ih.1
        split at this <;> split <;> omega
      · exact ih.2 y h
theorem leastI_mem : ∀ (xs : List Int) (a : Int), leastI a xs ∈ a :: xs
  | [], a => by simp [leastI]
  | x :: xs, a => by
    have ih := leastI_mem xs (if x < a then x else a)
    unfold leastI
    rcases List.mem_cons.mp ih with h | h
    · rw [h]; split <;> simp
    · exact List.mem_cons_of_mem _ (List.mem_cons_of_mem _ h)
def minLD : List D → Option D
  | [.lst ds] => match intsD ds with
    | some (n :: ns) => some (.int (leastI n ns))
    | _ => none
  | _ => none
def maxLD : List D → Option D
  | [.lst ds] => match intsD ds with
    | some (n :: ns) => some (.int (mostI n ns))
    | _ => none
  | _ => none
section
variable {K : PySem.W.Frag}
theorem minL_ok : CallOk K (rMin K) minLD := by
  intro g H s xs ds d Q R r e k
  unfold minLD at e
  split at e
  · split at e
    · rename_i n0 ns0 h1
      cases e
      obtain ⟨v, rfl, rv⟩ := repL_one r
      cases rv with
      | lst hl rl =>
        refine ⟨_, _, rfl, by rw [← ints_of rl h1]; exact .inl (rd_H R hl), by simp, fun m m1 m2 => ?_⟩
        have a := leastI_mem ns0 n0 |> m2 _
        have b : leastI n0 ns0 ≤ m := by
          rcases List.mem_cons.mp m1 with rfl | h
          · exact (leastI_le _ _).1
          · exact (leastI_le _ _).2 m h
        rw [Int.le_antisymm a b]
        exact k _ _ _ (.refl R) (.int _)
    · cases e
  · cases e
end
end Z

set_option Elab.async false
set_option linter.all false
set_option maxRecDepth 100000
set_option maxHeartbeats 4000000
namespace SrtO
open PySem PyProof.Rows Srt PySem.W
/-! ### sorted of a dict -/
section
variable {prog : Program} {w : World} {A : Around} {E : Value → Shared → Prop} {s : Shared} {r d : Addr} {n : Nat} {P : Nat → Value → Prop} {OK : Heap → Prop}
theorem dic_sorted {lt : Value → Value → Bool} {Q : Value → Shared → Prop} (S : KdlSrc prog w "dict" r d n P OK) (hh : A.handled = none) (hok : OK s.heap) (hn : n ≤ sizeLine) (O : Swo lt)
    (hS : ∀ (h' : Heap) (tk : Nat) (acc : Array Value), (∀ b o, s.heap.get? b = some o → h'.get? b = some o) → ItemsOf P acc n → 2 ≤ acc.toList.length → ∀ (h₁ : Heap) (a : Addr), h₁.get? a = some (seqObj "list" acc.toList.toArray 0) →
      (∀ b o, h'.get? b = some o → b ≠ a ∧ h₁.get? b = some o) → SortableO prog w A.in1.in1 { s with heap := h₁, toks := tk } a acc.toList lt)
    (q : ∀ (h' : Heap) (tk : Nat) (acc : Array Value) (out : List Value), (∀ b o, s.heap.get? b = some o → h'.get? b = some o) → ItemsOf P acc n → Srtd lt out → Stb lt out acc.toList →
      Q (.ref h'.objs.size) { s with heap := sortedHeap (h'.push (seqObj "list" acc.toList.toArray 0)) h'.objs.size acc.toList out.toArray, toks := tk }) :
    wpAny (model prog w) A (call (.builtin "sorted") [.ref r]) Q E s := by
  refine Calls.call_function_entry kind_sorted plain_sorted entry_sorted (args_sorted1 _) ?_
  unfold Builtin.«sorted»
  refine wpAny_bind (m := checkCount "sorted" 1 1 _) (wpAny_pure (wpAny_bind (kdu_collect (A := A.in1) S hh hok hn fun h' tk acc hk hacc => ?_)))
  have hlen : acc.toList.length ≤ sizeLine := by rw [Array.length_toList, hacc.1]; exact hn
  refine wpAny_bind (wpAny_newList ?_ hlen)
  show wpAny _ _ _ _ _ { s with heap := h'.push (seqObj "list" acc.toList.toArray 0), toks := tk }
  have at_new : (h'.push (seqObj "list" acc.toList.toArray 0)).get? h'.objs.size = some (seqObj "list" acc.toList.toArray 0) := Heap.get?_push_size _ rfl
  have stays : ∀ b o, h'.get? b = some o → b ≠ h'.objs.size ∧ (h'.push (seqObj "list" acc.toList.toArray 0)).get? b = some o := fun b o z => ⟨Nat.ne_of_lt (Heap.lt_size z), Heap.get?_push_of_some _ z⟩
  show wpAny _ _ _ _ _ _
  refine wpAny_bind (wpAny_holding (wpAny_call_entry slot_list_sort ⟨_, at_new, rfl⟩ entry_list_sort (list_sort_ord O at_new hlen (fun h2 => hS h' tk acc hk hacc h2 _ _ at_new stays) fun out o1 o2 => ⟨_, rfl, ?_⟩) (args_list_sort _)))
  exact wpAny_pure ⟨_, rfl, q h' tk acc out hk hacc o1 o2⟩
end
end SrtO
namespace Z
open PySem PySem.Spec PyProof.Rows L2 PySem.W
section
variable {X : Cx}
def keysVD (kvs : List (Key × D)) : List D := kvs.map fun p => kVD p.1
def sortedDicA : List D → Option D
  | [.dic kvs] => if sameK (keysVD kvs) ∧ kvs.length ≤ sizeLine then some (.lst (sortL (keysVD kvs))) else none
  | _ => none
theorem cr_sortDicA (hc : X.calm = true) : CallR X (.builtin "sorted") (rF X.K fun ds s => lft (sortedDicA ds) s) := fun pins s σ H xs us Q I r h => by
  obtain ⟨g, s0, ds, d, s', R, rl, hm, k⟩ := h
  obtain ⟨h4, h5⟩ := lft_some hm
  dsimp only at h4 h5
  subst h5
  unfold sortedDicA at h4
  split at h4
  · rename_i kvs
    split at h4
    · rename_i hk
      cases h4
      cases rl with
      | cons r1 rl =>
        cases rl
        cases r1 with
        | @dic a vs _ q rr =>
          rw [Vals.ref1 r]
          obtain ⟨hk, hz⟩ := hk
          obtain ⟨z, lo, ws, rel, dd⟩ := dk_rd I.hok (rdK_H R q)
          obtain ⟨ep, hat⟩ := dd.dictAt
          have hlen : ws.length = kvs.length := by rw [← rel.length, rr.length]
          have O := sameK_one hk
          have rk : RepL X.K g (vs.map fun p => kV p.1) (keysVD kvs) := repK_keys rr
          have hv : ∀ {acc : Array Value}, ItemsOf (fun j v => ∃ (k : Key) (x : Value), ws[j]? = some (k, x) ∧ keyIs k v = true) acc ws.length → Vals (vs.map fun p => kV p.1) acc.toList := fun {acc} hacc => by
            have hal : acc.toList.length = ws.length := by rw [Array.length_toList, hacc.1]
            have hv := keys_vals hal fun j v e => hacc.2 j v (by rw [← Array.getElem?_toList]; exact e)
            rw [kv_fst rel] at hv
            exact hv
          refine SrtO.dic_sorted (lt := fun v u => ltS (keyZ s.heap v) (keyZ s.heap u)) (kdl_dict (knd := mixKind X.prog X.w) (kvs := ws) (ep := ep) lo) (I.ok.hd hc) hat (by rw [hlen]; exact hz) ⟨fun x y => ltS_swo.asym _ _, fun x y z => ltS_swo.tr _ _ _⟩ (fun h' tk acc keep0 hacc h2 h1 a' ha kk => ?_) fun h' tk acc out keep0 hacc o1 o2 => ?_
          · intro h2' keep
            have T := itms_of I R (hv hacc) rk O.sc
            have hT' : Itms h2' acc.toList (keysVD kvs) := (T.keep (h' := h1) fun b o e _ => (kk b o (keep0 b o e)).2).keep fun b o e c => keep b o (fun z => by
              subst z
              have e' : some o = some (PyProof.Rows.seqObj "list" acc.toList.toArray 0) := e.symm.trans ha
              cases e'
              exact absurd (Value.type.inj c) (by decide)) e
            obtain ⟨κ, hκ, hC⟩ := cmp_Z (prog := X.prog) (w := X.w) (A := X.A.in1.in1) (s := { s with heap := h2', toks := tk }) O hT' h2
            refine ⟨κ, hκ, fun p q hp hq => ?_⟩
            have e : ∀ v ∈ acc.toList, keyZ h2' v = keyZ s.heap v := fun v hv => by
              obtain ⟨i, hi⟩ := List.mem_iff_getElem?.mp hv
              have a1 := congrArg (fun l => l[i]?) T.keys
              have a2 := congrArg (fun l => l[i]?) hT'.keys
              simp only [List.getElem?_map, hi, Option.map_some] at a1 a2
              rw [← a1] at a2
              exact Option.some.inj a2
            have := hC p q hp hq
            show wpAny _ _ _ (fun r s' => s' = _ ∧ r = ltS (keyZ s.heap p.1) (keyZ s.heap q.1)) _ _
            rw [← e p.1 hp, ← e q.1 hq]
            exact this
          · have T := itms_of I R (hv hacc) rk O.sc
            obtain ⟨ys, y1, y2⟩ := back_of I R (hv hacc) rk O.sc out fun v hv => o2.perm.mem_iff.mp hv
            have hperm : (out.map (keyZ s.heap)).Perm (keysVD kvs) := by
              have := o2.perm.map (keyZ s.heap)
              rw [T.keys] at this
              exact this
            have hs : SrtO.Srtd ltS (out.map (keyZ s.heap)) := List.pairwise_map.mpr o1
            have he := sortL_eq hperm hs O.inj
            rw [← he] at y2
            have at_new : (h'.push (PyProof.Rows.seqObj "list" acc.toList.toArray 0)).get? h'.objs.size = some (PyProof.Rows.seqObj "list" acc.toList.toArray 0) := Heap.get?_push_size _ rfl
            obtain ⟨ep', he'⟩ := PyProof.Rows.sortedHeap_at (out := out.toArray) at_new
            have hyl : ys.length ≤ sizeLine := by
              rw [y1.length, o2.perm.length_eq, Array.length_toList, hacc.1, hlen]; exact hz
            have I1 : Inv X pins σ H { s with heap := h', toks := tk } := I.kept keep0
            have hn := I1.hok.fresh (Nat.le_refl h'.objs.size)
            obtain ⟨z1, z2, z3, z4⟩ := (Step.refl R).new1 (u := .lst ys) hn
            refine ⟨.ref _, upd H h'.objs.size (.lst ys), I1.laid (t' := tk) (fun b o e => ?_) (Nat.le_refl _) ⟨hyl, out, ep', y1, he'⟩, rfl, k _ g _ z1 z2 z3 z4 ⟨ys, upd_same, y2⟩⟩
            have lt : b < h'.objs.size := Heap.lt_size e
            rw [PyProof.Rows.sortedHeap_old (Nat.ne_of_lt lt) (by rw [PyProof.Rows.size_push']; exact Nat.lt_succ_of_lt lt)]
            exact Heap.get?_push_of_some _ e
    · cases h4
  · cases h4
end
end Z

set_option Elab.async false
set_option linter.all false
set_option maxRecDepth 100000
set_option maxHeartbeats 4000000
namespace Z
open PySem PySem.Spec PyProof.Rows L2
/-! ### xs.index(x), texts -/
def indexD : D → D → Option D
  | .lst ds, .str x => (toSs ds).bind fun ys => if x ∈ ys then some (.int (ys.findIdx fun y => decide (y = x) : Nat)) else none
  | _, _ => none
section
variable {X : Cx} {o a : Expr} {mo ma : ME} {apos pos : Pos}
end
end Z

set_option Elab.async false
set_option linter.all false
set_option maxRecDepth 100000
set_option maxHeartbeats 4000000
namespace Z
open PySem PySem.Spec PyProof.Rows L2
/-! ### d[k] += v, d owned, whole numbers -/
def sAugK (i : Nat) (m1 m2 : ME) : MS := fun e s => bndS (m1 e s) fun kd s => match keyD kd, e[i]? with
  | some k, some (.own (.dic kvs)) => match lookD kvs k with
    | some (.int a) => bndS (m2 e s) fun d s => match d with
      | .int b => if kvs.length < sizeLine then some (.nx, e.set i (.own (.dic (putD kvs k (.int (a + b))))), s) else none
      | _ => none
    | _ => none
  | _, _ => none
section
variable {X : Cx} {i k : Nat} {x : Str} {a b : Expr} {m1 m2 : ME} {p apos pos : Pos}
theorem s_augK (hu : X.A.units + 1 < cLine) (hN : X.N[i]? = some x) (hv : Vis X.env.scope x) (h1 : PE X a (trE X.K m1)) (h2 : PE X b (trE X.K m2)) (hd : (x == ("__debug__" : Str)) = false := by decide +kernel) (hcd : (x == ("__classdict__" : Str)) = false := by decide +kernel)
    (ha : ∀ ov iv new, augStore a ov iv new = (do holding [new, ov, iv] (setItem ov iv new); release [new, ov, iv] []; pure .next) := by intros; rfl) :
    PS X (.AugAssign (.Subscript (.Name x p) a apos) .Add b pos) (trS X.K (sAugK i m1 m2)) := PS.imp (ps_daug hu (pe_var hN hv hd hcd) h1 h2 in_add ha) fun Dn σ H ⟨g, e, s, f, e', s', R, E, hm, kk⟩ => by
  obtain ⟨kd, s1, q1, hm1⟩ := bndS_some hm
  split at hm1
  · rename_i kx kvs hk hi
    split at hm1
    · rename_i av hlook
      obtain ⟨d, s2, q2, hm2⟩ := bndS_some hm1
      split at hm2
      · rename_i bv
        split at hm2
        · rename_i hl
          cases hm2
          obtain ⟨b0, w1, w2, w3, vs, w4, w5⟩ := E.own i _ hi
          refine ⟨_, w1, g, e, s, kd, s1, R, E, q1, fun y g1 H1 st1 ry => ?_⟩
          have w6 := st1.keep b0 _ w4 w3
          have w7 := w5.mono st1.le
          have ey := rep_key ry hk
          subst ey
          rcases repK_look (k := kx) w7 with ⟨_, z2⟩ | ⟨v0, d0, z1, z2, z3⟩
          · rw [hlook] at z2; cases z2
          rw [hlook] at z2
          cases z2
          cases z3
          refine ⟨b0, _, rfl, .inl ⟨_, kx, .inl w6, rfl, z1.symm⟩, g1, e, s1, _, _, st1.rel, E.step st1, q2, fun y2 g2 H2 st2 ry2 => ?_⟩
          cases ry2
          have st := st1.trans st2
          have w8 := st.keep b0 _ w4 w3
          have w9 := w5.mono st.le
          exact ⟨av, bv, rfl, rfl, _, DPut.k w8 (by rw [w5.length]; exact hl), kk g2 _ σ (own_set E st hi w1 fun g' L => ⟨_, upd_same, (w9.put (.int (av + bv))).mono L⟩)⟩
        · cases hm2
      · cases hm2
    · cases hm1
  · cases hm1
theorem p_augK (i : Nat) (hr : RmZ k X.A) (h1 : PE X a (trE X.K m1)) (h2 : PE X b (trE X.K m2)) (hN : X.N[i]? = some x := by rfl) (hv : visB X.env.scope x = true := by rfl)
    (hd : (x == ("__debug__" : Str)) = false := by decide +kernel) (hcd : (x == ("__classdict__" : Str)) = false := by decide +kernel)
    (ha : ∀ ov iv new, augStore a ov iv new = (do holding [new, ov, iv] (setItem ov iv new); release [new, ov, iv] []; pure .next) := by intros; rfl) : PS X (.AugAssign (.Subscript (.Name x p) a apos) .Add b pos) (trS X.K (sAugK i m1 m2)) :=
  s_augK (hu1_of hr) hN (vis_of hv) h1 h2 hd hcd ha
end
end Z

set_option Elab.async false
set_option linter.all false
set_option maxRecDepth 100000
set_option maxHeartbeats 4000000
namespace Z
open PySem PySem.Spec PyProof.Rows L2
/-! ### list(range(n)), list(range(a, b)) -/
def lrgD : List D → Option D
  | [.int n] => if 0 ≤ n ∧ n ≤ 16000000 then some (.lst (rngD 0 n.toNat)) else none
  | [.int a, .int b] => if 0 ≤ a ∧ a ≤ 16000000 ∧ 0 ≤ b ∧ b ≤ 16000000 then some (.lst (rngD a (b - a).toNat)) else none
  | _ => none
section
variable {X : Cx} {a b : Expr} {ma mb : ME} {p p2 pos pos2 : Pos}
def mLrg1 (ma : ME) : ME := fun e s => bnd (ma e s) fun d s => lft (lrgD [d]) s
def mLrg2 (ma mb : ME) : ME := fun e s => bnd (ma e s) fun d s => bnd (mb e s) fun d2 s => lft (lrgD [d, d2]) s
end
end Z

set_option Elab.async false
set_option linter.all false
set_option maxRecDepth 100000
set_option maxHeartbeats 4000000
namespace Z
open PySem PySem.Spec PyProof.Rows L2
/-! ### sorted(set(a list of ints)) -/
section
variable {P : Program} {w : World} {A : Around} {E : Value → Shared → Prop} {s : Shared}
set_option maxRecDepth 100000 in
set_option maxHeartbeats 3200000 in
theorem call_set_lstI {l : Addr} {items : Array Value} (ns : List Int) {Q : Value → Shared → Prop} (hh : A.handled = none) (hl : s.heap.IsList l items) (hit : IntsAre items.toList ns) (hb : ns.length + 1 < scanBound)
    (h : ∀ (h' : Heap) (tk c : Nat), SetR w h' s.heap.objs.size (fun j => decide (j ∈ ns)) c → c ≤ ns.length → (∀ b o, s.heap.get? b = some o → h'.get? b = some o) → Q (.ref s.heap.objs.size) { s with heap := h', toks := tk }) :
    wpAny (model P w) A (call (.type "set") [.ref l]) Q E s := by
  have hisz : items.size = ns.length := by
    have q := IntsAre.length hit
    rw [Array.length_toList] at q
    exact q
  obtain ⟨c, tl, hmro⟩ := F.called_set.mro
  have hmade := F.called_set.made
  have hsub := F.called_set.sub
  refine wpAny_call (codeAny_of_tree ?_)
  show wpAny _ _ (callAny (.type "set") _) _ _ _
  refine wpAny_pure ⟨Code.quiet_builtin _ (by decide +kernel), codeAny_builtin F.entry_type_call ?_⟩
  rw [Around.under_plain (weight_type_call_type "set" [.ref l] []) rfl]
  have h1 := F.called_set.notType
  have h2 := F.called_set.canCreate
  have hct := F.typeCall_set_1 (.ref l)
  repeat (any_goals (first | assumption | wp_step))

  refine codeAny_mono (code_set_led1 (.ref l) (E := E) (Q₁ := fun obj s₁ => obj = .ref s.heap.objs.size ∧ s₁ = { s with heap := s.heap.push { cls := .type "set", dict := none, data := .set #[] 0 (.fresh 0 0 (!w.params.followText "set-order")) } }) ⟨rfl, rfl⟩) fun r s₁ hr => ?_
  cases r with
  | error e => exact hr
  | ok fl =>
    cases fl with
    | ret obj =>
      obtain ⟨rfl, rfl⟩ := hr
      have hS : (s.heap.push { cls := .type "set", dict := none, data := .set #[] 0 (.fresh 0 0 (!w.params.followText "set-order")) }).get? s.heap.objs.size = some { cls := .type "set", dict := none, data := .set #[] 0 (.fresh 0 0 (!w.params.followText "set-order")) } := Heap.get?_push_size _ rfl
      have hT : Shared.TypeIs { s with heap := s.heap.push { cls := .type "set", dict := none, data := .set #[] 0 (.fresh 0 0 (!w.params.followText "set-order")) } } (.ref s.heap.objs.size) "set" := ⟨_, hS, rfl⟩
      have hli := F.called_set.init.lookup
      have hbi := F.called_set.init.bind (.ref s.heap.objs.size)
      repeat (any_goals (first | assumption | wp_step))

      refine codeAny_mono (codeAny_call_builtin (R := wants (fun r s₂ => r = .none ∧ ∃ h' tk c, s₂ = { s with heap := h', toks := tk } ∧ SetR w h' s.heap.objs.size (fun j => decide (j ∈ ns)) c ∧ c ≤ ns.length ∧
          (∀ b o, s.heap.get? b = some o → h'.get? b = some o)) E) F.called_set.init.plain F.entry_set_init (check_set_init_1 hT ?_)) fun r₂ s₂ hr₂ => ?_
      · obtain ⟨ol, hol, hcl, nl, hdl⟩ := hl
        obtain ⟨ocls, odict, odata, oslots⟩ := ol
        simp only at hcl hdl
        subst hcl; subst hdl
        have hol' : (s.heap.push { cls := .type "set", dict := none, data := .set #[] 0 (.fresh 0 0 (!w.params.followText "set-order")) }).get? l = some { cls := .type "list", dict := odict, data := .seq items nl, slots := oslots } := Heap.get?_push_of_some _ hol
        have hsls := F.sub_list_set
        have hslf := F.sub_list_frozenset
        have hne : (Value.type "list" == Value.type "dict") = false := by decide
        have hl1 : (s.heap.push { cls := .type "set", dict := none, data := .set #[] 0 (.fresh 0 0 (!w.params.followText "set-order")) }).IsList l items := ⟨_, hol', rfl, nl, rfl⟩
        unfold Builtin.«set.__init__» noKeywords Builtin.Frozenset.updateFrom
        generalize hPI : pyIter = PI
        wp_walk
        subst hPI

        refine wpAny_pyIter_list hl1 ?_
        refine wpAny_bind (wpAny_runValue ?_)
        have hlS : l < s.heap.objs.size := Heap.lt_size hol
        have hh3 : A.in1.in1.in1.handled = none := by simp [hh]
        have hz1 : (s.heap.push { cls := .type "set", dict := none, data := .set #[] 0 (.fresh 0 0 (!w.params.followText "set-order")) }).objs.size = s.heap.objs.size + 1 := Heap.size_push ..
        have hneI : l ≠ (s.heap.push { cls := .type "set", dict := none, data := .set #[] 0 (.fresh 0 0 (!w.params.followText "set-order")) }).objs.size := by
          rw [Heap.size_push]; exact Nat.ne_of_lt (Nat.lt_succ_of_lt hlS)
        have hSf : s.heap.objs.size ∉ [(s.heap.push { cls := .type "set", dict := none, data := .set #[] 0 (.fresh 0 0 (!w.params.followText "set-order")) }).objs.size, l] := by
          rw [Heap.size_push]; simp only [List.mem_cons, List.mem_singleton, List.not_mem_nil, or_false, not_or]
          exact ⟨Nat.ne_of_lt (Nat.lt_succ_self _), Nat.ne_of_gt hlS⟩
        have hval : ∀ (i : Nat) (v : Value), items[i]? = some v → ∃ k t, ns[i]? = some k ∧ v = .int k t := fun i v hv => by
          have hi : i < ns.length := by rw [← hisz]; exact (Array.getElem?_eq_some_iff.mp hv).1
          obtain ⟨t, e⟩ := PyProof.Rows.IntsAre.int_at hit i v (by rw [Array.getElem?_toList]; exact hv)
          refine ⟨ns[i], t, List.getElem?_eq_getElem hi, ?_⟩
          rw [e, List.getD_eq_getElem?_getD, List.getElem?_eq_getElem hi] <;> rfl
        refine set_update_ints ((Walks.list hh3 _ l hneI items).toS) s.heap.objs.size
          hSf ns hisz hb hval (items.size - 0) 0 _ (by omega) (Nat.zero_le _)
          ⟨⟨_, Heap.get?_push_size _ rfl, rfl, rfl⟩, (hl1.push _)⟩ ?hS0 ?hR
        case hS0 =>
          have hget : ((s.heap.push { cls := .type "set", dict := none, data := .set #[] 0 (.fresh 0 0 (!w.params.followText "set-order")) }).push { cls := .type "list_iterator", data := .fields #[.ref l, .int 0 0] }).get? s.heap.objs.size
              = some { cls := .type "set", dict := none, data := .set #[] 0 (.fresh 0 0 (!w.params.followText "set-order")) } := Heap.get?_push_of_some _ hS
          exact ⟨0, Nat.le_refl 0, setR_new_at hget⟩
        case hR =>
          intro s' c' hm hc' hS'
          obtain ⟨h', g2, d', tk', os'⟩ := s'
          have eg : g2 = s.gens := hm.gens
          have ed : d' = s.drawn := hm.drawn
          have eo : os' = s.os := hm.os
          subst eg; subst ed; subst eo
          show wpAny _ _ _ _ _ _
          refine wpAny_pure ?_
          show wpAny _ _ (ret Value.none) _ _ _
          rw [hisz] at hc'
          refine wpAny_pure ⟨rfl, h', tk', c', rfl, hS', hc', fun b o e => ?_⟩
          have hb0 : b < s.heap.objs.size := Heap.lt_size e
          have hb1 : b ≠ s.heap.objs.size := Nat.ne_of_lt hb0
          have hb2 : b ≠ (s.heap.push { cls := .type "set", dict := none, data := .set #[] 0 (.fresh 0 0 (!w.params.followText "set-order")) }).objs.size := by
            rw [Heap.size_push]; exact Nat.ne_of_lt (Nat.lt_succ_of_lt hb0)
          exact hm.heap b o (by simp only [List.mem_cons, List.mem_singleton, List.not_mem_nil, or_false, not_or]; exact ⟨hb1, hb2⟩) (Heap.get?_push_of_some _ (Heap.get?_push_of_some _ e))

      · cases r₂ with
        | error e => exact hr₂
        | ok fl₂ =>
          cases fl₂ with
          | ret r =>
            obtain ⟨rfl, h', tk, c', rfl, hS', hc', hk'⟩ := hr₂
            repeat (any_goals (first | assumption | wp_step))
            exact h _ _ _ hS' hc' hk'
          | _ => exact hr₂.elim
    | _ => exact hr.elim
end
def tSortSet (K : PySem.W.Frag) (ta : TE) : TE := fun σ H Q => ta σ H fun x H1 => ∃ (l : Addr) (ns : List Int), x = .ref l ∧ SqL K H1 l (ns.map V.int) ∧ ns.length < 64 ∧
  ∀ (out : List Int) (p : Addr), out.Pairwise (· < ·) → (∀ k, k ∈ out ↔ k ∈ ns) → H1 p = none → Q (.ref p) (upd H1 p (.lst (out.map V.int)))
theorem pe_sortSet {X : Cx} {a : Expr} {ta : TE} {p p2 q pos : Pos} (hc : X.calm = true) (hg : Gl X "sorted") (hm : X.mg "sorted" = none) (hg2 : Gl X "set") (hm2 : X.mg "set" = none) (ha : PE X a ta)
    (na : starEach [a] X.env = (false, eval a X.env) :: starEach [] X.env := by rfl) : PE X (.Call (.Name "sorted" p) [.Call (.Name "set" p2) [a] [] q] [] pos) (tSortSet X.K ta) := by
  refine ⟨fun pins s σ H Q I h => ?_⟩
  refine Call_ (ld_blt I hg hm bt_sorted ?_)
  refine PyProof.Rows.callWith_builtin1 (PyProof.Rows.args_cons ?_ rfl) rfl rfl
  refine Call_ (ld_blt I hg2 hm2 boot_set ?_)
  refine PyProof.Rows.callWith_type1 (PyProof.Rows.args_cons (thn (ha.run pins s σ H _ I h) fun v s1 ⟨x, H1, I1, r1, q1⟩ => PyProof.Rows.args_nil ?_) na) na rfl
  obtain ⟨l, ns, rfl, hq, hl, q1⟩ := q1
  cases r1
  obtain ⟨its, r, pl, hz⟩ := I1.list hq
  have hlen : its.toArray.size = ns.length := by rw [List.size_toArray, ← r.length, List.length_map]
  refine call_set_lstI (items := its.toArray) ns (I1.ok.hd hc) pl.isList (by simpa using RZ.intsAre_vals r) (by unfold scanBound; omega) fun h' tk c hS hcl hk => ?_
  refine PyProof.Rows.args_nil ?_
  have I2 : Inv X pins σ H1 { s1 with heap := h', toks := tk } := I1.kept hk
  refine sorted_set hS (I2.ok.hd hc) (by omega) fun s' pp out c2 ks k g o hp hg hi hs hmm hll => ?_
  have hlen : (ks.map V.int).length ≤ sizeLine := by rw [List.length_map, hll, sizeLine_eq]; omega
  have hn : H1 pp = none := I2.hok.fresh hp
  have J : Inv X pins σ (upd H1 pp (.lst (ks.map V.int))) { ({ s1 with heap := h', toks := tk } : Shared) with heap := s'.heap, gens := s'.gens, drawn := s'.drawn, toks := s'.toks } :=
    I2.call (ch := []) (Un.laid k hp hn) (I2.hok.laid k hp ⟨hlen, out.toList, c2, vals_of_ints hi, hg⟩) (by rw [g]; exact I2.bare) (fun _ z => nomatch z)
  have e : s' = { ({ s1 with heap := h', toks := tk } : Shared) with heap := s'.heap, gens := s'.gens, drawn := s'.drawn, toks := s'.toks } := by
    cases s'
    cases s1
    cases o
    rfl
  rw [e]
  exact ⟨.ref pp, _, J, rfl, q1 ks pp hs (fun k => by rw [hmm k, decide_eq_true_iff]) hn⟩
/-! the law's own form -/
def insI (x : Int) : List Int → List Int
  | [] => [x]
  | y :: l => if x < y then x :: y :: l else if x = y then y :: l else y :: insI x l
def sdI (l : List Int) : List Int := l.foldr insI []
theorem insI_mem {x y : Int} : ∀ {l : List Int}, y ∈ insI x l ↔ y = x ∨ y ∈ l
  | [] => by simp [insI]
  | z :: l => by
    unfold insI
    split
    · simp
    · split
      · rename_i h
        subst h
        simp
      · rw [List.mem_cons, insI_mem, List.mem_cons]
        exact ⟨fun h => by rcases h with h | h | h; exact .inr (.inl h); exact .inl h; exact .inr (.inr h), fun h => by rcases h with h | h | h; exact .inr (.inl h); exact .inl h; exact .inr (.inr h)⟩
theorem insI_up {x : Int} : ∀ {l : List Int}, l.Pairwise (· < ·) → (insI x l).Pairwise (· < ·)
  | [], _ => by simp [insI]
  | z :: l, h => by
    obtain ⟨h1, h2⟩ := List.pairwise_cons.mp h
    unfold insI
    split
    · rename_i c
      refine List.pairwise_cons.mpr ⟨fun y hy => ?_, h⟩
      rcases List.mem_cons.mp hy with rfl | q
      · exact c
      · have := h1 y q; omega
    · split
      · exact h
      · refine List.pairwise_cons.mpr ⟨fun y hy => ?_, insI_up h2⟩
        rcases insI_mem.mp hy with rfl | q
        · omega
        · exact h1 y q
theorem sdI_mem {y : Int} : ∀ {l : List Int}, y ∈ sdI l ↔ y ∈ l
  | [] => by simp [sdI]
  | x :: l => by
    show y ∈ insI x (sdI l) ↔ _
    rw [insI_mem, sdI_mem, List.mem_cons]
theorem sdI_up : ∀ (l : List Int), (sdI l).Pairwise (· < ·)
  | [] => List.Pairwise.nil
  | x :: l => insI_up (sdI_up l)
theorem up_eq : ∀ {a b : List Int}, a.Pairwise (· < ·) → b.Pairwise (· < ·) → (∀ k, k ∈ a ↔ k ∈ b) → a = b
  | [], [], _, _, _ => rfl
  | [], y :: b, _, _, h => absurd ((h y).mpr (by simp)) (by simp)
  | x :: a, [], _, _, h => absurd ((h x).mp (by simp)) (by simp)
  | x :: a, y :: b, ha, hb, h => by
    obtain ⟨a1, a2⟩ := List.pairwise_cons.mp ha
    obtain ⟨b1, b2⟩ := List.pairwise_cons.mp hb
    have e : x = y := by
      rcases List.mem_cons.mp ((h x).mp (by simp)) with q | q
      · exact q
      · rcases List.mem_cons.mp ((h y).mpr (by simp)) with r | r
        · exact r.symm
        · have := b1 x q; have := a1 y r; omega
    subst e
    rw [up_eq a2 b2 fun k => ?_]
    have hk := h k
    rw [List.mem_cons, List.mem_cons] at hk
    constructor
    · intro q
      rcases hk.mp (.inr q) with rfl | r
      · have := a1 k q; omega
      · exact r
    · intro q
      rcases hk.mpr (.inr q) with rfl | r
      · have := b1 k q; omega
      · exact r
theorem rep_ints {K : PySem.W.Frag} {g : G} : ∀ l : List Int, RepL K g (l.map V.int) (l.map .int)
  | [] => .nil
  | i :: l => .cons (.int i) (rep_ints l)
def sosD : List D → Option D
  | [.lst ds] => match intsD ds with
    | some ns => if ns.length < 64 then some (.lst ((sdI ns).map .int)) else none
    | none => none
  | _ => none
section
variable {X : Cx} {a : Expr} {ma : ME} {p p2 pos pos2 : Pos}
def mSos (ma : ME) : ME := fun e s => bnd (ma e s) fun d s => lft (sosD [d]) s
theorem f_sos (hc : X.calm = true) (hg : Gl X "sorted") (hm : X.mg "sorted" = none) (hg2 : Gl X "set") (hm2 : X.mg "set" = none) (ha : PE X a (trE X.K ma)) (na : starEach [a] X.env = (false, eval a X.env) :: starEach [] X.env := by rfl) :
    PE X (.Call (.Name "sorted" p) [.Call (.Name "set" p2) [a] [] pos2] [] pos) (trF X.K (mSos ma)) := PE.imp (pe_sortSet hc hg hm hg2 hm2 ha na) fun σ H Q ⟨g, e, s, d, s', R, E, hm, k⟩ => by
  obtain ⟨d1, s1, h1, hm1⟩ := bnd_some hm
  obtain ⟨h4, h5⟩ := lft_some hm1
  dsimp only at h4 h5
  subst h5
  refine ⟨g, e, s, d1, s', R, E, h1, fun v g1 H1 st1 rv => ?_⟩
  unfold sosD at h4
  split at h4
  · rename_i ds heq
    cases heq
    split at h4
    · rename_i ns hns
      split at h4
      · rename_i hl
        cases h4
        cases rv with
        | lst hq r =>
          have ev := ints_of r hns
          subst ev
          refine ⟨_, ns, rfl, .inl (rd_H st1.rel hq), hl, fun out q ho hmm hq2 => ?_⟩
          have eo : out = sdI ns := up_eq ho (sdI_up ns) fun k => by rw [hmm k, sdI_mem]
          subst eo
          obtain ⟨st4, hf, hcx, o⟩ := fresh_upd (u := .lst ((sdI ns).map V.int)) (d := .lst ((sdI ns).map .int)) st1.rel hq2 fun g' L => ⟨_, upd_same, rep_ints _⟩
          exact k q g1 _ (st1.trans st4) (st1.noneOf hq2) hf hcx o
      · cases h4
    · cases h4
  · cases h4
end
end Z

set_option Elab.async false
set_option linter.all false
set_option maxRecDepth 100000
set_option maxHeartbeats 4000000
namespace Z
open PySem PySem.Spec PyProof.Rows L2
/-! ### x[k] = v, x an owned list -/
section
variable {X : Cx} {a b : Expr} {m1 m2 : ME} {x : Str} {p apos pos : Pos} {i : Nat}
def sPutL (i : Nat) (m1 m2 : ME) : MS := fun e s => bndS (m2 e s) fun d s => bndS (m1 e s) fun kd s => match kd, e[i]? with
  | .int k, some (.own (.lst ds)) => match ixN ds.length k with
    | some j => some (.nx, e.set i (.own (.lst (ds.set j d))), s)
    | none => none
  | _, _ => none
end
/-! ### *range(n), *range(a, b) in a display or a call -/
section
variable {X : Cx} {a b e : Expr} {es : List Expr} {me m1 m2 : ME} {ma : MA} {ta : TA} {p p2 pos : Pos}
def tStarRg (te : L2.St → Hp → (Int → Int → Hp → Prop) → Prop) (t : TA) : TA := fun σ H Q => te σ H fun a b H1 => RgOk a b ∧ t σ H1 fun ys H2 => Q (rgV a b ++ ys) H2
def aStarR1 (m : ME) (ma : MA) : MA := fun e s => bnd (m e s) fun d s => match d with
  | .int n => if 0 ≤ n ∧ n ≤ 16000000 then bnd (ma e s) fun ds s => some (rngD 0 n.toNat ++ ds, s) else none
  | _ => none
def aStarR2 (m1 m2 : ME) (ma : MA) : MA := fun e s => bnd (m1 e s) fun c s => bnd (m2 e s) fun d s => match c, d with
  | .int i, .int j => if 0 ≤ i ∧ i ≤ 16000000 ∧ 0 ≤ j ∧ j ≤ 16000000 then bnd (ma e s) fun ds s => some (rngD i (j - i).toNat ++ ds, s) else none
  | _, _ => none
end
end Z

set_option Elab.async false
set_option linter.all false
set_option maxRecDepth 100000
set_option maxHeartbeats 4000000
namespace Z
open PySem PySem.Spec PyProof.Rows L2
/-! ### xs.index(b), truth values -/
def toBs : List D → Option (List Bool)
  | [] => some []
  | .bl b :: ds => (toBs ds).map (b :: ·)
  | _ => none
def indexB : D → D → Option D
  | .lst ds, .bl x => (toBs ds).bind fun ys => if x ∈ ys then some (.int (ys.findIdx fun y => decide (y = x) : Nat)) else none
  | _, _ => none
section
variable {X : Cx} {o a : Expr} {mo ma : ME} {apos pos : Pos}
end
end Z

set_option Elab.async false
set_option linter.all false
set_option maxRecDepth 100000
set_option maxHeartbeats 4000000
namespace Z
open PySem PySem.Spec PyProof.Rows L2
/-! ### sorted of a list or of a tuple -/
def sortedED (ds : List D) : Option D := match ds with
  | [.tup _] => sortedTD ds
  | _ => sortedD ds
end Z

set_option Elab.async false
set_option linter.all false
set_option maxRecDepth 100000
set_option maxHeartbeats 4000000
namespace Z
open PySem PySem.Spec PyProof.Rows L2
/-! ### a loop over a dict's keys, the dict a value in a slot -/
section
variable {K : PySem.W.Frag} {g g' : G} {H H' : Hp} {σ σ' : L2.St} {e e' : EnvD} {s s' : S} {a : Addr} {vs : List (Key × V)} {od : Obj}
structure ItK (K : PySem.W.Frag) (J : It) (g : G) (a : Addr) (w : HO) (ds : List D) : Prop where
  go : ∀ (g' : G) (H : Hp) (s : S) (i : Nat), SRel K g' H s → GLe g g' → H a = some w → i < ds.length → J.go i H
  stop : ∀ (g' : G) (H : Hp) (s : S), SRel K g' H s → GLe g g' → H a = some w → J.stop ds.length H
  yld : ∀ (g' : G) (H : Hp) (s : S) (i : Nat) (x : V) (H' : Hp) (d : D), SRel K g' H s → GLe g g' → H a = some w → ds[i]? = some d → J.yld i H x H' → ∃ g'', Step K g' H g'' H' s ∧ Rep K g'' x d
end
section
variable {X : Cx} {tg : Expr} {mg : MG} {mb : MS} {body : List Stmt} {pos p : Pos}
/-- for k in d: d a name -/
def sForK (i : Nat) (mg : MG) (mb : MS) : MS := fun e s => match e[i]? with
  | some (.val (.dic kvs)) => forL mg mb (kvs.map fun p => kVD p.1) e s
  | _ => none
end
end Z

set_option Elab.async false
set_option linter.all false
set_option maxRecDepth 100000
set_option maxHeartbeats 4000000
namespace Z
open PySem PySem.Spec PyProof.Rows L2
/-! ### a comprehension over a dict's keys, the dict a value in a slot -/
section
variable {K : PySem.W.Frag}
/-- [.. for k in d if ..]: d a name -/
def mLcK (i : Nat) (vs : List Nat) (mc : MC) (mt : MT) (me : ME) : ME := fun e s => match e[i]? with
  | some (.val (.dic kvs)) => bnd (lcL mc mt me (wipeE e vs) (kvs.map fun p => kVD p.1) s) fun ys s2 => if ys.length ≤ sizeLine then some (.lst ys, s2) else none
  | _ => none
end
section
variable {X : Cx} {elt tg : Expr} {ifs : List Expr} {scope : Scope} {own : List (Str × Nat)} {pos p : Pos} {mc : MC} {mt : MT} {me : ME} {t : TG} {vs : List Nat}
end
end Z
namespace Z
open PySem PySem.Spec PyProof.Rows L2
section
variable {X : Cx} {tg elt : Expr} {mg : MG} {mb : MS} {body : List Stmt} {pos p : Pos} {ifs : List Expr} {scope : Scope} {own : List (Str × Nat)} {mc : MC} {mt : MT} {me : ME} {t : TG} {vs : List Nat} {x : Str}
end
end Z

set_option Elab.async false
set_option linter.all false
set_option maxRecDepth 100000
set_option maxHeartbeats 4000000
namespace Z
open PySem PySem.Spec PyProof.Rows L2
/-! ### tuple(d.items()) -/
section
variable {prog : Program} {w : World} {A : Around} {E : Value → Shared → Prop} {s : Shared} {K : Type} [DecidableEq K] {knd : KeyKind prog w K} {kvs : List (K × Value)} {r d ep : Addr}
end
section
variable {X : Cx} {pins : List (Addr × Obj)} {σ : L2.St}
def tupleItemsD : D → Option D
  | .dic kvs => if kvs.length ≤ sizeLine then some (.tup (kvs.map fun p => .tup [kVD p.1, p.2])) else none
  | _ => none
variable {e : Expr} {me : ME} {p pos apos cpos : Pos}
end
end Z

set_option Elab.async false
set_option linter.all false
set_option maxRecDepth 100000
set_option maxHeartbeats 4000000
namespace Z
open PySem PySem.Spec PyProof.Rows L2
/-! ### max(d.values()) -/
section
variable {prog : Program} {w : World} {A : Around} {E : Value → Shared → Prop} {s : Shared} {K : Type} [DecidableEq K] {knd : KeyKind prog w K} {kvs : List (K × Value)} {r d ep : Addr} {ns : List Int}
end
section
theorem int_at {ns : List Int} {us : List Value} (r : Vals (ns.map V.int) us) {i : Nat} {v : Value} (h : us[i]? = some v) : ∃ t, v = .int (ns.getD i 0) t := by
  rcases vals_get r i with ⟨_, h2⟩ | ⟨x, u, h1, h2, h3⟩
  · rw [h2] at h; cases h
  · rw [h2] at h; cases h
    rw [List.getElem?_map] at h1
    obtain ⟨n, hn, rfl⟩ := Option.map_eq_some_iff.mp h1
    obtain ⟨t, rfl⟩ := h3
    exact ⟨t, by rw [List.getD_eq_getElem?_getD, hn]; rfl⟩
def maxValsD : D → Option D
  | .dic kvs => match intsD (kvs.map fun p => p.2) with
    | some (n :: ns) => some (.int (mostI n ns))
    | _ => none
  | _ => none
variable {X : Cx} {e : Expr} {me : ME} {p pos apos cpos : Pos}
end
end Z

set_option Elab.async false
set_option linter.all false
set_option maxRecDepth 100000
set_option maxHeartbeats 4000000
namespace Z
open PySem PySem.Spec PyProof.Rows L2
/-! ### {**a, **b} -/
section
variable {prog : Program} {w : World} {A : Around} {E : Value → Shared → Prop} {s : Shared}
/-- a dict's parts -/
structure Parts (P : Program) (w : World) (h : Heap) (a : Addr) (o : Obj) (es : Array DictEntry) (ep : Nat) (xs : List (Key × Value)) : Prop where
  at_ : h.get? a = some o
  ex : o.ExactDict
  dat : o.data = .dict es ep
  ks : PySem.KeysOf (mixKind P w) es
  ps : Pairs (mixKind P w) es.toList xs
  nd : (xs.map (·.1)).Nodup
theorem parts_of {h : Heap} {a : Addr} {xs : List (Key × Value)} (q : h.DictOf (mixKind prog w) a xs) : ∃ o es ep, Parts prog w h a o es ep xs :=
  let ⟨o, es, ep, a1, a2, a3, a4, a5, a6⟩ := q
  ⟨o, es, ep, ⟨a1, a2, a3, a4, a5, a6⟩⟩
theorem Parts.dict {h : Heap} {a : Addr} {o : Obj} {es : Array DictEntry} {ep : Nat} {xs : List (Key × Value)} (p : Parts prog w h a o es ep xs) : h.DictOf (mixKind prog w) a xs := ⟨o, es, ep, p.at_, p.ex, p.dat, p.ks, p.ps, p.nd⟩
theorem Parts.sz {h : Heap} {a : Addr} {o : Obj} {es : Array DictEntry} {ep : Nat} {xs : List (Key × Value)} (p : Parts prog w h a o es ep xs) : es.size = xs.length := by
  rw [← Array.length_toList, ← p.ps.length]
theorem Parts.find {h : Heap} {a : Addr} {o : Obj} {es : Array DictEntry} {ep : Nat} {xs : List (Key × Value)} (p : Parts prog w h a o es ep xs) (k : Key) : (es.findIdx? fun e => (mixKind prog w).is k e.key) = xs.findIdx? fun q => decide (q.1 = k) := by
  have := p.ps.findIdx k
  cases es
  simpa using this
/-- one entry put -/
theorem put_one {d : Addr} {xs : List (Key × Value)} {k : Key} {hh : Int} {y v : Value} {Q : Unit → Shared → Prop} (hy : keyIs k y = true) (eh : hh = (mixKind prog w).hash k) (hm : s.heap.DictOf (mixKind prog w) d xs) (room : xs.length ≤ sizeLine)
    (q : ∀ h', h'.DictOf (mixKind prog w) d (stored xs k v) → Heap.SameBut d s.heap h' → Q () { s with heap := h' }) : wpAny (model prog w) A (dictPut d hh y v) Q E s := by
  obtain ⟨o, es, ep, p⟩ := parts_of hm
  have fd := p.find k
  have small : es.size ≤ sizeLine := by rw [p.sz]; exact room
  rw [eh]
  refine wpAny_bind (wpAny_dictFind_of (knd := mixKind prog w) hy p.at_ p.dat p.ks ?_)
  rcases hf : (es.findIdx? fun e => (mixKind prog w).is k e.key) with _ | i <;> rw [hf] <;> dsimp only
  · have out : k ∉ xs.map (·.1) := not_mem_of_findIdx_none (fd ▸ hf)
    have st : stored xs k v = xs ++ [(k, v)] := by
      unfold stored
      refine if_neg fun z => out ?_
      obtain ⟨q, hq, e⟩ := List.any_eq_true.mp z
      exact List.mem_map.mpr ⟨q, hq, of_decide_eq_true e⟩
    refine wpAny_updateDictKeys (hz := small) p.at_ p.dat (q _ (Parts.dict (o := Obj.mapDictKeys (·.push ⟨(mixKind prog w).hash k, y, v⟩) o) ⟨Heap.get?_update_self _ p.at_ (Obj.isFreed_of_dict (Obj.data_mapDictKeys p.dat _)), p.ex.mapDictKeys _, Obj.data_mapDictKeys p.dat _, p.ks.push hy _, ?_, ?_⟩) (Heap.SameBut.update ..))
    · have g := p.ps.append hy ((mixKind prog w).hash k) v
      rw [st, Array.toList_push]
      exact g
    · rw [st, List.map_append]
      refine List.nodup_append.mpr ⟨p.nd, by simp, fun x hx z hz e => out ?_⟩
      have : z = k := by simpa using hz
      rw [← this, ← e]; exact hx
  · have inn : (xs.any fun q => decide (q.1 = k)) = true := any_of_findIdx_some (fd ▸ hf)
    have st : stored xs k v = xs.map fun q => if q.1 = k then (q.1, v) else q := if_pos inn
    refine wpAny_updateDict p.at_ p.dat (q _ (Parts.dict (o := Obj.mapDict (·.modify i fun e => { e with val := v }) o) ⟨Heap.get?_update_self _ p.at_ (Obj.isFreed_of_dict (Obj.data_mapDict p.dat _)), p.ex.mapDict _, Obj.data_mapDict p.dat _, p.ks.modify _ _, ?_, ?_⟩) (Heap.SameBut.update ..))
    · have fl : (es.toList.findIdx? fun e => (mixKind prog w).is k e.key) = some i := by
        cases es
        simpa using hf
      have g := p.ps.modify p.nd fl v
      rw [st]
      cases es
      simpa using g
    · rw [st, keys_map_store]
      exact p.nd
theorem key_no_ref {k : Key} {y : Value} (h : keyIs k y = true) (b : Addr) : y ≠ .ref b := fun e => by
  subst e
  rcases keyIs_shape h with ⟨_, _, _, e⟩ | ⟨_, _, _, e⟩ <;> cases e
/-- one turn: the entry i of a put into d -/
def putTurn (d a : Addr) (ep i : Nat) (_ : PUnit) : Sem (ForInStep PUnit) := do
  match (← dictEntries a)[i]? with
  | some e =>
    holding [e.key, e.val] (dictPut d e.hash e.key e.val)
    if (← dictEpoch a) != ep then do
      (unsupported "dict.changed-during-merge" : Sem PUnit)
      pure (ForInStep.yield PUnit.unit)
    else pure (ForInStep.yield PUnit.unit)
  | _ => do
    (unsupported "dict.changed-during-merge" : Sem PUnit)
    pure (ForInStep.yield PUnit.unit)
/-- a dict's entries put into another one, from the entry i on -/
theorem put_from {d a : Addr} {xs ys : List (Key × Value)} {o : Obj} {es : Array DictEntry} {ep : Nat} {Q : PUnit → Shared → Prop} (ne : a ≠ d) (room : xs.length + ys.length ≤ sizeLine) :
    ∀ (n i : Nat) (s : Shared), i + n = es.size → Parts prog w s.heap a o es ep ys → s.heap.DictOf (mixKind prog w) d (merged xs (ys.take i)) →
      (∀ h', h'.DictOf (mixKind prog w) d (merged xs ys) → Heap.SameBut d s.heap h' → Q PUnit.unit { s with heap := h' }) →
      wpAny (model prog w) A (forIn (List.range' i n) PUnit.unit (putTurn d a ep)) Q E s
  | 0, i, s, hi, p, hd, q => by
    rw [List.range'_zero, List.forIn_nil]
    refine wpAny_pure (q s.heap ?_ (Heap.SameBut.refl _ _))
    have l := p.sz
    rwa [List.take_of_length_le (by omega)] at hd
  | n + 1, i, s, hi, p, hd, q => by
    have lt : i < es.size := by omega
    have lt2 : i < ys.length := by have := p.sz; omega
    rw [List.range'_succ, List.forIn_cons]
    refine wpAny_bind ?_
    refine wpAny_bind (wpAny_dictEntries p.at_ p.dat ?_)
    rw [Array.getElem?_eq_getElem lt]
    obtain ⟨k1, v1⟩ := p.ps.get? (e := es[i]) (by simp [lt]) (List.getElem?_eq_getElem lt2)
    obtain ⟨k2, k3, k4⟩ := p.ks es[i] (Array.getElem_mem lt)
    have ek : k2 = ys[i].1 := (mixKind prog w).inj _ _ _ k3 k1
    rw [ek] at k4
    dsimp only
    refine wpAny_bind (wpAny_holding ?_)
    rw [v1]
    refine put_one k1 k4 hd ?_ fun h1 d1 b1 => ?_
    · have m1 := merged_length_le xs (ys.take i)
      have m2 : (ys.take i).length ≤ ys.length := by rw [List.length_take]; omega
      omega
    have p1 : Parts prog w h1 a o es ep ys := { p with at_ := (b1.2 a ne).trans p.at_ }
    refine wpAny_bind (wpAny_dictEpoch p1.at_ p1.dat ?_)
    rw [if_neg (by simp)]
    refine wpAny_pure ?_
    exact put_from (Q := Q) ne room n (i + 1) { s with heap := h1 } (by omega) p1 (by rw [merged_take_succ xs ys i ys[i] (List.getElem?_eq_getElem lt2)]; exact d1) fun h2 d2 b2 => q h2 d2 (b1.trans b2)
theorem wpAny_merge {d a : Addr} {xs ys : List (Key × Value)} {Q : Unit → Shared → Prop} (hm : s.heap.DictOf (mixKind prog w) d xs) (hx : s.heap.DictOf (mixKind prog w) a ys) (ne : a ≠ d) (na : (a == sysModules) = false)
    (room : xs.length + ys.length ≤ sizeLine) (q : ∀ h', h'.DictOf (mixKind prog w) d (merged xs ys) → Heap.SameBut d s.heap h' → Q () { s with heap := h' }) :
    wpAny (model prog w) A (mergeMapping d (.ref a) false) Q E s := by
  have ty := hx.typeIs
  obtain ⟨o, es, ep, p⟩ := parts_of hx
  obtain ⟨o2, es2, ep2, p2⟩ := parts_of hm
  have steps : wpAny (model prog w) A (do
      let es ← dictEntries a
      let size := es.size
      let epoch ← dictEpoch a
      forIn (List.range size) PUnit.unit (putTurn d a epoch)
      pure ()) Q E s := by
    refine wpAny_bind (wpAny_dictEntries p.at_ p.dat (wpAny_bind (wpAny_dictEpoch p.at_ p.dat (wpAny_bind ?_))))
    rw [List.range_eq_range']
    exact put_from ne room es.size 0 s (by omega) p (by rw [List.take_zero]; exact hm) fun h' a1 a2 => wpAny_pure (q h' a1 a2)
  refine wpAny_bind (wpAny_bind (wpAny_typeOf ty (wpAny_of_eq PySem.isSubtype_dict_dict ?_)))
  rw [if_pos rfl]
  refine wpAny_bind (wpAny_specialOf ty PySem.F.slot_dict_iter.lookup ?_)
  simp only [beq_self_eq_true]
  refine wpAny_bind (wpAny_pure ?_)
  dsimp only
  rw [if_neg (by simpa using na)]
  refine wpAny_bind (wpAny_dictEntries p2.at_ p2.dat ?_)
  by_cases em : es2.isEmpty = true
  · rw [if_pos em]
    refine wpAny_bind (wpAny_dictEntries p.at_ p.dat (wpAny_bind ?_))
    rw [← Array.forIn_toList]
    have look : ∀ l : List DictEntry, (∀ e ∈ l, ∃ k, keyIs k e.key = true) → ∀ (f : DictEntry → PUnit → Sem (ForInStep PUnit)), (∀ e ∈ l, f e PUnit.unit = pure (ForInStep.yield PUnit.unit)) → ∀ Q' : PUnit → Shared → Prop, Q' PUnit.unit s → wpAny (model prog w) A (forIn l PUnit.unit f) Q' E s := by
      intro l
      induction l with
      | nil => intro _ f _ Q' q'; rw [List.forIn_nil]; exact wpAny_pure q'
      | cons e l ih =>
        intro hk f hf Q' q'
        rw [List.forIn_cons, hf e List.mem_cons_self]
        exact wpAny_bind (wpAny_pure (ih (fun x hx => hk x (List.mem_cons_of_mem _ hx)) f (fun x hx => hf x (List.mem_cons_of_mem _ hx)) Q' q'))
    have kk : ∀ e ∈ es.toList, ∃ k, keyIs k e.key = true := fun e he => let ⟨k, h1, _⟩ := p.ks e (by simpa using he); ⟨k, h1⟩
    refine look es.toList kk _ (fun e he => ?_) _ steps
    obtain ⟨k, hk⟩ := kk e he
    have nr := key_no_ref hk
    cases hv : e.key with
    | ref b => exact absurd hv (nr b)
    | _ => rfl
  · rw [if_neg em]
    exact steps
end
section
variable {X : Cx} {K : PySem.W.Frag} {g g1 : G} {H H1 : Hp} {s1 : S} {p : Addr}
theorem step_own {ob : HO} (st : Step K g H g1 H1 s1) (hp : H p = none) (hf : g1.F p = none) (hc : p ∉ g1.ad) : Step K g H g1 (upd H1 p ob) s1 where
  rel := {
    sub := fun a u h => by
      have ne : a ≠ p := fun e => by subst e; rw [hf] at h; cases h
      rw [upd_ne ne]; exact st.rel.sub a u h
    len := st.rel.len
    cell := fun n c h => by
      obtain ⟨a, h1, h2, h3⟩ := st.rel.cell n c h
      have ne : a ≠ p := fun e => hc (by subst e; exact List.mem_iff_getElem?.mpr ⟨n, h1⟩)
      exact ⟨a, h1, h2, h3.mono .refl fun u hu => by rw [upd_ne ne]; exact hu⟩
    inj := st.rel.inj }
  le := st.le
  new := st.new
  newc := st.newc
  keep := fun a u h ha => by
    have ne : a ≠ p := fun e => by subst e; rw [hp] at h; cases h
    rw [upd_ne ne]; exact st.keep a u h ha
def mrgD : D → D → Option D
  | .dic xs, .dic ys => if xs.length + ys.length ≤ sizeLine then some (.dic (mergeD (xs ++ ys))) else none
  | _, _ => none
def mMrg (ma mb : ME) : ME := fun e s => bnd (ma e s) fun a s => bnd (mb e s) fun b s => lft (mrgD a b) s
theorem f_mrg {a b : Expr} {ma mb : ME} {pos : Pos} (ha : PE X a (trE X.K ma)) (hb : PE X b (trE X.K mb)) : PE X (.Dict [none, none] [a, b] pos) (trF X.K (mMrg ma mb)) := ⟨fun pins s σ H Q I ⟨g, en, s0, d, s', R, E, hmm, k⟩ => by
  obtain ⟨da, s1, h1, hm1⟩ := bnd_some hmm
  obtain ⟨db, s2, h2, hm2⟩ := bnd_some hm1
  obtain ⟨h4, h5⟩ := lft_some hm2
  dsimp only at h4 h5
  subst h5
  unfold mrgD at h4
  split at h4
  · rename_i xs ys
    split at h4
    · rename_i hz
      cases h4
      rw [arm_eval_Dict]
      refine wpAny_bind (wpAny_standAt ?_)
      show wpAny _ _ (dictDisplay [(none, do let x ← eval a X.env; standAt pos; pure x), (none, do let x ← eval b X.env; standAt pos; pure x)]) _ _ _
      unfold dictDisplay
      dsimp only
      have hn := I.hok.fresh (Nat.le_refl s.heap.objs.size)
      have I1 := I.laid (a := s.heap.objs.size) (o := .dK []) (h' := s.heap.push { cls := .type "dict", data := .dict #[] }) (t' := s.toks) (fun _ _ q => Heap.get?_push_of_some _ q) (Nat.le_refl _) (dk_empty s.heap I.big)
      obtain ⟨st1, f1, c1, o1⟩ := fresh_upd (u := .dK []) (d := .dic []) R hn fun g' L => ⟨_, upd_same, .nil⟩
      rw [List.forIn_cons]
      refine wpAny_bind (wpAny_bind ?_)
      dsimp only
      refine wpAny_bind (wpAny_ite ?_)
      rw [if_pos (show ([] : List (Sem Value × Sem Value)).isEmpty = true from rfl)]
      refine wpAny_pure ?_
      dsimp only
      refine wpAny_bind (wpAny_bind (wpAny_alloc ?_))
      refine wpAny_pure ?_
      refine wpAny_bind (wpAny_holding (wpAny_bind ?_))
      refine thn (ha.run pins _ σ _ (fun x H1 => ∃ g1, Step X.K g (upd H s.heap.objs.size (.dK [])) g1 H1 s1 ∧ Rep X.K g1 x (.dic xs)) I1 ⟨g, en, s0, _, _, st1.rel, E.step st1, h1, fun x g1 H1 st2 rx => ⟨g1, st2, rx⟩⟩) fun u t1 hep => ?_
      obtain ⟨x, H1, I2, rx, g1, st2, rr⟩ := hep
      refine wpAny_bind (wpAny_standAt (wpAny_pure ?_))
      have ng : ∀ (g1 : G) (H1 : Hp) (s1 : S), Step X.K g (upd H s.heap.objs.size (.dK [])) g1 H1 s1 → g1.F s.heap.objs.size = none ∧ s.heap.objs.size ∉ g1.ad := fun g1 H1 s1 st => by
        constructor
        · cases q : g1.F s.heap.objs.size with
          | none => rfl
          | some u =>
            rcases st.new _ _ q with z | z
            · rw [f1] at z; cases z
            · rw [upd_same] at z; cases z
        · intro z
          rcases st.newc _ z with z | z
          · exact c1 z
          · rw [upd_same] at z; cases z
      obtain ⟨f2, c2⟩ := ng g1 H1 s1 st2
      cases rr with
      | @dic a1 ws1 _ q1 rk1 =>
      obtain rfl : u = Value.ref a1 := rx
      have ne1 : a1 ≠ s.heap.objs.size := fun e => by rw [e, f2] at q1; cases q1
      have e1 : H1 s.heap.objs.size = some (.dK []) := st2.keep _ _ upd_same c1
      obtain ⟨z1, na1, vs1, kv1, dd1⟩ := dk_rd I2.hok (rdK_H st2.rel q1)
      obtain ⟨z0, na0, vs0, kv0, dd0⟩ := dk_of I2.hok e1
      have l1 : vs1.length = xs.length := by rw [← kv1.length, rk1.length]
      cases kv0
      refine wpAny_bind (wpAny_onRaise (wpAny_tryCatch (wpAny_onRaise (wpAny_holding (wpAny_merge dd0 dd1 ne1 na1 (by rw [l1]; simp; omega) fun h1' dd1' hs1 => ?_)))))
      have st3 := step_own (ob := .dK (mergeK [] ws1)) (st1.trans st2) hn f2 c2
      have hz1 : (mergeK [] ws1).length ≤ xs.length := by
        have h1 := length_mergeK ws1 []
        rw [List.length_nil, rk1.length] at h1
        omega
      have he1 : ∃ q, h1'.get? s.heap.objs.size = some q := let ⟨q, _, _, hq, _⟩ := dd1'; ⟨q, hq⟩
      have I3 := d_write (t' := t1.toks) I2 (by rw [e1]; exact True.intro) hs1 he1 (dk_new (by omega) na0 (kv1.merge .nil) dd1')
      have r1 := merge_rep rk1 (RepK.nil (K := X.K) (g := g1))
      refine wpAny_pure ?_
      dsimp only
      rw [List.forIn_cons]
      refine wpAny_bind ?_
      dsimp only
      refine wpAny_bind (wpAny_ite ?_)
      rw [if_pos (show ([] : List (Sem Value × Sem Value)).isEmpty = true from rfl)]
      refine wpAny_pure ?_
      dsimp only
      refine wpAny_bind (wpAny_pure ?_)
      refine wpAny_bind (wpAny_holding (wpAny_bind ?_))
      refine thn (hb.run pins _ σ _ (fun x H2 => ∃ g2, Step X.K g1 (upd H1 s.heap.objs.size (.dK (mergeK [] ws1))) g2 H2 s' ∧ Rep X.K g2 x (.dic ys)) I3 ⟨g1, en, s1, _, _, st3.rel, E.step st3, h2, fun x g2 H2 st rx => ⟨g2, st, rx⟩⟩) fun u t2 hep => ?_
      obtain ⟨x, H2, I4, rx, g2, st4, rr⟩ := hep
      refine wpAny_bind (wpAny_standAt (wpAny_pure ?_))
      have f3 : g2.F s.heap.objs.size = none := by
        cases q : g2.F s.heap.objs.size with
        | none => rfl
        | some u =>
          rcases st4.new _ _ q with z | z
          · rw [f2] at z; cases z
          · rw [upd_same] at z; cases z
      have c3 : s.heap.objs.size ∉ g2.ad := fun z => by
        rcases st4.newc _ z with z | z
        · exact c2 z
        · rw [upd_same] at z; cases z
      cases rr with
      | @dic a2 ws2 _ q2 rk2 =>
      obtain rfl : u = Value.ref a2 := rx
      have ne2 : a2 ≠ s.heap.objs.size := fun e => by rw [e, f3] at q2; cases q2
      have e2 : H2 s.heap.objs.size = some (.dK (mergeK [] ws1)) := st4.keep _ _ upd_same c2
      obtain ⟨z2, na2, vs2, kv2, dd2⟩ := dk_rd I4.hok (rdK_H st4.rel q2)
      obtain ⟨z3, na3, vs3, kv3, dd3⟩ := dk_of I4.hok e2
      have l2 : vs2.length = ys.length := by rw [← kv2.length, rk2.length]
      have l3 : vs3.length ≤ xs.length := by rw [← kv3.length]; omega
      refine wpAny_bind (wpAny_onRaise (wpAny_tryCatch (wpAny_onRaise (wpAny_holding (wpAny_merge dd3 dd2 ne2 na2 (by omega) fun h2' dd2' hs2 => ?_)))))
      have st5 := step_own (ob := .dK (mergeK (mergeK [] ws1) ws2)) (st3.trans st4) hn f3 c3
      have hz2 : (mergeK (mergeK [] ws1) ws2).length ≤ sizeLine := by
        have h1 := length_mergeK ws2 (mergeK [] ws1)
        rw [rk2.length] at h1
        omega
      have he2 : ∃ q, h2'.get? s.heap.objs.size = some q := let ⟨q, _, _, hq, _⟩ := dd2'; ⟨q, hq⟩
      have I5 := d_write (t' := t2.toks) I4 (by rw [e2]; exact True.intro) hs2 he2 (dk_new hz2 na3 (kv2.merge kv3) dd2')
      have r2 := merge_rep rk2 (r1.mono st4.le)
      refine wpAny_pure ?_
      dsimp only
      rw [List.forIn_nil]
      refine wpAny_pure ?_
      refine wpAny_bind (wpAny_ite ?_)
      rw [if_pos (show ([] : List (Sem Value × Sem Value)).isEmpty = true from rfl)]
      refine wpAny_pure ?_
      refine wpAny_pure ⟨.ref s.heap.objs.size, _, I5, rfl, k _ _ _ st5 hn f3 c3 ⟨_, upd_same, ?_⟩⟩
      unfold mergeD
      rw [List.foldl_append]
      exact r2
    · cases h4
  · cases h4⟩
end
end Z

set_option Elab.async false
set_option linter.all false
set_option maxRecDepth 100000
set_option maxHeartbeats 4000000
namespace Z
open PySem PySem.Spec PyProof.Rows L2
/-! ### a set of texts that can be walked -/
def txE (e : Int × Value) : Str := match e.2 with
  | .str x _ => x
  | _ => Str.ofString ""
def TxE (w : World) (e : Int × Value) : Prop := ∃ x t, e = (hashStr w x, Value.str x t)
/-- its entries, its table -/
structure TxTab (w : World) (es : Array (Int × Value)) (t : SetTable) (xs : List Str) : Prop where
  tx : ∀ e ∈ es.toList, TxE w e
  nd : (es.toList.map txE).Nodup
  mem : ∀ x, x ∈ es.toList.map txE ↔ x ∈ xs
  few : es.size < scanBound
  fit : t.fits es.size = true
  ris : Ris t.place.toList
  led : w.params.followText "set-order" = true ∨ t.led = true
def TxSet (w : World) (h : Heap) (a : Addr) (xs : List Str) : Prop := ∃ o es ep t, h.get? a = some o ∧ o.ExactSet ∧ o.data = .set es ep t ∧ TxTab w es t xs
section
variable {P : Program} {w : World} {A : Around} {E : Value → Shared → Prop} {s : Shared} {a : Addr} {xs : List Str}
theorem TxSet.move {h h' : Heap} (R : TxSet w h a xs) (k : ∀ o, h.get? a = some o → h'.get? a = some o) : TxSet w h' a xs :=
  let ⟨o, es, ep, t, ho, r⟩ := R
  ⟨o, es, ep, t, k o ho, r⟩
theorem TxTab.elems {es : Array (Int × Value)} {t : SetTable} (T : TxTab w es t xs) : ElemsOf (PySem.strKind P w) es.toList := fun e he => by
  obtain ⟨x, tk, rfl⟩ := T.tx e he
  refine ⟨⟨x, ?_, rfl⟩, rfl⟩
  show Value.isStrOf x (.str x tk) = true
  simp [Value.isStrOf]
theorem tx_is {e : Int × Value} (g : TxE w e) (x : Str) : (PySem.strKind P w).is x e.2 = true ↔ txE e = x := by
  obtain ⟨y, tk, rfl⟩ := g
  show Value.isStrOf x (.str y tk) = true ↔ y = x
  simp [Value.isStrOf]
/-- stored, and laid anew where it is too full -/
theorem tx_store {gv : Bool → Sem Unit} (hg : ∀ (b : Bool) (s1 : Shared) (Q : Unit → Shared → Prop), Q () s1 → wpAny (model P w) A (gv b) Q E s1)
    {o : Obj} {es es1 : Array (Int × Value)} {ep : Nat} {t t1 : SetTable} {ys : List Str} {dummy : Bool} {R : Option Bool → Shared → Prop}
    (ho : s.heap.get? a = some o) (hex : o.ExactSet) (hd : o.data = .set es ep t) (T : TxTab w es1 t1 ys) (q : ∀ h', Heap.SameBut a s.heap h' → TxSet w h' a ys → R (some true) { s with heap := h' }) :
    wpAny (model P w) A (do
        storeSet a es1 t1
        if (!dummy && t1.tooFull) = true then do
            gv (relayAll t1 es1 (SetTable.grown es1.size)).2.2
            storeSet a (relayAll t1 es1 (SetTable.grown es1.size)).1 (relayAll t1 es1 (SetTable.grown es1.size)).2.1
            pure (some true)
          else pure (some true)) R E s := by
  have put : ∀ {h : Heap} {o : Obj} {es0 es' : Array (Int × Value)} {ep : Nat} {t0 t' : SetTable}, h.get? a = some o → o.data = .set es0 ep t0 → (h.update a (Obj.putSet es' t')).get? a = some { o with data := .set es' (ep + 1) t' } := by
    intro h o es0 es' ep t0 t' h1 h2
    have z := Heap.get?_update_self (Obj.putSet es' t') h1 (by rw [putSet_of es' t' h2]; rfl)
    rwa [putSet_of es' t' h2] at z
  refine wpAny_bind (wpAny_storeSet_of ho hd ?_ (fits_of_scanBound T.few))
  have o1 := put (es' := es1) (t' := t1) ho hd
  have b1 := Heap.SameBut.update s.heap a (Obj.putSet es1 t1)
  by_cases full : (!dummy && t1.tooFull) = true
  · rw [if_pos full]
    have pm := relayAll_perm t1 es1 (SetTable.grown es1.size)
    have f2 := relayAll_fits t1 es1 (SetTable.grown es1.size)
    have r2 := relayAll_ris t1 es1 (SetTable.grown es1.size)
    have l2 := relayAll_led t1 es1 (SetTable.grown es1.size)
    generalize relayAll t1 es1 (SetTable.grown es1.size) = Z at pm f2 r2 l2 ⊢
    obtain ⟨es2, t2, gave⟩ := Z
    dsimp only at pm f2 r2 l2 ⊢
    have sz : es2.size = es1.size := by
      have := pm.length_eq
      simpa using this
    have T2 : TxTab w es2 t2 ys := {
      tx := fun e he => T.tx e (pm.mem_iff.mp he)
      nd := ((pm.map txE).nodup_iff).mpr T.nd
      mem := fun x => ((pm.map txE).mem_iff).trans (T.mem x)
      few := by rw [sz]; exact T.few
      fit := f2
      ris := r2
      led := T.led.imp id fun z => l2.trans z }
    refine wpAny_bind (hg _ _ _ (wpAny_bind (wpAny_storeSet_of o1 rfl ?_ (fits_of_scanBound T2.few))))
    exact wpAny_pure (q _ (b1.trans (Heap.SameBut.update _ a _)) ⟨_, es2, _, t2, put o1 rfl, hex, rfl, T2⟩)
  · rw [if_neg full]
    exact wpAny_pure (q _ b1 ⟨_, es1, _, t1, o1, hex, rfl, T⟩)
/-- one text added -/
theorem tx_add {x : Str} {tk : Tok} {Q : Bool → Shared → Prop} (R : TxSet w s.heap a xs) (room : xs.length + 1 < scanBound)
    (q : ∀ b h', Heap.SameBut a s.heap h' → TxSet w h' a (xs ++ [x]) → Q b { s with heap := h' }) : wpAny (model P w) A (setAddHashed a (.str x tk) (hashStr w x)) Q E s := by
  obtain ⟨o, es, ep, t, ho, hex, hd, T⟩ := R
  have el := T.elems (P := P)
  have key : (PySem.strKind P w).is x (.str x tk) = true := (tx_is (P := P) ⟨x, tk, rfl⟩ x).mpr rfl
  have cnt : es.size ≤ xs.length := by
    have := T.nd.length_le_of_subset (fun y hy => (T.mem y).mp hy)
    simpa using this
  unfold setAddHashed setAddHashedIn
  refine wpAny_holding (wpAny_bind (wpAny_setState_of ho hd T.fit ?_))
  dsimp only
  rw [if_pos (byScan_of rfl T.few el)]
  unfold setAddByScan
  refine wpAny_bind (wpAny_bind (wpAny_rule (wpAny_bind ?_)))
  refine wpAny_setScan_of (knd := PySem.strKind P w) key ho hd T.fit el ?_
  rcases hf : es.toList.findIdx? (fun e => (PySem.strKind P w).is x e.2) with _ | j <;> rw [hf] <;> dsimp only
  · have out : x ∉ es.toList.map txE := fun z => by
      obtain ⟨e, he, ex⟩ := List.mem_map.mp z
      have no := List.findIdx?_eq_none_iff.mp hf e he
      rw [(tx_is (P := P) (T.tx e he) x).mpr ex] at no
      cases no
    have pm := layNew_perm t es (hashStr w x) (.str x tk)
    have f1 := layNew_fits t es (hashStr w x) (.str x tk)
    have r1 := layNew_ris t es (hashStr w x) (.str x tk) T.ris
    have l1 := layNew_led t es (hashStr w x) (.str x tk)
    show wpAny _ _ (_ >>= _) _ _ _
    generalize layNew t es (hashStr w x) (.str x tk) = Z at pm f1 r1 l1 ⊢
    obtain ⟨es1, t1, dummy, gave⟩ := Z
    dsimp only at pm f1 r1 l1 ⊢
    have pc : es1.toList.Perm (es.toList ++ [(hashStr w x, Value.str x tk)]) := by rw [Array.toList_push] at pm; exact pm
    have pk : (es1.toList.map txE).Perm (es.toList.map txE ++ [x]) := by
      have := pc.map txE
      rwa [List.map_append] at this
    have sz : es1.size ≤ xs.length + 1 := by
      have := pc.length_eq
      simp at this
      omega
    have T1 : ∀ t2 : SetTable, t2.fits es1.size = true → Ris t2.place.toList → t2.led = t1.led → TxTab w es1 t2 (xs ++ [x]) := fun t2 a1 a2 a3 => {
      tx := fun e he => by
        rcases List.mem_append.mp (pc.mem_iff.mp he) with z | z
        · exact T.tx e z
        · exact ⟨x, tk, List.mem_singleton.mp z⟩
      nd := by
        refine (pk.nodup_iff).mpr (List.nodup_append.mpr ⟨T.nd, by simp, fun y hy z hz e => out ?_⟩)
        rw [List.mem_singleton.mp hz] at e
        exact e ▸ hy
      mem := fun y => by rw [pk.mem_iff, List.mem_append, List.mem_append, T.mem y]
      few := Nat.lt_of_le_of_lt sz room
      fit := a1
      ris := a2
      led := T.led.imp id fun z => a3.trans (l1.trans z) }
    have fin : ∀ h', Heap.SameBut a s.heap h' → TxSet w h' a (xs ++ [x]) → Q true { s with heap := h' } := fun h' sb r => q true h' sb r
    refine wpAny_bind ?_
    have off : ∀ (b : Bool) (s1 : Shared) (Q' : Unit → Shared → Prop), Q' () s1 → wpAny (model P w) A (match b with | true => rule "set.scan.the-table-gave-way" | false => pure ()) Q' E s1 := fun b s1 Q' z => by
      cases b
      · exact wpAny_pure z
      · exact wpAny_rule z
    refine off gave s _ ?_
    by_cases pl : t1.plain = true
    · rw [if_pos pl]
      refine wpAny_bind ?_
      rw [hashByValue_scannable 8 (x := Value.str x tk) rfl]
      refine wpAny_pure ?_
      exact tx_store off ho hex hd (T1 _ f1 r1 rfl) fun h' sb r => wpAny_pure (fin h' sb r)
    · rw [if_neg pl]
      refine wpAny_bind (wpAny_pure ?_)
      exact tx_store off ho hex hd (T1 _ f1 r1 rfl) fun h' sb r => wpAny_pure (fin h' sb r)
  · have inn : x ∈ xs := by
      obtain ⟨hj, pj, _⟩ := List.findIdx?_eq_some_iff_getElem.mp hf
      exact (T.mem x).mp (List.mem_map.mpr ⟨es.toList[j], List.getElem_mem hj, (tx_is (P := P) (T.tx _ (List.getElem_mem hj)) x).mp pj⟩)
    refine wpAny_pure (wpAny_pure (q false s.heap (Heap.SameBut.refl a s.heap) ⟨o, es, ep, t, ho, hex, hd, { T with mem := fun y => ?_ }⟩))
    rw [T.mem y, List.mem_append, List.mem_singleton]
    exact ⟨.inl, fun z => z.elim id fun e => e ▸ inn⟩
/-! ### set(xs) -/
theorem tx_update {I : Addr} {fp wr : List Addr} {G : Array GenState → Array GenState → Prop} {n : Nat} {Pv : Nat → Value → Prop} {St : Nat → Shared → Prop} {R : Result → Shared → Prop} {ys : List Str}
    (W : WalksS P w A.in1 I fp wr G n Pv St) (S : Addr) (sf : S ∉ fp) (yn : ys.length = n) (room : ys.length + 1 < scanBound) (val : ∀ i v, Pv i v → ∃ x t, ys[i]? = some x ∧ v = .str x t) :
    ∀ (m i : Nat) (s : Shared), i + m = n → St i s → TxSet w s.heap S (ys.take i) → (∀ s', Moved (S :: wr) G s s' → TxSet w s'.heap S ys → R (.ok (.ret .none)) s') →
      codeAny (model P w) A (.builtin "set.update.loop" ⟨[.ref S, .ref I], []⟩) R s
  | 0, i, s, hi, st, T, k => by
    obtain rfl : i = n := by omega
    refine codeAny_builtin F.entry_set_update_loop ?_
    rw [Around.under_plainId F.plain_set_update_loop _]
    refine wpAny_bind (W.done s _ _ st fun s1 mv => wpAny_pure (k s1 (mv.mono fun b hb => List.mem_cons_of_mem _ hb) ?_))
    rw [List.take_of_length_le (by omega)] at T
    exact T.move fun o e => mv.heap S o (fun z => sf (W.sub _ z)) e
  | m + 1, i, s, hi, st, T, k => by
    refine codeAny_builtin F.entry_set_update_loop ?_
    rw [Around.under_plainId F.plain_set_update_loop _]
    refine wpAny_bind (W.item i s _ _ (by omega) st fun v s1 pv st1 mv => ?_)
    obtain ⟨x, t, hx, rfl⟩ := val i v pv
    have T1 : TxSet w s1.heap S (ys.take i) := T.move fun o e => mv.heap S o (fun z => sf (W.sub _ z)) e
    have tl : (ys.take i).length + 1 < scanBound := by rw [List.length_take]; omega
    refine wpAny_bind (wpAny_holding (wpAny_holding (wpAny_bind ((PySem.strKind P w).pyHash (k := x) ((tx_is (P := P) (w := w) ⟨x, t, rfl⟩ x).mpr rfl) ?_))))
    refine tx_add (s := { s1 with toks := s1.toks + 1 }) T1 tl fun b h2 sb T2 => ?_
    have T3 : TxSet w h2 S (ys.take (i + 1)) := by
      rw [List.take_add_one, hx]
      exact T2
    have away : ∀ b o, b ∉ S :: wr → s1.heap.get? b = some o → h2.get? b = some o := fun b o hb e => (sb.2 b fun z => hb (z ▸ List.mem_cons_self)).trans e
    refine wpAny_pure ⟨plainId_quiet F.plain_set_update_loop _, tx_update W S sf yn room val m (i + 1) _ (by omega) (W.frame _ s1 _ _ st1 (Nat.le_succ _) fun b hb o e => (sb.2 b fun z => sf (z ▸ hb)).trans e) T3 fun s2 mv2 T4 => k s2 ?_ T4⟩
    exact Moved.trans W.gtrans ((mv.mono fun b hb => List.mem_cons_of_mem _ hb).then_heap (Nat.le_succ _) fun b o hb e => away b o hb e) mv2
/-- a new set, empty -/
def newSet (w : World) : Obj := { cls := .type "set", dict := none, data := .set #[] 0 (.fresh 0 0 (!w.params.followText "set-order")) }
theorem tx_new {h : Heap} (ho : h.get? a = some (newSet w)) : TxSet w h a [] :=
  ⟨_, #[], 0, _, ho, ⟨rfl, rfl, rfl⟩, rfl, { tx := fun e he => by simp at he, nd := by simp, mem := fun x => by simp, few := by decide, fit := by rfl, ris := List.Pairwise.nil, led := (by
    show _ ∨ (!w.params.followText "set-order") = true
    cases w.params.followText "set-order" <;> simp) }⟩
theorem strs_get {us : List Value} {ys : List Str} (h : StrsAre us ys) : ∀ {i : Nat} {v : Value}, us[i]? = some v → ∃ x t, ys[i]? = some x ∧ v = .str x t := by
  induction h with
  | nil => intro i v e; simp at e
  | cons x t _ ih =>
    intro i v e
    cases i with
    | zero => exact ⟨x, t, rfl, by simpa using e.symm⟩
    | succ i => exact ih (by simpa using e)
set_option maxRecDepth 100000 in
set_option maxHeartbeats 3200000 in
theorem set_of_list {l : Addr} {us : Array Value} {ys : List Str} {Q : Value → Shared → Prop} (calm : A.handled = none) (hl : s.heap.IsList l us) (hs : StrsAre us.toList ys) (room : ys.length + 1 < scanBound)
    (q : ∀ (h' : Heap) (tk : Nat), TxSet w h' s.heap.objs.size ys → (∀ b o, s.heap.get? b = some o → h'.get? b = some o) → Q (.ref s.heap.objs.size) { s with heap := h', toks := tk }) :
    wpAny (model P w) A (call (.type "set") [.ref l]) Q E s := by
  have un : us.size = ys.length := by
    have z := hs.length
    rwa [Array.length_toList] at z
  obtain ⟨mc, mt, mro⟩ := F.called_set.mro
  have made := F.called_set.made
  have sub := F.called_set.sub
  have nt := F.called_set.notType
  have cc := F.called_set.canCreate
  have tc := F.typeCall_set_1 (.ref l)
  refine wpAny_call (codeAny_of_tree (show wpAny _ _ (callAny (.type "set") _) _ _ _ from wpAny_pure ⟨Code.quiet_builtin _ (by decide +kernel), codeAny_builtin F.entry_type_call ?_⟩))
  rw [Around.under_plain (weight_type_call_type "set" [.ref l] []) rfl]
  repeat (any_goals (first | assumption | wp_step))

  refine codeAny_mono (code_set_led1 (.ref l) (E := E) (Q₁ := fun z s₁ => z = .ref s.heap.objs.size ∧ s₁ = { s with heap := s.heap.push (newSet w) }) ⟨rfl, rfl⟩) fun r s₁ hr => ?_
  rcases r with er | fl
  · exact hr
  · cases fl with
    | ret obj =>
      obtain ⟨rfl, rfl⟩ := hr
      have S0 : (s.heap.push (newSet w)).get? s.heap.objs.size = some (newSet w) := Heap.get?_push_size _ rfl
      have ty : Shared.TypeIs { s with heap := s.heap.push (newSet w) } (.ref s.heap.objs.size) "set" := ⟨_, S0, rfl⟩
      have li := F.called_set.init.lookup
      have bi := F.called_set.init.bind (.ref s.heap.objs.size)
      repeat (any_goals (first | assumption | wp_step))

      refine codeAny_mono (codeAny_call_builtin (R := wants (fun r s₂ => r = .none ∧ ∃ h' tk, s₂ = { s with heap := h', toks := tk } ∧ TxSet w h' s.heap.objs.size ys ∧ (∀ b o, s.heap.get? b = some o → h'.get? b = some o)) E) F.called_set.init.plain F.entry_set_init (check_set_init_1 ty ?_)) fun r₂ s₂ hr₂ => ?_
      · obtain ⟨ol, gl, cl, nl, dl⟩ := hl
        obtain ⟨oc, od, oda, os⟩ := ol
        simp only at cl dl
        subst cl; subst dl
        have gl' : (s.heap.push (newSet w)).get? l = some { cls := .type "list", dict := od, data := .seq us nl, slots := os } := Heap.get?_push_of_some _ gl
        have s1 := F.sub_list_set
        have s2 := F.sub_list_frozenset
        have nd : (Value.type "list" == Value.type "dict") = false := by decide
        have il : (s.heap.push (newSet w)).IsList l us := ⟨_, gl', rfl, nl, rfl⟩
        unfold Builtin.«set.__init__» noKeywords Builtin.Frozenset.updateFrom
        generalize hPI : pyIter = PI
        wp_walk
        subst hPI

        refine wpAny_pyIter_list il (wpAny_bind (wpAny_runValue ?_))
        have la : l < s.heap.objs.size := Heap.lt_size gl
        have c3 : A.in1.in1.in1.handled = none := by simp [calm]
        have sz : (s.heap.push (newSet w)).objs.size = s.heap.objs.size + 1 := Heap.size_push ..
        have ni : l ≠ (s.heap.push (newSet w)).objs.size := by rw [sz]; exact Nat.ne_of_lt (Nat.lt_succ_of_lt la)
        have nf : s.heap.objs.size ∉ [(s.heap.push (newSet w)).objs.size, l] := by
          rw [sz, List.mem_cons, List.mem_singleton]
          exact fun z => z.elim (fun e => Nat.ne_of_lt (Nat.lt_succ_self _) e) fun e => Nat.ne_of_gt la e
        have val : ∀ (i : Nat) (v : Value), us[i]? = some v → ∃ x t, ys[i]? = some x ∧ v = .str x t := fun i v hv => strs_get hs (by rw [Array.getElem?_toList]; exact hv)
        refine tx_update ((Walks.list c3 _ l ni us).toS) s.heap.objs.size nf un.symm room val us.size 0 _ (by omega) ⟨⟨_, Heap.get?_push_size _ rfl, rfl, rfl⟩, il.push _⟩ ?t0 ?tR
        case t0 => exact tx_new (Heap.get?_push_of_some _ S0)
        case tR =>
          intro s' mv T
          obtain ⟨h', g2, d', tk', os'⟩ := s'
          obtain rfl : g2 = s.gens := mv.gens
          obtain rfl : d' = s.drawn := mv.drawn
          obtain rfl : os' = s.os := mv.os
          show wpAny _ _ _ _ _ _
          refine wpAny_pure ?_
          show wpAny _ _ (ret Value.none) _ _ _
          refine wpAny_pure ⟨rfl, h', tk', rfl, T, fun b o e => mv.heap b o ?_ (Heap.get?_push_of_some _ (Heap.get?_push_of_some _ e))⟩
          have lb := Heap.lt_size e
          simp only [List.mem_cons, List.not_mem_nil, or_false, not_or]
          exact ⟨Nat.ne_of_lt lb, by rw [sz]; exact Nat.ne_of_lt (Nat.lt_succ_of_lt lb)⟩

      · rcases r₂ with er | fl₂
        · exact hr₂
        · cases fl₂ with
          | ret r =>
            obtain ⟨rfl, h', tk, rfl, T, kp⟩ := hr₂
            repeat (any_goals (first | assumption | wp_step))
            exact q _ _ T kp
          | _ => exact hr₂.elim
    | _ => exact hr.elim
end
end Z

set_option Elab.async false
set_option linter.all false
set_option maxRecDepth 100000
set_option maxHeartbeats 4000000
namespace Z
open PySem PySem.Spec PyProof.Rows L2
/-! ### sorted(set(texts)) -/
theorem strs_inv : ∀ {us : List Value}, (∀ u ∈ us, ∃ x t, u = Value.str x t) → StrsAre us (us.map strOf)
  | [], _ => .nil
  | u :: us, h => by
    obtain ⟨x, t, q⟩ := h u List.mem_cons_self
    have r := strs_inv fun z hz => h z (List.mem_cons_of_mem _ hz)
    rw [List.map_cons, q]
    exact .cons x t r
section
variable {P : Program} {w : World} {A : Around} {E : Value → Shared → Prop} {s : Shared}
theorem sorted_tx {a : Addr} {xs : List Str} {Q : Value → Shared → Prop} (R : TxSet w s.heap a xs) (calm : A.handled = none)
    (q : ∀ s' p (out : Array Value) (c : Nat) (ys : List Str), (∀ b o, s.heap.get? b = some o → s'.heap.get? b = some o) → s'.gens = s.gens → s'.os = s.os → s.heap.objs.size ≤ p → s'.heap.get? p = some (seqObj "list" out c) →
      StrsAre out.toList ys → ys.Nodup → (∀ x, x ∈ ys ↔ x ∈ xs) → sortedS ys = true → Q (.ref p) s') : wpAny (model P w) A (call (.builtin "sorted") [.ref a]) Q E s := by
  obtain ⟨o, es, ep, t, ho, hex, hd, T⟩ := R
  refine Calls.call_function_entry kind_sorted plain_sorted entry_sorted (args_sorted1 _) ?_
  unfold Builtin.«sorted»
  refine wpAny_bind (m := checkCount "sorted" 1 1 _) (wpAny_pure ?_)
  refine wpAny_bind (collect_set (A := A.in1) calm ⟨o, ho, hex.1, hd⟩ T.fit T.few T.ris T.led fun s1 vs k1 sz g1 o1 pm => ?_)
  have shape : ∀ e ∈ es.toList, ∃ x t, e.2 = Value.str x t := fun e he => by
    obtain ⟨x, t, z⟩ := T.tx e he
    exact ⟨x, t, by rw [z]⟩
  have mine : ∀ v ∈ vs, ∃ x t, v = Value.str x t := fun v hv => by
    obtain ⟨e, he, z⟩ := List.mem_map.mp (pm.mem_iff.mp hv)
    obtain ⟨x, t, z2⟩ := shape e he
    exact ⟨x, t, by rw [← z, z2]⟩
  have hS := strs_inv mine
  have px : (vs.map strOf).Perm (es.toList.map txE) := by
    have z := pm.map strOf
    rw [List.map_map] at z
    refine z.trans (List.Perm.of_eq (List.map_congr_left fun e he => ?_))
    obtain ⟨x, t, z2⟩ := shape e he
    show strOf e.2 = txE e
    unfold txE
    rw [z2] <;> rfl
  have fits : vs.length ≤ sizeLine := by
    rw [pm.length_eq, List.length_map, Array.length_toList]
    exact fits_of_scanBound T.few
  refine wpAny_bind (wpAny_newList ?_ fits)
  have at_new : (s1.heap.push (seqObj "list" vs.toArray 0)).get? s1.heap.objs.size = some (seqObj "list" vs.toArray 0) := Heap.get?_push_size _ rfl
  refine wpAny_bind (wpAny_holding (wpAny_call_entry slot_list_sort ⟨_, at_new, rfl⟩ entry_list_sort (list_sort_treeKAny strKind_oneLt at_new hS.keysOf (fun v₁ v₂ rest e => keyKind_strs (by rw [← e]; exact hS)) fits fun st' hp hs => ⟨_, rfl, ?_⟩) (args_list_sort _)))
  obtain ⟨ys, y1, y2, y3⟩ := sorted_out_str hS hp hs
  generalize (arrOf st').map (·.2) = out at y1 ⊢
  obtain ⟨c, hc⟩ := sortedHeap_at (vs := vs) (out := out) at_new
  have py : ys.Perm (es.toList.map txE) := y2.trans px
  refine wpAny_pure ⟨_, rfl, q _ s1.heap.objs.size out c ys (fun b u e => ?_) g1 o1 sz hc y1 (py.nodup_iff.mpr T.nd) (fun x => py.mem_iff.trans (T.mem x)) y3⟩
  have z := k1 b u e
  have lb := Heap.lt_size z
  show (sortedHeap (s1.heap.push (seqObj "list" vs.toArray 0)) s1.heap.objs.size vs out).get? b = some u
  rw [sortedHeap_old (Nat.ne_of_lt lb) (by rw [size_push']; exact Nat.lt_succ_of_lt lb)]
  exact Heap.get?_push_of_some _ z
end
def tSortTx (K : PySem.W.Frag) (ta : TE) : TE := fun σ H Q => ta σ H fun x H1 => ∃ (l : Addr) (xs : List Str), x = .ref l ∧ SqL K H1 l (xs.map V.str) ∧ xs.length < 64 ∧
  ∀ (ys : List Str) (p : Addr), ys.Nodup → (∀ x, x ∈ ys ↔ x ∈ xs) → sortedS ys = true → H1 p = none → Q (.ref p) (upd H1 p (.lst (ys.map V.str)))
theorem nodup_len : ∀ {ys xs : List Str}, ys.Nodup → (∀ x, x ∈ ys → x ∈ xs) → ys.length ≤ xs.length := fun nd h => nd.length_le_of_subset h
theorem pe_sortTx {X : Cx} {a : Expr} {ta : TE} {p p2 q pos : Pos} (calm : X.calm = true) (g1 : Gl X "sorted") (m1 : X.mg "sorted" = none) (g2 : Gl X "set") (m2 : X.mg "set" = none) (ha : PE X a ta)
    (na : starEach [a] X.env = (false, eval a X.env) :: starEach [] X.env := by rfl) : PE X (.Call (.Name "sorted" p) [.Call (.Name "set" p2) [a] [] q] [] pos) (tSortTx X.K ta) := by
  refine ⟨fun pins s σ H Q I h => ?_⟩
  refine Call_ (ld_blt I g1 m1 bt_sorted (PyProof.Rows.callWith_builtin1 (PyProof.Rows.args_cons ?_ rfl) rfl rfl))
  refine Call_ (ld_blt I g2 m2 boot_set (PyProof.Rows.callWith_type1 (PyProof.Rows.args_cons (thn (ha.run pins s σ H _ I h) fun v s1 ⟨x, H1, I1, r1, q1⟩ => PyProof.Rows.args_nil ?_) na) na rfl))
  obtain ⟨l, xs, rfl, hq, few, q1⟩ := q1
  cases r1
  obtain ⟨its, r, pl, hz⟩ := I1.list hq
  refine set_of_list (us := its.toArray) (ys := xs) (I1.ok.hd calm) pl.isList (by simpa using Vals.strs r) (by unfold scanBound; omega) fun h' tk hS hk => PyProof.Rows.args_nil ?_
  have I2 : Inv X pins σ H1 { s1 with heap := h', toks := tk } := I1.kept hk
  refine sorted_tx hS (I2.ok.hd calm) fun s' pp out c ys k g o hp hg hi nd hm hs => ?_
  have few2 : (ys.map V.str).length ≤ sizeLine := by
    have := nodup_len nd fun x hx => (hm x).mp hx
    rw [List.length_map, sizeLine_eq]; omega
  have hn : H1 pp = none := I2.hok.fresh hp
  have J : Inv X pins σ (upd H1 pp (.lst (ys.map V.str))) { ({ s1 with heap := h', toks := tk } : Shared) with heap := s'.heap, gens := s'.gens, drawn := s'.drawn, toks := s'.toks } :=
    I2.call (ch := []) (Un.laid k hp hn) (I2.hok.laid k hp ⟨few2, out.toList, c, vals_of_strs hi, hg⟩) (by rw [g]; exact I2.bare) (fun _ z => nomatch z)
  have e : s' = { ({ s1 with heap := h', toks := tk } : Shared) with heap := s'.heap, gens := s'.gens, drawn := s'.drawn, toks := s'.toks } := by
    cases s'
    cases s1
    cases o
    rfl
  rw [e]
  exact ⟨.ref pp, _, J, rfl, q1 ys pp nd hm hs hn⟩
/-! the law's own form -/
def addT (x : Str) (l : List Str) : List Str := if x ∈ l then l else x :: l
def dedT (l : List Str) : List Str := l.foldr addT []
theorem dedT_ok : ∀ l : List Str, (dedT l).Nodup ∧ ∀ x, x ∈ dedT l ↔ x ∈ l
  | [] => ⟨List.nodup_nil, fun x => Iff.rfl⟩
  | y :: l => by
    obtain ⟨a, b⟩ := dedT_ok l
    show (addT y (dedT l)).Nodup ∧ ∀ x, x ∈ addT y (dedT l) ↔ _
    unfold addT
    split
    · rename_i h
      refine ⟨a, fun x => ?_⟩
      rw [b, List.mem_cons]
      exact ⟨.inr, fun z => z.elim (fun e => e ▸ (b y).mp h) id⟩
    · rename_i h
      refine ⟨List.nodup_cons.mpr ⟨h, a⟩, fun x => ?_⟩
      rw [List.mem_cons, List.mem_cons, b]
theorem rep_texts {K : PySem.W.Frag} {g : G} : ∀ l : List Str, RepL K g (l.map V.str) (l.map .str)
  | [] => .nil
  | x :: l => .cons (.str x) (rep_texts l)
def sosTD : List D → Option D
  | [.lst ds] => match strsD ds with
    | some xs => if xs.length < 64 then some (.lst (sortL ((dedT xs).map .str))) else none
    | none => none
  | _ => none
theorem srt_texts {ys xs : List Str} (nd : ys.Nodup) (hm : ∀ x, x ∈ ys ↔ x ∈ xs) (hs : sortedS ys = true) : sortL ((dedT xs).map .str) = ys.map .str := by
  obtain ⟨a, b⟩ := dedT_ok xs
  have p : ys.Perm (dedT xs) := (List.perm_ext_iff_of_nodup nd a).mpr fun x => (hm x).trans (b x).symm
  exact sortL_eq (p.map _) (srtd_of hs) (OneK.kStrs (dedT xs)).inj
section
variable {X : Cx} {a : Expr} {ma : ME} {p p2 pos pos2 : Pos}
def mSosT (ma : ME) : ME := fun e s => bnd (ma e s) fun d s => lft (sosTD [d]) s
theorem f_sosT (calm : X.calm = true) (g1 : Gl X "sorted") (m1 : X.mg "sorted" = none) (g2 : Gl X "set") (m2 : X.mg "set" = none) (ha : PE X a (trE X.K ma)) (na : starEach [a] X.env = (false, eval a X.env) :: starEach [] X.env := by rfl) :
    PE X (.Call (.Name "sorted" p) [.Call (.Name "set" p2) [a] [] pos2] [] pos) (trF X.K (mSosT ma)) := PE.imp (pe_sortTx calm g1 m1 g2 m2 ha na) fun σ H Q ⟨g, e, s, d, s', R, E, hm, k⟩ => by
  obtain ⟨d1, s1, h1, hm1⟩ := bnd_some hm
  obtain ⟨h4, h5⟩ := lft_some hm1
  dsimp only at h4 h5
  subst h5
  refine ⟨g, e, s, d1, s', R, E, h1, fun v g1 H1 st1 rv => ?_⟩
  unfold sosTD at h4
  split at h4
  · rename_i ds heq
    cases heq
    split at h4
    · rename_i xs hxs
      split at h4
      · rename_i hl
        cases h4
        cases rv with
        | lst hq r =>
          have ev := strs_of r hxs
          subst ev
          refine ⟨_, xs, rfl, .inl (rd_H st1.rel hq), hl, fun ys q nd hmm hs hq2 => ?_⟩
          rw [srt_texts nd hmm hs] at k
          obtain ⟨st4, hf, hcx, o⟩ := fresh_upd (u := .lst (ys.map V.str)) (d := .lst (ys.map .str)) st1.rel hq2 fun g' L => ⟨_, upd_same, rep_texts _⟩
          exact k q g1 _ (st1.trans st4) (st1.noneOf hq2) hf hcx o
      · cases h4
    · cases h4
  · cases h4
end
/-! ### sorted(set([one tuple of ints, many times])) -/
theorem fresh_any {K : PySem.W.Frag} {g : G} {s : S} {H : Hp} {p : Addr} {u : HO} (R : SRel K g H s) (hp : H p = none) : Step K g H g (upd H p u) s := by
  have hk : ∀ a w, H a = some w → upd H p u a = some w := fun a w e => by rw [upd_ne (ne_of_none e hp)]; exact e
  refine ⟨⟨fun a w e => ?_, R.len, fun n c e => ?_, R.inj⟩, .refl, fun _ _ h => .inl h, fun _ h => .inl h, fun a w e _ => hk a w e⟩
  · rcases R.sub a w e with z | ⟨z1, o, z⟩
    · exact .inl (hk _ _ z)
    · exact .inr ⟨z1, o, hk _ _ z⟩
  · obtain ⟨b, h1, h2, h3⟩ := R.cell n c e
    exact ⟨b, h1, h2, h3.mono .refl fun u hu => hk _ _ hu⟩
def sameT (k : List Int) : List D → Bool
  | [] => true
  | .tup es :: r => decide (intsD es = some k) && sameT k r
  | _ => false
def sosCD : List D → Option D
  | [.lst (.tup es :: r)] => match intsD es with
    | some (x :: k) => if (sameT (x :: k) r && ((x :: k).all fun i => decide (0 ≤ i ∧ i < 64)) && decide (r.length < 63)) = true then some (.lst [.tup ((x :: k).map .int)]) else none
    | _ => none
  | _ => none
theorem sameT_rep {K : PySem.W.Frag} {g : G} {H : Hp} {s : S} {k : List Int} (R : SRel K g H s) : ∀ {ds : List D} {vs : List V}, sameT k ds = true → RepL K g vs ds →
    ∃ ks : List (Addr × List Int), vs = (ks.map fun p => V.ref p.1) ∧ (∀ p ∈ ks, SqT K H p.1 (p.2.map V.int) ∧ SqT K g.F p.1 (p.2.map V.int) ∧ p.2 = k) ∧ ks.length = ds.length
  | [], _, _, .nil => ⟨[], rfl, fun p hp => (by cases hp), rfl⟩
  | d :: ds, _, h, .cons r1 r2 => by
    cases d with
    | tup es =>
      obtain ⟨h1, h2⟩ := Bool.and_eq_true_iff.mp h
      obtain ⟨ks, e1, e2, e3⟩ := sameT_rep R h2 r2
      cases r1 with
      | tup q rr =>
        have ev := ints_of rr (of_decide_eq_true h1)
        subst ev
        refine ⟨(_, k) :: ks, by rw [List.map_cons, e1], fun p hp => ?_, by rw [List.length_cons, List.length_cons, e3]⟩
        rcases List.mem_cons.mp hp with z | z
        · rw [z]; exact ⟨sqT_H R q, q, rfl⟩
        · exact e2 p z
    | _ => cases h
section
variable {X : Cx} {a : Expr} {ma : ME} {p p2 pos pos2 : Pos}
def mSosC (ma : ME) : ME := fun e s => bnd (ma e s) fun d s => lft (sosCD [d]) s
theorem f_sosC (hu : X.A.units + 64 < cLine) (calm : X.calm = true) (g1 : Gl X "sorted") (m1 : X.mg "sorted" = none) (g2 : Gl X "set") (m2 : X.mg "set" = none) (ha : PE X a (trE X.K ma)) (na : starEach [a] X.env = (false, eval a X.env) :: starEach [] X.env := by rfl) :
    PE X (.Call (.Name "sorted" p) [.Call (.Name "set" p2) [a] [] pos2] [] pos) (trF X.K (mSosC ma)) :=
  PE.imp (pe_callB (cr_sortedT calm) g1 m1 bt_sorted (pa_cons (pe_callTy (cr_setOfT calm hu) g2 m2 boot_set (pa_cons ha pa_nil na) (by decide +kernel) (by decide +kernel) na) pa_nil) (by decide +kernel) (by decide +kernel)) fun σ H Q ⟨g, e, s, d, s', R, E, hm, k⟩ => by
    obtain ⟨d1, s1, h1, hm1⟩ := bnd_some hm
    obtain ⟨h4, h5⟩ := lft_some hm1
    dsimp only at h4 h5
    subst h5
    refine ⟨g, e, s, d1, s', R, E, h1, fun v g1 H1 st1 rv => ?_⟩
    unfold sosCD at h4
    split at h4
    · rename_i es r heq
      cases heq
      split at h4
      · rename_i x k0 hk0
        split at h4
        · rename_i hc
          cases h4
          rw [Bool.and_eq_true, Bool.and_eq_true, decide_eq_true_iff] at hc
          obtain ⟨⟨c1, c2⟩, c3⟩ := hc
          cases rv with
          | lst hq rr =>
            obtain ⟨ks, e1, e2, e3⟩ := sameT_rep (k := x :: k0) st1.rel (ds := .tup es :: r) (show (decide (intsD es = some (x :: k0)) && sameT (x :: k0) r) = true by rw [hk0, c1]; simp) rr
            subst e1
            rw [List.length_cons] at e3
            refine ⟨_, ks, rfl, .inl (rd_H st1.rel hq), fun p hp => (e2 p hp).1, by omega, fun a1 L n1 i1 i2 => ?_⟩
            have st2 : Step X.K g1 H1 g1 (upd H1 a1 (SetTO X.prog X.w a1 L)) s' := fresh_any st1.rel n1
            refine ⟨a1, L, (x :: k0).length, 64, rfl, upd_same, fun p hp => ?_, by simp, fun p hp => ?_, fun L' q pm nd few pw n2 => ?_⟩
            · exact sqT_H st2.rel (e2 p (i1 p hp)).2.1
            · rw [(e2 p (i1 p hp)).2.2]
              exact ⟨rfl, fun m hm => of_decide_eq_true (List.all_eq_true.mp c2 m hm)⟩
            · have one : ∀ p ∈ L', p.2 = x :: k0 := fun p hp => (e2 p (i1 p (pm.mem_iff.mp hp))).2.2
              obtain ⟨b, hb, hL⟩ : ∃ b, L' = [b] ∧ b ∈ L' := by
                match L', one, nd, pm with
                | [], _, _, pm =>
                  match ks, e3, i2 with
                  | [], e3, _ => cases e3
                  | c :: ks, _, i2 =>
                    have z := i2 c List.mem_cons_self
                    rw [← pm.nil_eq] at z
                    cases z
                | [b], _, _, _ => exact ⟨b, rfl, List.mem_cons_self⟩
                | b :: c :: t, one, nd, _ =>
                  have z1 := one b List.mem_cons_self
                  have z2 := one c (List.mem_cons_of_mem _ List.mem_cons_self)
                  rw [List.map_cons, List.map_cons, z1, z2] at nd
                  exact absurd List.mem_cons_self (List.nodup_cons.mp nd).1
              have rb := e2 b (i1 b (pm.mem_iff.mp hL))
              rw [rb.2.2] at rb
              obtain ⟨st4, hf, hcx, o⟩ := fresh_upd (u := .lst (L'.map fun q => V.ref q.1)) (d := .lst [.tup ((x :: k0).map .int)]) st2.rel n2 fun g' Lg => ⟨_, upd_same, by
                rw [hb]
                exact (RepL.cons (.tup rb.2.1 (rep_ints _)) .nil).mono Lg⟩
              exact k q g1 _ ((st1.trans st2).trans st4) ((st1.trans st2).noneOf n2) hf hcx o
        · cases h4
      · cases h4
    · cases h4
end
/-! ### any of the three -/
def sosAD (ds : List D) : Option D := match sosD ds with
  | some d => some d
  | none => match sosTD ds with
    | some d => some d
    | none => sosCD ds
section
variable {X : Cx} {a : Expr} {ma : ME} {p p2 pos pos2 : Pos}
def mSosA (ma : ME) : ME := fun e s => bnd (ma e s) fun d s => lft (sosAD [d]) s
theorem mSosA_is {ma : ME} {e : EnvD} {s s' : S} {d : D} (h : mSosA ma e s = some (d, s')) : mSos ma e s = some (d, s') ∨ mSosT ma e s = some (d, s') ∨ mSosC ma e s = some (d, s') := by
  obtain ⟨d1, s1, h1, h2⟩ := bnd_some h
  have e1 : ∀ f : List D → Option D, lft (f [d1]) s1 = some (d, s') → bnd (ma e s) (fun d s => lft (f [d]) s) = some (d, s') := fun f z => by rw [h1]; exact z
  have h3 : lft (sosAD [d1]) s1 = some (d, s') := h2
  unfold sosAD at h3
  split at h3
  · rename_i d2 q
    exact .inl (e1 sosD (by rw [q]; exact h3))
  · split at h3
    · rename_i d2 q
      exact .inr (.inl (e1 sosTD (by rw [q]; exact h3)))
    · exact .inr (.inr (e1 sosCD h3))
theorem f_sosA (hu : X.A.units + 64 < cLine) (calm : X.calm = true) (g1 : Gl X "sorted") (m1 : X.mg "sorted" = none) (g2 : Gl X "set") (m2 : X.mg "set" = none) (ha : PE X a (trE X.K ma)) (na : starEach [a] X.env = (false, eval a X.env) :: starEach [] X.env := by rfl) :
    PE X (.Call (.Name "sorted" p) [.Call (.Name "set" p2) [a] [] pos2] [] pos) (trF X.K (mSosA ma)) := ⟨fun pins s σ H Q I ⟨g, e, s1, d, s', R, E, hm, k⟩ => by
  rcases mSosA_is hm with z | z | z
  · exact (f_sos calm g1 m1 g2 m2 ha na).run pins s σ H Q I ⟨g, e, s1, d, s', R, E, z, k⟩
  · exact (f_sosT calm g1 m1 g2 m2 ha na).run pins s σ H Q I ⟨g, e, s1, d, s', R, E, z, k⟩
  · exact (f_sosC hu calm g1 m1 g2 m2 ha na).run pins s σ H Q I ⟨g, e, s1, d, s', R, E, z, k⟩⟩
end
end Z

set_option Elab.async false
set_option linter.all false
set_option maxRecDepth 100000
namespace Z
open PySem PySem.Spec PyProof.Rows L2
/-! ### plain lemmas about the mirrors, of no law -/
abbrev tpI (is : List Int) : List PyData := is.map PyData.int
abbrev tpS (xs : List Str) : List PyData := xs.map PyData.str
theorem flats_ints : ∀ is : List Int, flats (is.map D.int) = some (is.map V.int)
  | [] => rfl
  | i :: r => by simp [flats, toV0, flats_ints r]
theorem flats_strs : ∀ xs : List Str, flats (xs.map D.str) = some (xs.map V.str)
  | [] => rfl
  | i :: r => by simp [flats, toV0, flats_strs r]
theorem inV_int (i : Int) : ∀ is : List Int, inV (.int i) (is.map V.int) = decide (i ∈ is)
  | [] => rfl
  | j :: r => by
    have ih := inV_int i r
    have e : inV (.int i) ((j :: r).map V.int) = (j == i || inV (.int i) (r.map V.int)) := rfl
    rw [e, ih]
    by_cases h : j = i
    · subst h; simp
    · have h' : ¬ i = j := fun e => h e.symm
      simp [h, h']
theorem inV_str (x : Str) : ∀ xs : List Str, inV (.str x) (xs.map V.str) = decide (x ∈ xs)
  | [] => rfl
  | j :: r => by
    have ih := inV_str x r
    have e : inV (.str x) ((j :: r).map V.str) = (j == x || inV (.str x) (r.map V.str)) := rfl
    rw [e, ih]
    by_cases h : j = x
    · subst h; simp
    · have h' : ¬ x = j := fun e => h e.symm
      simp [h, h']
theorem inA_int (i : Int) (is : List Int) : inA (.int i) (.lst (is.map .int)) = some (decide (i ∈ is)) := by
  simp [inA, inB, toV0, flats_ints, inV_int]
theorem inA_str (x : Str) (xs : List Str) : inA (.str x) (.lst (xs.map .str)) = some (decide (x ∈ xs)) := by
  simp [inA, inB, toV0, flats_strs, inV_str]
/-- a comprehension whose parts change nothing of the state -/
theorem lc_pure {mc : MC} {mt : MT} {me : ME} {e : EnvD} {s : S} (env : D → EnvD) (p : D → Bool) (f : D → D) : ∀ (ds : List D), (∀ d ∈ ds, mc d e = some (env d) ∧ mt (env d) s = some (p d, s) ∧ (p d = true → me (env d) s = some (f d, s))) →
    lcL mc mt me e ds s = some ((ds.filter p).map f, s)
  | [], _ => rfl
  | d :: ds, h => by
    obtain ⟨h1, h2, h3⟩ := h d (by simp)
    have ih := lc_pure env p f ds fun d' hd => h d' (by simp [hd])
    unfold lcL
    rw [h1]
    dsimp only
    rw [h2]
    cases hp : p d with
    | false => simp [ih, hp]
    | true =>
      dsimp only
      rw [h3 hp]
      dsimp only
      rw [ih]
      simp [hp]
/-- a comprehension without a test whose element moves the state -/
theorem lc_inv {mc : MC} {me : ME} {e : EnvD} (I : Nat → S → Prop) (P : Nat → D → Prop) : ∀ (ds : List D) (i : Nat) (s : S), I i s →
    (∀ j s d, ds[j]? = some d → I (i + j) s → ∃ e1 r s', mc d e = some e1 ∧ me e1 s = some (r, s') ∧ P (i + j) r ∧ I (i + j + 1) s') →
    ∃ ys s', lcL mc yesT me e ds s = some (ys, s') ∧ I (i + ds.length) s' ∧ ys.length = ds.length ∧ ∀ j y, ys[j]? = some y → P (i + j) y
  | [], i, s, h, _ => ⟨[], s, rfl, h, rfl, fun j y h => by simp at h⟩
  | d :: ds, i, s, h, st => by
    obtain ⟨e1, r, s1, h1, h2, h3, h4⟩ := st 0 s d rfl h
    obtain ⟨ys, s', h5, h6, h7, h8⟩ := lc_inv I P ds (i + 1) s1 h4 fun j s d hd hI => by
      have := st (j + 1) s d (by simpa using hd) (by rw [show i + (j + 1) = i + 1 + j by omega]; exact hI)
      rw [show i + (j + 1) + 1 = i + 1 + j + 1 by omega, show i + (j + 1) = i + 1 + j by omega] at this
      exact this
    refine ⟨r :: ys, s', ?_, by rw [show i + (d :: ds).length = i + 1 + ds.length by simp; omega]; exact h6, by simp [h7], fun j y hy => ?_⟩
    · simp only [lcL, h1, yesT, h2, h5]
    · cases j with
      | zero => simp at hy; subst hy; exact h3
      | succ j => rw [show i + (j + 1) = i + 1 + j by omega]; exact h8 j y (by simpa using hy)
theorem rng_at {n j : Nat} {d : D} (h : (rngD 0 n)[j]? = some d) : j < n ∧ d = .int j := by
  have hj := (List.getElem?_eq_some_iff.mp h).1
  have hj : j < n := by simpa [rngD] using hj
  refine ⟨hj, ?_⟩
  simp [rngD, hj] at h
  exact h.symm
section
variable {m1 m2 : MS} {mi : MI} {mg : MG} {mb : MS} {e e1 : EnvD} {s s1 s' : S} {r : Option (Fl × EnvD × S)} {ds : List D} {d : D} {n m : Nat} {b : MS}
end
end Z

set_option Elab.async false
set_option linter.all false
set_option maxRecDepth 100000
namespace Z
open PySem PySem.Spec PyProof.Rows L2
/-! ### runs of mirrors, backwards -/
def On1 {α : Type} (o : Option α) (Q : α → Prop) : Prop := ∃ a, o = some a ∧ Q a
def On {α : Type} (o : Option (α × S)) (Q : α → S → Prop) : Prop := ∃ a s, o = some (a, s) ∧ Q a s
def OnS (o : Option (Fl × EnvD × S)) (N : EnvD → S → Prop) (Rt : D → S → Prop) (B C : EnvD → S → Prop) (T : D → S → Prop) : Prop :=
  ∃ f e s, o = some (f, e, s) ∧ match f with
    | .nx => N e s
    | .ret d => Rt d s
    | .bk => B e s
    | .ct => C e s
    | .rto d => T d s
section
variable {α β : Type} {Q : α → S → Prop} {e e1 e2 : EnvD} {s s1 s2 : S} {d d1 d2 : D} {i n m : Nat} {ds es : List D}
theorem on1_some {a : α} {Q : α → Prop} {o : Option α} (h : o = some a) (q : Q a) : On1 o Q := ⟨a, h, q⟩
theorem on_some {a : α} {o : Option (α × S)} (h : o = some (a, s)) (q : Q a s) : On o Q := ⟨a, s, h, q⟩
theorem On1.mono {Q Q' : α → Prop} {o : Option α} (h : On1 o Q) (k : ∀ a, Q a → Q' a) : On1 o Q' := let ⟨a, h1, h2⟩ := h; ⟨a, h1, k a h2⟩
theorem On.mono {Q' : α → S → Prop} {o : Option (α × S)} (h : On o Q) (k : ∀ a s, Q a s → Q' a s) : On o Q' := let ⟨a, s, h1, h2⟩ := h; ⟨a, s, h1, k a s h2⟩
theorem OnS.mono {o : Option (Fl × EnvD × S)} {N N' B B' C C' : EnvD → S → Prop} {Rt Rt' T T' : D → S → Prop} (h : OnS o N Rt B C T) (kn : ∀ e s, N e s → N' e s) (kr : ∀ d s, Rt d s → Rt' d s) (kb : ∀ e s, B e s → B' e s) (kc : ∀ e s, C e s → C' e s) (kt : ∀ d s, T d s → T' d s) : OnS o N' Rt' B' C' T' := by
  obtain ⟨f, e, s, h1, h2⟩ := h
  refine ⟨f, e, s, h1, ?_⟩
  cases f with
  | nx => exact kn _ _ h2
  | ret d => exact kr _ _ h2
  | bk => exact kb _ _ h2
  | ct => exact kc _ _ h2
  | rto d => exact kt _ _ h2
theorem on_cut {α : Type} {o : Option (α × S)} {Q : α → S → Prop} (h : ∀ P : α → S → Prop, P = Q → On o P) : On o Q := h Q rfl
theorem cut_end {α : Type} {P Q : α → S → Prop} {a : α} {s : S} (h : P = Q) (q : Q a s) : P a s := h ▸ q
theorem eq_of_on {a : α} {o : Option (α × S)} (h : On o fun x s1 => x = a ∧ s1 = s) : o = some (a, s) := by
  obtain ⟨x, s1, h1, rfl, rfl⟩ := h; exact h1
theorem eq_of_on1 {a : α} {o : Option α} (h : On1 o fun x => x = a) : o = some a := by
  obtain ⟨x, h1, rfl⟩ := h; exact h1
theorem on_bnd {o : Option (β × S)} {f : β → S → Option (α × S)} (h : On o fun b s => On (f b s) Q) : On (bnd o f) Q := by
  obtain ⟨b, s1, h1, h2⟩ := h
  unfold bnd
  rw [h1]
  exact h2
theorem on_lft {o : Option α} (h : On1 o fun a => Q a s) : On (lft o s) Q := by
  obtain ⟨a, h1, h2⟩ := h
  exact ⟨a, s, by unfold lft; rw [h1], h2⟩
/-! expressions -/
section
variable {Q : D → S → Prop} {f : D → D → Option D} {ma mb mm : ME} {mA : MA} {mt ta tb : MT}
theorem wp_var (h : e[i]? = some (.val d)) (q : Q d s) : On (mVar i e s) Q := ⟨d, s, by unfold mVar; rw [h], q⟩
theorem wp_c (q : Q d s) : On (mC d e s) Q := ⟨d, s, rfl, q⟩
theorem wp_op (h : On (ma e s) fun a s1 => On (mb e s1) fun b s2 => On1 (f a b) fun d => Q d s2) : On (mOp f ma mb e s) Q := on_bnd (h.mono fun _ _ h => on_bnd (h.mono fun _ _ h => on_lft h))
theorem wp_opM {f : D → D → S → Option (D × S)} (h : On (ma e s) fun a s1 => On (mb e s1) fun b s2 => On (f a b s2) Q) : On (mOpM f ma mb e s) Q := on_bnd (h.mono fun _ _ h => on_bnd (h.mono fun _ _ h => h))
theorem wp_un {f : D → Option D} (h : On (ma e s) fun a s1 => On1 (f a) fun d => Q d s1) : On (mUn f ma e s) Q := on_bnd (h.mono fun _ _ h => on_lft h)
theorem wp_call {f : List D → Option D} (h : On (mA e s) fun a s1 => On1 (f a) fun d => Q d s1) : On (mCall f mA e s) Q := on_bnd (h.mono fun _ _ h => on_lft h)
theorem wp_callD {md : MD} (h : On (mA e s) fun a s1 => On (md a s1) Q) : On (mCallD md mA e s) Q := on_bnd h
theorem wp_lft {o : Option D} (h : On1 o fun a => Q a s) : On (lft o s) Q := on_lft h
theorem wp_chain {f' : D → D → Option D} {mc : ME} (h : On (ma e s) fun a s1 => On (mb e s1) fun b s2 => On1 (f a b) fun k => (k = .bl true ∧ On (mc e s2) fun c s3 => On1 (f' b c) fun d => Q d s3) ∨ (k = .bl false ∧ Q (.bl false) s2)) : On (mChain f f' ma mb mc e s) Q := by
  obtain ⟨a, s1, h1, b, s2, h2, k, h3, h4⟩ := h
  unfold mChain bnd lft
  rw [h1]; dsimp only
  rw [h2]; dsimp only
  rw [h3]; dsimp only
  rcases h4 with ⟨rfl, h4⟩ | ⟨rfl, h4⟩
  · obtain ⟨c, s3, h5, d, h6, h7⟩ := h4
    refine ⟨d, s3, ?_, h7⟩
    dsimp only
    rw [h5]; dsimp only
    rw [h6]
  · exact ⟨_, _, rfl, h4⟩
theorem wp_if {mt : MT} (h : On (mt e s) fun k s1 => (k = true → On (ma e s1) Q) ∧ (k = false → On (mb e s1) Q)) : On (mIf mt ma mb e s) Q := by
  refine on_bnd (h.mono fun k s1 h => ?_)
  cases k with
  | true => exact h.1 rfl
  | false => exact h.2 rfl
theorem wp_and (h : On (ma e s) fun a s1 => On1 (truD a) fun k => (k = true → On (mb e s1) Q) ∧ (k = false → Q a s1)) : On (mAnd ma mb e s) Q := by
  refine on_bnd (h.mono fun a s1 h => ?_)
  obtain ⟨k, h1, h2⟩ := h
  rw [h1]
  cases k with
  | true => exact h2.1 rfl
  | false => exact ⟨_, _, rfl, h2.2 rfl⟩
theorem wp_or (h : On (ma e s) fun a s1 => On1 (truD a) fun k => (k = true → Q a s1) ∧ (k = false → On (mb e s1) Q)) : On (mOr ma mb e s) Q := by
  refine on_bnd (h.mono fun a s1 h => ?_)
  obtain ⟨k, h1, h2⟩ := h
  rw [h1]
  cases k with
  | true => exact ⟨_, _, rfl, h2.1 rfl⟩
  | false => exact h2.2 rfl
theorem wp_tup (h : On (mA e s) fun ds s1 => ds.length ≤ sizeLine ∧ Q (.tup ds) s1) : On (mTup mA e s) Q := on_bnd (h.mono fun ds s1 h => ⟨_, _, if_pos h.1, h.2⟩)
theorem wp_lst (h : On (mA e s) fun ds s1 => ds.length ≤ sizeLine ∧ Q (.lst ds) s1) : On (mLst mA e s) Q := on_bnd (h.mono fun ds s1 h => ⟨_, _, if_pos h.1, h.2⟩)
theorem wp_bor (h : On (ma (frzE i e) s) fun d s1 => noL d = true ∧ s1.all noC = true ∧ Q d s1) : On (mBor i ma e s) Q := by
  refine on_bnd (h.mono fun d s1 h => ⟨d, s1, ?_, h.2.2⟩)
  rw [h.1, h.2.1]; rfl
theorem wp_fbor (h : On (ma (frzE i e) s) fun d s1 => noC d = true ∧ s1.all noC = true ∧ Q d s1) : On (fBor i ma e s) Q := by
  refine on_bnd (h.mono fun d s1 h => ⟨d, s1, ?_, h.2.2⟩)
  rw [h.1, h.2.1]; rfl
theorem wp_fld {c f : Str} (h : On (ma e s) fun x s1 => ∃ fs, x = .obj c fs ∧ On1 (lookF fs f) fun d => Q d s1) : On (mFld c f ma e s) Q := by
  refine on_bnd (h.mono fun x s1 h => ?_)
  obtain ⟨fs, rfl, d, h1, h2⟩ := h
  exact ⟨d, s1, by simp [h1, lft], h2⟩
theorem wp_cel (h : On (ma e s) fun d s1 => Q (.cel s1.length) (s1 ++ [d])) : On (mCel ma e s) Q := on_bnd (h.mono fun d s1 h => ⟨_, _, rfl, h⟩)
end
/-! arguments -/
section
variable {Q : List D → S → Prop} {mm : ME} {mA : MA}
theorem wp_anil (q : Q [] s) : On (aNil e s) Q := ⟨_, _, rfl, q⟩
theorem wp_none (q : Q [] s) : On (mNone e s) Q := ⟨_, _, rfl, q⟩
theorem wp_acons (h : On (mm e s) fun d s1 => On (mA e s1) fun ds s2 => Q (d :: ds) s2) : On (aCons mm mA e s) Q := on_bnd (h.mono fun _ _ h => on_bnd (h.mono fun _ _ h => ⟨_, _, rfl, h⟩))
theorem wp_astar (h : On (mm e s) fun d s1 => On1 (itemsD d) fun xs => On (mA e s1) fun ds s2 => Q (xs ++ ds) s2) : On (aStar mm mA e s) Q := on_bnd (h.mono fun _ _ h => on_bnd (on_lft (h.mono fun _ h => on_bnd (h.mono fun _ _ h => ⟨_, _, rfl, h⟩))))
/-! iterables -/
theorem wp_seq' (h : On (mm e s) fun d s1 => (∃ xs, d = .lst xs ∧ Q xs s1) ∨ (∃ xs, d = .tup xs ∧ Q xs s1) ∨ (∃ x, d = .str x ∧ Q (chD x) s1)) : On (seqI mm e s) Q := by
  refine on_bnd (h.mono fun d s1 h => ?_)
  rcases h with ⟨xs, rfl, h⟩ | ⟨xs, rfl, h⟩ | ⟨xs, rfl, h⟩ <;> exact ⟨_, _, rfl, h⟩
theorem wp_rng (h : On (mA e s) fun ds s1 => ∃ q : Int, ds = [.int q] ∧ 0 ≤ q ∧ q < 4611686018427387904 ∧ Q (rngD 0 q.toNat) s1) : On (rngI mA e s) Q := by
  refine on_bnd (h.mono fun d s1 h => ?_)
  obtain ⟨q, rfl, h0, h1, h⟩ := h
  have c : -(2 ^ 62) ≤ q ∧ q < 2 ^ 62 := by omega
  refine ⟨_, _, ?_, h⟩
  simp only [c, and_self, if_true]
theorem wp_enum (h : On (mA e s) fun ds s1 => ∃ xs, (ds = [.lst xs] ∨ ds = [.tup xs]) ∧ Q (enumD xs) s1) : On (enum2I mA e s) Q := by
  refine on_bnd (h.mono fun d s1 h => ?_)
  obtain ⟨xs, rfl | rfl, h⟩ := h <;> exact ⟨_, _, rfl, h⟩
theorem wp_zip (h : On (mA e s) fun ds s1 => ∃ xs ys, (ds = [.lst xs, .lst ys] ∨ ds = [.tup xs, .tup ys]) ∧ Q (zipD xs ys) s1) : On (zipI mA e s) Q := by
  refine on_bnd (h.mono fun d s1 h => ?_)
  obtain ⟨xs, ys, rfl | rfl, h⟩ := h <;> exact ⟨_, _, rfl, h⟩
end
/-! tests -/
section
variable {Q : Bool → S → Prop} {mm : ME} {ta tb : MT}
theorem wp_t (h : On (mm e s) fun d s1 => On1 (truD d) fun k => Q k s1) : On (mT mm e s) Q := on_bnd (h.mono fun _ _ h => on_lft h)
theorem wp_tand (h : On (ta e s) fun k s1 => (k = true → On (tb e s1) Q) ∧ (k = false → Q false s1)) : On (tAndZ ta tb e s) Q := by
  refine on_bnd (h.mono fun k s1 h => ?_)
  cases k with
  | true => exact h.1 rfl
  | false => exact ⟨_, _, rfl, h.2 rfl⟩
theorem wp_tor (h : On (ta e s) fun k s1 => (k = true → Q true s1) ∧ (k = false → On (tb e s1) Q)) : On (tOrZ ta tb e s) Q := by
  refine on_bnd (h.mono fun k s1 h => ?_)
  cases k with
  | true => exact ⟨_, _, rfl, h.1 rfl⟩
  | false => exact h.2 rfl
theorem wp_tnot (h : On (ta e s) fun k s1 => Q (!k) s1) : On (tNotZ ta e s) Q := on_bnd (h.mono fun _ _ h => ⟨_, _, rfl, h⟩)
theorem wp_tbor (h : On (ta (frzE i e) s) fun k s1 => s1.all noC = true ∧ Q k s1) : On (tBor i ta e s) Q := by
  refine on_bnd (h.mono fun d s1 h => ⟨d, s1, ?_, h.2⟩)
  rw [h.1]
theorem wp_yes (q : Q true s) : On (yesT e s) Q := ⟨_, _, rfl, q⟩
end
/-! optional bounds -/
section
variable {Q : Option Int → S → Prop} {Q' : D → S → Prop} {mm : ME} {ml mh : MO} {f : D → Option Int → Option Int → Option D}
theorem wp_onone (q : Q none s) : On (oNone e s) Q := ⟨_, _, rfl, q⟩
theorem wp_osome (h : On (mm e s) fun d s1 => ∃ i, d = .int i ∧ -4611686018427387904 ≤ i ∧ i < 4611686018427387904 ∧ Q (some i) s1) : On (oSome mm e s) Q := by
  refine on_bnd (h.mono fun d s1 h => ?_)
  obtain ⟨i, rfl, h1, h2, h⟩ := h
  refine ⟨_, _, ?_, h⟩
  simp only [show -(2 ^ 62) ≤ i ∧ i < 2 ^ 62 by omega, and_self, if_true]
theorem wp_sl (h : On (mm e s) fun d s1 => On (ml e s1) fun lo s2 => On (mh e s2) fun hi s3 => On1 (f d lo hi) fun r => Q' r s3) : On (mSl f mm ml mh e s) Q' := on_bnd (h.mono fun _ _ h => on_bnd (h.mono fun _ _ h => on_bnd (h.mono fun _ _ h => on_lft h)))
end
/-! targets -/
section
variable {Q : EnvD → S → Prop} {mg : MG} {ms : MGs}
theorem wp_gnm (q : Q (e.set i (.val d)) s) : On (gNm i d e s) Q := ⟨_, _, rfl, q⟩
theorem wp_gseqT (h : On (ms ds e s) Q) : On (gSeq ms (.tup ds) e s) Q := h
theorem wp_gseqL (h : On (ms ds e s) Q) : On (gSeq ms (.lst ds) e s) Q := h
theorem wp_gsnil (q : Q e s) : On (gsNil [] e s) Q := ⟨_, _, rfl, q⟩
theorem wp_gscons (h : On (mg d e s) fun e1 s1 => On (ms ds e1 s1) Q) : On (gsCons mg ms (d :: ds) e s) Q := by
  obtain ⟨e1, s1, h1, h2⟩ := h
  unfold gsCons
  show On (match mg d e s with
    | some (e', s') => ms ds e' s'
    | none => none) Q
  rw [h1]
  exact h2
end
section
variable {Q : List Sl → S → Prop} {mm : ME} {mx : MX}
theorem wp_xnil (q : Q [] s) : On (xNil e s) Q := ⟨_, _, rfl, q⟩
theorem wp_xval (h : On (mm e s) fun d s1 => On (mx e s1) fun ds s2 => Q (.val d :: ds) s2) : On (xVal mm mx e s) Q := on_bnd (h.mono fun _ _ h => on_bnd (h.mono fun _ _ h => ⟨_, _, rfl, h⟩))
theorem wp_xown (h : On (mm e s) fun d s1 => On (mx e s1) fun ds s2 => Q (.own d :: ds) s2) : On (xOwn mm mx e s) Q := on_bnd (h.mono fun _ _ h => on_bnd (h.mono fun _ _ h => ⟨_, _, rfl, h⟩))
end
/-! statements -/
section
variable {N B C : EnvD → S → Prop} {Rt T : D → S → Prop} {a b : MS} {mm : ME} {mt : MT} {mi : MI} {mg : MG}
theorem ons_bndS {β : Type} {o : Option (β × S)} {f : β → S → Option (Fl × EnvD × S)} (h : On o fun b s => OnS (f b s) N Rt B C T) : OnS (bndS o f) N Rt B C T := by
  obtain ⟨b, s1, h1, h2⟩ := h
  unfold bndS
  rw [h1]
  exact h2
theorem wp_nil (q : N e s) : OnS (sNil e s) N Rt B C T := ⟨_, _, _, rfl, q⟩
theorem wp_seq (h : OnS (a e s) (fun e1 s1 => OnS (b e1 s1) N Rt B C T) Rt B C T) : OnS (sSeq a b e s) N Rt B C T := by
  obtain ⟨f, e1, s1, h1, h2⟩ := h
  unfold sSeq
  rw [h1]
  cases f with
  | nx => exact h2
  | _ => exact ⟨_, _, _, rfl, h2⟩
theorem wp_expr (h : On (mm e s) fun _ s1 => N e s1) : OnS (sExpr mm e s) N Rt B C T := ons_bndS (h.mono fun _ _ h => ⟨_, _, _, rfl, h⟩)
theorem wp_ret (h : On (mm e s) Rt) : OnS (sRet mm e s) N Rt B C T := ons_bndS (h.mono fun _ _ h => ⟨_, _, _, rfl, h⟩)
theorem wp_rto (h : On (mm e s) T) : OnS (sRto mm e s) N Rt B C T := ons_bndS (h.mono fun _ _ h => ⟨_, _, _, rfl, h⟩)
theorem wp_retn (h : Rt .non s) : OnS (sRetN e s) N Rt B C T := ⟨_, _, _, rfl, h⟩
theorem wp_sif (h : On (mt e s) fun k s1 => (k = true → OnS (a e s1) N Rt B C T) ∧ (k = false → OnS (b e s1) N Rt B C T)) : OnS (sIf mt a b e s) N Rt B C T := by
  refine ons_bndS (h.mono fun k s1 h => ?_)
  cases k with
  | true => exact h.1 rfl
  | false => exact h.2 rfl
theorem wp_set (h : On (mm e s) fun d s1 => N (e.set i (.val d)) s1) : OnS (sSet i mm e s) N Rt B C T := ons_bndS (h.mono fun _ _ h => ⟨_, _, _, rfl, h⟩)
theorem wp_own (h : On (mm e s) fun d s1 => N (e.set i (.own d)) s1) : OnS (sOwn i mm e s) N Rt B C T := ons_bndS (h.mono fun _ _ h => ⟨_, _, _, rfl, h⟩)
theorem wp_frz (h : OnS (a (frzE i e) s) N Rt B C T) : OnS (sFrz i a e s) N Rt B C T := h
theorem wp_app (hi : e[i]? = some (.own (.lst ds))) (h : On (mm e s) fun d s1 => ds.length < sizeLine ∧ N (e.set i (.own (.lst (ds ++ [d])))) s1) : OnS (sApp i mm e s) N Rt B C T := by
  refine ons_bndS (h.mono fun d s1 h => ⟨.nx, _, s1, ?_, h.2⟩)
  rw [hi]
  show (if ds.length < sizeLine then some (Fl.nx, List.set e i (Sl.own (D.lst (ds ++ [d]))), s1) else none) = _
  rw [if_pos h.1]
theorem wp_for (h : On (mi e s) fun ds s1 => OnS (forL mg a ds e s1) N Rt B C T) : OnS (sFor mi mg a e s) N Rt B C T := ons_bndS h
theorem wp_brk (q : B e s) : OnS (sBrk e s) N Rt B C T := ⟨_, _, _, rfl, q⟩
theorem wp_cont (q : C e s) : OnS (sCont e s) N Rt B C T := ⟨_, _, _, rfl, q⟩
theorem wp_asg (h : On (mm e s) fun d s1 => On (mg d e s1) N) : OnS (sAsg mg mm e s) N Rt B C T := by
  refine ons_bndS (h.mono fun d s1 h => ?_)
  obtain ⟨e1, s2, h1, h2⟩ := h
  rw [h1]
  exact ⟨_, _, _, rfl, h2⟩
theorem wp_par {is : List Nat} {mx : MX} (h : On (mx e s) fun sl s1 => sl.length = is.length ∧ N (setX is sl e) s1) : OnS (sPar is mx e s) N Rt B C T := by
  refine ons_bndS (h.mono fun d s1 h => ?_)
  rw [if_pos h.1]
  exact ⟨_, _, _, rfl, h.2⟩
end
section
variable {Q : D → S → Prop} {b : MS} {bN : MN}
theorem wp_mkD (hl : ds.length = n) (h : OnS (b (startE n m ds) s) (fun _ s1 => Q .non s1) Q (fun _ _ => False) (fun _ _ => False) (fun _ _ => False)) : On (mkD n m b ds s) Q := by
  obtain ⟨f, e1, s1, h1, h2⟩ := h
  unfold mkD
  rw [if_pos hl, h1]
  cases f with
  | nx => exact ⟨_, _, rfl, h2⟩
  | ret d => exact ⟨_, _, rfl, h2⟩
  | _ => exact h2.elim
theorem wp_mkF (hl : ds.length = n) (h : OnS (b (startE n m ds) s) (fun _ _ => False) (fun _ _ => False) (fun _ _ => False) (fun _ _ => False) Q) : On (mkF n m b ds s) Q := by
  obtain ⟨f, e1, s1, h1, h2⟩ := h
  unfold mkF
  rw [if_pos hl, h1]
  cases f with
  | rto d => exact ⟨_, _, rfl, h2⟩
  | _ => exact h2.elim
theorem wp_make {c : Str} {mi : MI0} (h : On (mi ds s) fun fs s1 => Q (.obj c fs) s1) : On (mdMake c mi ds s) Q := by
  obtain ⟨fs, s1, h1, h2⟩ := h
  unfold mdMake
  rw [h1]
  exact ⟨_, _, rfl, h2⟩
theorem wp_pick {ix : List Nat} {md : MD} (h : On (md (pick ix ds) s) Q) : On (mdPick ix md ds s) Q := h
theorem wp_cls {c : Str} {md : MD} {mA : MA} (he : e[i]? = some (.val (.ty c))) (h : On (mA e s) fun ds s1 => On (md ds s1) Q) : On (mCls c i md mA e s) Q := by
  unfold mCls
  rw [he]
  dsimp only
  rw [if_pos rfl]
  exact on_bnd h
theorem wp_cm {c : Str} {md : MD} {mo : ME} {mA : MA} (h : On (mo e s) fun x s1 => x = .ty c ∧ On (mA e s1) fun ds s2 => On (md (.ty c :: ds) s2) Q) : On (mCm c md mo mA e s) Q := by
  refine on_bnd (h.mono fun x s1 h => ?_)
  obtain ⟨rfl, h⟩ := h
  dsimp only
  rw [if_pos rfl]
  exact on_bnd h
theorem wp_prop {c : Str} {md : MD} {mo : ME} (h : On (mo e s) fun x s1 => ∃ fs, x = .obj c fs ∧ On (md [x] s1) Q) : On (mProp c md mo e s) Q := by
  refine on_bnd (h.mono fun x s1 h => ?_)
  obtain ⟨fs, rfl, h⟩ := h
  simpa using h
theorem wp_ownD {c : Str} {md : MD} {ok : D → Bool} {fs : List (Str × D)} (h : On (md [.obj c fs] s) fun r s1 => ok r = true ∧ Q r s1) : On (ownD c md ok [.obj c fs] s) Q := by
  obtain ⟨r, s1, h1, h2, h3⟩ := h
  unfold ownD
  have : ofC c (.obj c fs) = true := by simp [ofC]
  simp only [this, h1, h2, if_true]
  exact ⟨_, _, rfl, h3⟩
theorem wp_ownSub {c : Str} {md : MD} {fs : List (Str × D)} (h : On (md [.obj c fs, d] s) Q) : On (ownSub c md (.obj c fs) d s) Q := by
  unfold ownSub
  have : ofC c (.obj c fs) = true := by simp [ofC]
  simpa only [this] using h
theorem wp_ownIn {c : Str} {md : MD} {fs : List (Str × D)} (h : On (md [.obj c fs, d] s) fun r s1 => ∃ k, r = .bl k ∧ Q (.bl k) s1) : On (ownIn c md d (.obj c fs) s) Q := by
  obtain ⟨r, s1, h1, k, rfl, h2⟩ := h
  unfold ownIn
  have : ofC c (.obj c fs) = true := by simp [ofC]
  simp only [this, h1]
  exact ⟨_, _, rfl, h2⟩
theorem wp_ownNotIn {c : Str} {md : MD} {fs : List (Str × D)} (h : On (md [.obj c fs, d] s) fun r s1 => ∃ k, r = .bl k ∧ Q (.bl (!k)) s1) : On (ownNotIn c md d (.obj c fs) s) Q := by
  obtain ⟨r, s1, h1, k, rfl, h2⟩ := h
  unfold ownNotIn
  have : ofC c (.obj c fs) = true := by simp [ofC]
  simp only [this, h1]
  exact ⟨_, _, rfl, h2⟩
end
end
end Z
namespace Z
open PySem PySem.Spec PyProof.Rows L2
section
variable {Q : D → Prop} {Q1 : D → S → Prop} {A B : Prop} {s : S} {i j k : Int} {e : EnvD} {ds es : List D} {n : Nat} {d : D}
theorem wp_lc {vs : List Nat} {mi : MI} {mc : MC} {mt : MT} {me : ME} (h : On (mi e s) fun ds s1 => On (lcL mc mt me (wipeE e vs) ds s1) fun ys s2 => ys.length ≤ sizeLine ∧ Q1 (.lst ys) s2) : On (mLc vs mi mc mt me e s) Q1 :=
  on_bnd (h.mono fun _ _ h => on_bnd (h.mono fun _ _ h => ⟨_, _, if_pos h.1, h.2⟩))
theorem wp_lc2 {vs vs1 : List Nat} {mi mi1 : MI} {mc mc1 : MC} {mt mt1 : MT} {me : ME} (h : On (mi e s) fun ds s1 => On (lcL2 mc mt mi1 vs1 mc1 mt1 me (wipeE e vs) ds s1) fun ys s2 => ys.length ≤ sizeLine ∧ Q1 (.lst ys) s2) : On (mLc2 vs mi mc mt mi1 vs1 mc1 mt1 me e s) Q1 :=
  on_bnd (h.mono fun _ _ h => on_bnd (h.mono fun _ _ h => ⟨_, _, if_pos h.1, h.2⟩))
theorem wp_dc {vs : List Nat} {mi : MI} {mc : MC} {mt : MT} {mk mv : ME} (h : On (mi e s) fun ds s1 => On (dcL mc mt mk mv (wipeE e vs) ds [] s1) fun ys s2 => Q1 (.dic ys) s2) : On (mDc vs mi mc mt mk mv e s) Q1 :=
  on_bnd (h.mono fun _ _ h => on_bnd (h.mono fun _ _ h => ⟨_, _, rfl, h⟩))
theorem wp_dc2 {vs vs1 : List Nat} {mi mi1 : MI} {mc mc1 : MC} {mt mt1 : MT} {mk mv : ME} (h : On (mi e s) fun ds s1 => On (dcL2 mc mt mi1 vs1 mc1 mt1 mk mv (wipeE e vs) ds [] s1) fun ys s2 => Q1 (.dic ys) s2) : On (mDc2 vs mi mc mt mi1 vs1 mc1 mt1 mk mv e s) Q1 :=
  on_bnd (h.mono fun _ _ h => on_bnd (h.mono fun _ _ h => ⟨_, _, rfl, h⟩))
theorem wp_mul (h : CMulZ i j) (q : Q (.int (i * j))) : On1 (mulD (.int i) (.int j)) Q := ⟨_, by unfold mulD; exact if_pos h, q⟩
theorem wp_mod (h : 0 < j) (q : Q (.int (i % j))) : On1 (modD (.int i) (.int j)) Q := ⟨_, by unfold modD; exact if_pos h, q⟩
theorem wp_fdiv (h : 0 < j) (h2 : j.natAbs.log2 < 9000) (q : Q (.int (i / j))) : On1 (fdivD (.int i) (.int j)) Q := ⟨_, by unfold fdivD; exact if_pos ⟨h, h2⟩, q⟩
theorem wp_eqI (q : Q (.bl (decide (i = j)))) : On1 (eqD (.int i) (.int j)) Q := ⟨_, by simp [eqD, eqB, toV0, scal], q⟩
theorem wp_neI (q : Q (.bl (!decide (i = j)))) : On1 (neD (.int i) (.int j)) Q := ⟨_, by simp [neD, eqB, toV0, scal], q⟩
theorem wp_eqS {x y : Str} (q : Q (.bl (decide (x = y)))) : On1 (eqD (.str x) (.str y)) Q := ⟨_, by simp [eqD, eqB, toV0, scal], q⟩
theorem wp_neS {x y : Str} (q : Q (.bl (!decide (x = y)))) : On1 (neD (.str x) (.str y)) Q := ⟨_, by simp [neD, eqB, toV0, scal], q⟩
theorem wp_addL (h : ds.length + es.length ≤ 1000) (q : Q (.lst (ds ++ es))) : On1 (addAll (.lst ds) (.lst es)) Q := by
  have q1 : ds.length + es.length ≤ sizeLine := by rw [sizeLine_eq]; omega
  exact ⟨_, by simp [addAll, addD, catD, q1], q⟩
theorem wp_catL (h : ds.length + es.length ≤ 1000) (q : Q (.lst (ds ++ es))) : On1 (catD (.lst ds) (.lst es)) Q := by
  have q1 : ds.length + es.length ≤ sizeLine := by rw [sizeLine_eq]; omega
  exact ⟨_, by simp [catD, q1], q⟩
theorem wp_addS {x y : Str} (h : x.length + y.length ≤ 16777216) (q : Q (.str (x ++ y))) : On1 (addD (.str x) (.str y)) Q := by
  have q1 : x.length + y.length ≤ sizeLine := by rw [sizeLine_eq]; omega
  exact ⟨_, by simp [addD, q1], q⟩
theorem wp_brT (a : A) : (true = true → A) ∧ (true = false → B) := ⟨fun _ => a, fun h => nomatch h⟩
theorem wp_brF (b : B) : (false = true → A) ∧ (false = false → B) := ⟨(fun h => nomatch h), fun _ => b⟩
theorem wp_brNF (b : B) : ((!true) = true → A) ∧ ((!true) = false → B) := ⟨(fun h => nomatch h), fun _ => b⟩
theorem wp_brNT (a : A) : ((!false) = true → A) ∧ ((!false) = false → B) := ⟨fun _ => a, fun h => nomatch h⟩
theorem br {P : Prop} [Decidable P] (a : P → A) (b : ¬P → B) : (decide P = true → A) ∧ (decide P = false → B) := ⟨fun h => a (of_decide_eq_true h), fun h => b (of_decide_eq_false h)⟩
theorem brN {P : Prop} [Decidable P] (a : ¬P → A) (b : P → B) : ((!decide P) = true → A) ∧ ((!decide P) = false → B) := ⟨fun h => a (by simpa using h), fun h => b (by simpa using h)⟩
theorem wp_sz (h : n ≤ 1000) (a : A) : n ≤ sizeLine ∧ A := ⟨by rw [sizeLine_eq]; omega, a⟩
theorem wp_len {m : Nat} (h : n = m) (a : A) : n = m ∧ A := ⟨h, a⟩
theorem wp_rngq {A : Int → Prop} (h0 : 0 ≤ i) (h1 : i < 4611686018427387904) (a : A i) : ∃ q : Int, [D.int i] = [.int q] ∧ 0 ≤ q ∧ q < 4611686018427387904 ∧ A q := ⟨i, rfl, h0, h1, a⟩
theorem wp_exL {A : List D → Prop} {B : List D → Prop} {C : Str → Prop} (a : A ds) : (∃ xs, D.lst ds = .lst xs ∧ A xs) ∨ (∃ xs, D.lst ds = .tup xs ∧ B xs) ∨ (∃ x, D.lst ds = .str x ∧ C x) := .inl ⟨_, rfl, a⟩
theorem wp_exT {A : List D → Prop} {B : List D → Prop} {C : Str → Prop} (b : B ds) : (∃ xs, D.tup ds = .lst xs ∧ A xs) ∨ (∃ xs, D.tup ds = .tup xs ∧ B xs) ∨ (∃ x, D.tup ds = .str x ∧ C x) := .inr (.inl ⟨_, rfl, b⟩)
theorem wp_exStr {A : List D → Prop} {B : List D → Prop} {C : Str → Prop} {x : Str} (c : C x) : (∃ xs, D.str x = .lst xs ∧ A xs) ∨ (∃ xs, D.str x = .tup xs ∧ B xs) ∨ (∃ x', D.str x = .str x' ∧ C x') := .inr (.inr ⟨_, rfl, c⟩)
theorem wp_exO {c : Str} {fs : List (Str × D)} {A : List (Str × D) → Prop} (a : A fs) : ∃ fs', D.obj c fs = .obj c fs' ∧ A fs' := ⟨_, rfl, a⟩
theorem wp_exI {A : Int → Prop} (h0 : -4611686018427387904 ≤ i) (h1 : i < 4611686018427387904) (a : A i) : ∃ j, D.int i = .int j ∧ -4611686018427387904 ≤ j ∧ j < 4611686018427387904 ∧ A j := ⟨_, rfl, h0, h1, a⟩
theorem wp_exe {xs : List D} {A : List D → Prop} (a : A xs) : ∃ ys, ([D.lst xs] = [.lst ys] ∨ [D.lst xs] = [.tup ys]) ∧ A ys := ⟨_, .inl rfl, a⟩
theorem wp_exi {xs : List D} {A : List D → Prop} (a : A xs) : ∃ ys, ([D.tup xs] = [.lst ys] ∨ [D.tup xs] = [.tup ys]) ∧ A ys := ⟨_, .inr rfl, a⟩
theorem wp_exi1 {xs ys : List D} {A : List D → List D → Prop} (a : A xs ys) : ∃ xs' ys', ([D.tup xs, D.tup ys] = [.lst xs', .lst ys'] ∨ [D.tup xs, D.tup ys] = [.tup xs', .tup ys']) ∧ A xs' ys' := ⟨_, _, .inr rfl, a⟩
/-- a pure comprehension over typed items -/
theorem wp_lcF {α β : Type} {mc : MC} {mt : MT} {me : ME} (ea : α → D) (eb : β → D) (p : α → Bool) (f : α → β) (xs : List α) {Q : List D → S → Prop}
    (h : ∀ x ∈ xs, On1 (mc (ea x) e) fun e1 => On (mt e1 s) fun k s1 => k = p x ∧ s1 = s ∧ (p x = true → On (me e1 s) fun d s2 => d = eb (f x) ∧ s2 = s))
    (q : Q (((xs.filter p).map f).map eb) s) : On (lcL mc mt me e (xs.map ea) s) Q := by
  refine on_some ?_ q
  clear q
  induction xs with
  | nil => rfl
  | cons x xs ih =>
    obtain ⟨e1, h1, k, s1, h2, rfl, rfl, h3⟩ := h x (by simp)
    have ih := ih fun y hy => h y (by simp [hy])
    rw [List.map_cons]
    unfold lcL
    rw [h1]; dsimp only
    rw [h2]
    cases hp : p x with
    | false => simp only [ih]; rw [List.filter_cons_of_neg (by simp [hp])]
    | true =>
      obtain ⟨d, s2, h4, rfl, rfl⟩ := h3 hp
      dsimp only
      rw [h4]; dsimp only
      rw [ih]; dsimp only
      rw [List.filter_cons_of_pos hp]; rfl
theorem wp_lcM {α β : Type} {mc : MC} {me : ME} (ea : α → D) (eb : β → D) (f : α → β) (xs : List α) {Q : List D → S → Prop}
    (h : ∀ x ∈ xs, On1 (mc (ea x) e) fun e1 => On (me e1 s) fun d s2 => d = eb (f x) ∧ s2 = s)
    (q : Q ((xs.map f).map eb) s) : On (lcL mc yesT me e (xs.map ea) s) Q := by
  refine wp_lcF ea eb (fun _ => true) f xs (fun x hx => ?_) (by rw [show xs.filter (fun _ => true) = xs from List.filter_eq_self.mpr fun _ _ => rfl]; exact q)
  obtain ⟨e1, h1, h2⟩ := h x hx
  exact ⟨e1, h1, true, s, rfl, rfl, rfl, fun _ => h2⟩
/-- a comprehension whose elements move the state -/
theorem wp_lcI {mc : MC} {me : ME} (I : Nat → S → Prop) (P : Nat → D → Prop) {Q : List D → S → Prop} (h0 : I 0 s)
    (h : ∀ j s d, ds[j]? = some d → I j s → On1 (mc d e) fun e1 => On (me e1 s) fun r s' => P j r ∧ I (j + 1) s')
    (q : ∀ ys s', I ds.length s' → ys.length = ds.length → (∀ j y, ys[j]? = some y → P j y) → Q ys s') : On (lcL mc yesT me e ds s) Q := by
  obtain ⟨ys, s', h1, h2, h3, h4⟩ := lc_inv (mc := mc) (me := me) (e := e) I P ds 0 s h0 fun j s d hd hI => by
    rw [Nat.zero_add] at hI ⊢
    obtain ⟨e1, h1, r, s', h2, h3, h4⟩ := h j s d hd hI
    exact ⟨e1, r, s', h1, h2, h3, h4⟩
  rw [Nat.zero_add] at h2
  exact ⟨ys, s', h1, q ys s' h2 h3 fun j y hy => by simpa using h4 j y hy⟩
/-- a loop by its invariant; a turn may end the def -/
theorem wp_forI {mg : MG} {mb : MS} {N : EnvD → S → Prop} {Rt B C T} (I : Nat → EnvD → S → Prop) (h0 : I 0 e s)
    (h : ∀ j e s d, ds[j]? = some d → I j e s → On (mg d e s) fun e1 s1 => OnS (mb e1 s1) (I (j + 1)) Rt N (I (j + 1)) T)
    (q : ∀ e s, I ds.length e s → N e s) : OnS (forL mg mb ds e s) N Rt B C T := by
  have key : ∀ (ds' : List D) (i : Nat) (e : EnvD) (s : S), I i e s → (∀ j, ds'[j]? = ds[i + j]?) → i + ds'.length = ds.length → OnS (forL mg mb ds' e s) N Rt B C T := by
    intro ds'
    induction ds' with
    | nil => intro i e s hI _ hl; exact ⟨_, _, _, rfl, q e s (by simpa [← hl] using hI)⟩
    | cons d ds' ih =>
      intro i e s hI hd hl
      obtain ⟨e1, s1, h1, f, e2, s2, h2, h3⟩ := h i e s d (by have := hd 0; simpa using this.symm) hI
      unfold forL
      rw [h1]; dsimp only
      rw [h2]
      have nxt := ih (i + 1) e2 s2
      have hd' : ∀ j, ds'[j]? = ds[i + 1 + j]? := fun j => by
        have := hd (j + 1)
        rw [show i + 1 + j = i + (j + 1) by omega]
        simpa using this
      have hl' : i + 1 + ds'.length = ds.length := by rw [← hl]; simp; omega
      cases f with
      | nx => exact nxt h3 hd' hl'
      | ct => exact nxt h3 hd' hl'
      | bk => exact ⟨_, _, _, rfl, h3⟩
      | ret d => exact ⟨_, _, _, rfl, h3⟩
      | rto d => exact ⟨_, _, _, rfl, h3⟩
  exact key ds 0 e s h0 (fun j => by simp) (by simp)
end
end Z
namespace Z
open PySem PySem.Spec PyProof.Rows L2
section
variable {Q : List (Str × D) → S → Prop} {e : EnvD} {s : S} {fs : List (Str × D)} {ds : List D} {n m : Nat}
theorem on_bndN {β : Type} {o : Option (β × S)} {f : β → S → Option (List (Str × D) × S)} (h : On o fun b s => On (f b s) Q) : On (bndN o f) Q := by
  obtain ⟨b, s1, h1, h2⟩ := h
  unfold bndN
  rw [h1]
  exact h2
theorem wp_nnil (q : Q fs s) : On (nNil e fs s) Q := ⟨_, _, rfl, q⟩
theorem wp_nseq {m1 m2 : MN} (h : On (m1 e fs s) fun fs s => On (m2 e fs s) Q) : On (nSeq m1 m2 e fs s) Q := on_bndN h
theorem wp_nexpr {mm : ME} (h : On (mm e s) fun _ s => Q fs s) : On (nExpr mm e fs s) Q := on_bndN (h.mono fun _ _ h => ⟨_, _, rfl, h⟩)
theorem wp_nnot {mt : MT} (h : On (mt e s) fun k s => k = false ∧ Q fs s) : On (nNot mt e fs s) Q := on_bndN (h.mono fun k s h => by
  obtain ⟨rfl, h⟩ := h
  exact ⟨_, _, rfl, h⟩)
theorem wp_nfld {f : Str} {mm : ME} (hl : fs.length < 1000) (h : On (mm e s) fun d s => Q (putFD f d fs) s) : On (nFld f mm e fs s) Q := on_bndN (h.mono fun d s h => ⟨_, _, if_pos hl, h⟩)
theorem wp_mkI {b : MN} (hl : ds.length = n) (h : On (b (startI n m ds) [] s) Q) : On (mkI n m b ds s) Q := by
  unfold mkI
  rw [if_pos hl]
  exact h
end
section
variable {Q : D → S → Prop} {Q1 : D → Prop} {e : EnvD} {s : S}
def ChLe (s3 s2 : S) (a b c : D) (Q : D → S → Prop) : Prop := s3 = s2 ∧ ∃ i j k, a = .int i ∧ b = .int j ∧ c = .int k ∧ Q (.bl (decide (i ≤ j) && decide (j ≤ k))) s2
theorem wp_chainLe {ma mb mc : ME} (h : On (ma e s) fun a s1 => On (mb e s1) fun b s2 => On (mc e s2) fun c s3 => ChLe s3 s2 a b c Q) : On (mChain leD leD ma mb mc e s) Q := by
  refine wp_chain (h.mono fun a s1 h => h.mono fun b s2 h => ?_)
  obtain ⟨c, s3, h1, rfl, i, j, k, rfl, rfl, rfl, q⟩ := h
  refine ⟨.bl (decide (i ≤ j)), rfl, ?_⟩
  cases h2 : decide (i ≤ j) with
  | true => rw [h2] at q; exact .inl ⟨rfl, .int k, s3, h1, _, rfl, q⟩
  | false => rw [h2] at q; exact .inr ⟨rfl, q⟩
theorem wp_chC {i j k : Int} (q : Q (.bl (decide (i ≤ j) && decide (j ≤ k))) s) : ChLe s s (.int i) (.int j) (.int k) Q := ⟨rfl, _, _, _, rfl, rfl, rfl, q⟩
end
end Z
namespace Z
open PySem PySem.Spec PyProof.Rows L2
end Z
namespace Z
theorem is_On {α : Type} {o : Option (α × S)} {Q : α → S → Prop} (h : On o Q) : On o Q := h
theorem is_On1 {α : Type} {o : Option α} {Q : α → Prop} (h : On1 o Q) : On1 o Q := h
theorem is_OnS {o : Option (Fl × EnvD × S)} {N B C : EnvD → S → Prop} {Rt T : D → S → Prop} (h : OnS o N Rt B C T) : OnS o N Rt B C T := h
theorem is_OnB {o : Option (Bool × S)} {Q : Bool → S → Prop} (h : On o Q) : On o Q := h
theorem is_OnD {o : Option (D × S)} {Q : D → S → Prop} (h : On o Q) : On o Q := h
theorem is_OnL {o : Option (List D × S)} {Q : List D → S → Prop} (h : On o Q) : On o Q := h
end Z
namespace Z
section
variable {α : Type} {Q : α → S → Prop} {N B C : EnvD → S → Prop} {Rt T : D → S → Prop} {e e1 : EnvD} {s : S} {i k : Nat} {x : Sl} {ds : List D} {is : List Nat} {xs : List Sl}
theorem nrmS1 {m : MS} (h : List.set e i x = e1) (q : OnS (m e1 s) N Rt B C T) : OnS (m (List.set e i x) s) N Rt B C T := by rw [h]; exact q
theorem nrmS2 {m : MS} (h : startE i k ds = e1) (q : OnS (m e1 s) N Rt B C T) : OnS (m (startE i k ds) s) N Rt B C T := by rw [h]; exact q
theorem nrmS3 {m : MS} (h : setX is xs e = e1) (q : OnS (m e1 s) N Rt B C T) : OnS (m (setX is xs e) s) N Rt B C T := by rw [h]; exact q
theorem nrmS4 {m : MS} (h : frzE i e = e1) (q : OnS (m e1 s) N Rt B C T) : OnS (m (frzE i e) s) N Rt B C T := by rw [h]; exact q
theorem nrm1 {m : EnvD → S → Option (α × S)} (h : List.set e i x = e1) (q : On (m e1 s) Q) : On (m (List.set e i x) s) Q := by rw [h]; exact q
theorem nrm4 {m : EnvD → S → Option (α × S)} (h : frzE i e = e1) (q : On (m e1 s) Q) : On (m (frzE i e) s) Q := by rw [h]; exact q
theorem nrm5 {m : EnvD → S → Option (α × S)} (h : wipeE e is = e1) (q : On (m e1 s) Q) : On (m (wipeE e is) s) Q := by rw [h]; exact q
theorem nrm6 {m : EnvD → S → Option (α × S)} (h : setD is ds e = e1) (q : On (m e1 s) Q) : On (m (setD is ds e) s) Q := by rw [h]; exact q
theorem nrm7 {m : List (Str × D) → S → Option (α × S)} {n : EnvD → List (Str × D) → S → Option (α × S)} {fs : List (Str × D)} (h : startI i k ds = e1) (q : On (n e1 fs s) Q) : On (n (startI i k ds) fs s) Q := by rw [h]; exact q
end
end Z
namespace Z
theorem zmap_cons (a : D) (as : List D) : List.map Sl.val (a :: as) = Sl.val a :: List.map Sl.val as := List.map_cons
theorem zmap_nil : List.map Sl.val [] = [] := List.map_nil
theorem zapp_cons (a : Sl) (as bs : List Sl) : a :: as ++ bs = a :: (as ++ bs) := List.cons_append
theorem zapp_nil (bs : List Sl) : [] ++ bs = bs := List.nil_append bs
theorem zapp_nil' (bs : List Sl) : bs ++ [] = bs := List.append_nil bs
theorem zget0 (a : Sl) (as : List Sl) : (a :: as)[0]? = some a := List.getElem?_cons_zero
theorem zgets (a : Sl) (as : List Sl) (i : Nat) : (a :: as)[i + 1]? = as[i]? := List.getElem?_cons_succ
theorem zset0 (a x : Sl) (as : List Sl) : (a :: as).set 0 x = x :: as := List.set_cons_zero
theorem zsets (a x : Sl) (as : List Sl) (i : Nat) : (a :: as).set (i + 1) x = a :: as.set i x := List.set_cons_succ
theorem zrep0 (a : Sl) : List.replicate 0 a = [] := List.replicate_zero
theorem zreps (a : Sl) (n : Nat) : List.replicate (n + 1) a = a :: List.replicate n a := List.replicate_succ
end Z

set_option Elab.async false
set_option linter.all false
set_option maxRecDepth 100000
namespace Z
open PySem PySem.Spec PyProof.Rows L2
section
variable {Q : D → Prop} {s : S} {e : EnvD} {ds : List D} {n : Nat} {d : D} {i : Int}
theorem isi_bb (cs : List Str) (tys : List String) {t T : String} {b : Bool} (ht : tyD d = some t) (hk : kitB t T = some b) (hd : ∀ c fs, d ≠ .obj c fs) : isiD cs tys [d, .opq (.ty T)] = some (.bl b) := by
  cases d <;> simp only [tyD] at ht <;> (try cases ht) <;> first | (simp [isiD, tyD, hk]; done) | exact absurd rfl (hd _ _)
theorem wp_isiI {cs : List Str} {tys : List String} (q : Q (.bl true)) : On1 (isiD cs tys [.int i, .opq (.ty "int")]) Q := ⟨_, isi_bb cs tys (t := "int") rfl (by decide +kernel) (fun _ _ h => nomatch h), q⟩
theorem wp_isiIb {cs : List Str} {tys : List String} (q : Q (.bl false)) : On1 (isiD cs tys [.int i, .opq (.ty "bool")]) Q := ⟨_, isi_bb cs tys (t := "int") rfl (by decide +kernel) (fun _ _ h => nomatch h), q⟩
theorem wp_isiIs {cs : List Str} {tys : List String} (q : Q (.bl false)) : On1 (isiD cs tys [.int i, .opq (.ty "str")]) Q := ⟨_, isi_bb cs tys (t := "int") rfl (by decide +kernel) (fun _ _ h => nomatch h), q⟩
theorem wp_isiS {cs : List Str} {tys : List String} {x : Str} (q : Q (.bl true)) : On1 (isiD cs tys [.str x, .opq (.ty "str")]) Q := ⟨_, isi_bb cs tys (t := "str") rfl (by decide +kernel) (fun _ _ h => nomatch h), q⟩
theorem wp_isiSi {cs : List Str} {tys : List String} {x : Str} (q : Q (.bl false)) : On1 (isiD cs tys [.str x, .opq (.ty "int")]) Q := ⟨_, isi_bb cs tys (t := "str") rfl (by decide +kernel) (fun _ _ h => nomatch h), q⟩
theorem wp_isiT {cs : List Str} {tys : List String} (q : Q (.bl true)) : On1 (isiD cs tys [.tup ds, .opq (.ty "tuple")]) Q := ⟨_, isi_bb cs tys (t := "tuple") rfl (by decide +kernel) (fun _ _ h => nomatch h), q⟩
theorem wp_isiTs {cs : List Str} {tys : List String} (q : Q (.bl false)) : On1 (isiD cs tys [.tup ds, .opq (.ty "str")]) Q := ⟨_, isi_bb cs tys (t := "tuple") rfl (by decide +kernel) (fun _ _ h => nomatch h), q⟩
/-! membership -/
theorem inA_chr (c : Nat) (z : Str) : inAD (.str ⟨#[c]⟩) (.str z) = some (.bl (decide (c ∈ z.cps.toList))) := by simp [inAD, inA, inB, memS]
theorem inA_strT (x : Str) (xs : List Str) : inA (.str x) (.tup (xs.map .str)) = some (decide (x ∈ xs)) := by simp [inA, inB, toV0, flats_strs, inV_str]
theorem wp_inC {c : Nat} {z : Str} (q : Q (.bl (decide (c ∈ z.cps.toList)))) : On1 (inAD (.str ⟨#[c]⟩) (.str z)) Q := ⟨_, inA_chr c z, q⟩
theorem wp_inSL {x : Str} {xs : List Str} (q : Q (.bl (decide (x ∈ xs)))) : On1 (inAD (.str x) (.lst (xs.map .str))) Q := ⟨_, by unfold inAD; rw [inA_str]; rfl, q⟩
theorem wp_inST {x : Str} {xs : List Str} (q : Q (.bl (decide (x ∈ xs)))) : On1 (inAD (.str x) (.tup (xs.map .str))) Q := ⟨_, by unfold inAD; rw [inA_strT]; rfl, q⟩
theorem wp_ninST {x : Str} {xs : List Str} (q : Q (.bl (!decide (x ∈ xs)))) : On1 (notInAD (.str x) (.tup (xs.map .str))) Q := ⟨_, by unfold notInAD; rw [inA_strT]; rfl, q⟩
theorem wp_ninSL {x : Str} {xs : List Str} (q : Q (.bl (!decide (x ∈ xs)))) : On1 (notInAD (.str x) (.lst (xs.map .str))) Q := ⟨_, by unfold notInAD; rw [inA_str]; rfl, q⟩
theorem wp_inIL {x : Int} {xs : List Int} (q : Q (.bl (decide (x ∈ xs)))) : On1 (inAD (.int x) (.lst (xs.map .int))) Q := ⟨_, by unfold inAD; rw [inA_int]; rfl, q⟩
theorem wp_ninIL {x : Int} {xs : List Int} (q : Q (.bl (!decide (x ∈ xs)))) : On1 (notInAD (.int x) (.lst (xs.map .int))) Q := ⟨_, by unfold notInAD; rw [inA_int]; rfl, q⟩
/-! all, any -/
theorem bools_map : ∀ bs : List Bool, boolsD (bs.map .bl) = some bs
  | [] => rfl
  | b :: bs => by simp [boolsD, bools_map bs]
theorem wp_all {bs : List Bool} (q : Q (.bl (bs.all id))) : On1 (allD [.lst (bs.map .bl)]) Q := ⟨_, by simp [allD, bools_map], q⟩
theorem wp_any {bs : List Bool} (q : Q (.bl (bs.any id))) : On1 (anyD [.lst (bs.map .bl)]) Q := ⟨_, by simp [anyD, bools_map], q⟩
/-! items -/
theorem atI_nat {α : Type} {xs : List α} {k : Nat} {d : α} (h : xs[k]? = some d) : atI xs (k : Int) = some d := by
  have hk := (List.getElem?_eq_some_iff.mp h).1
  rw [List.getElem?_eq_getElem hk] at h
  unfold atI ixN
  simp [hk, Option.some.inj h]
theorem wp_idxL {xs : List D} {d : D} {k : Nat} (h : xs[k]? = some d) (q : Q d) : On1 (idxD (.lst xs) (.int (k : Int))) Q := by
  exact ⟨d, atI_nat h, q⟩
theorem wp_idxT {xs : List D} {d : D} {k : Nat} (h : xs[k]? = some d) (q : Q d) : On1 (idxD (.tup xs) (.int (k : Int))) Q := by
  exact ⟨d, atI_nat h, q⟩
theorem wp_idxS {x : Str} {c k : Nat} (h : x.cps.toList[k]? = some c) (hl : x.length ≤ 16777216) (q : Q (.str ⟨#[c]⟩)) : On1 (idxD (.str x) (.int (k : Int))) Q := by
  have q1 : x.length ≤ sizeLine := by rw [sizeLine_eq]; omega
  exact ⟨.str ⟨#[c]⟩, by simp only [idxD, q1, if_true, atI_nat h, Option.map_some], q⟩
theorem wp_slT {xs : List D} {lo hi : Option Int} (q : Q (.tup (cutL xs lo hi))) : On1 (slD (.tup xs) lo hi) Q := ⟨_, rfl, q⟩
theorem cutL_take {α : Type} (xs : List α) (k : Nat) : cutL xs none (some (k : Int)) = xs.take k := by
  unfold cutL
  rw [HT.sIx_nat, HT.sIx_none]
  simp [List.take_eq_take_iff]
theorem cutL_drop {α : Type} (xs : List α) (k : Nat) : cutL xs (some (k : Int)) none = xs.drop k := by
  unfold cutL
  rw [HT.sIx_nat, HT.sIx_none]
  rw [List.take_of_length_le (by simp)]
  by_cases h : k ≤ xs.length
  · rw [show min k xs.length = k by omega]
  · rw [show min k xs.length = xs.length by omega, List.drop_length, List.drop_of_length_le (by omega)]
end
/-! two clauses -/
section
variable {e : EnvD} {s : S}
theorem lcM_eq {α β : Type} {mc : MC} {me : ME} (ea : α → D) (eb : β → D) (f : α → β) (xs : List α)
    (h : ∀ x ∈ xs, On1 (mc (ea x) e) fun e1 => On (me e1 s) fun d s2 => d = eb (f x) ∧ s2 = s) : lcL mc yesT me e (xs.map ea) s = some ((xs.map f).map eb, s) :=
  eq_of_on (wp_lcM ea eb f xs h ⟨rfl, rfl⟩)
theorem wp_lc2M {α β γ : Type} {mc mc1 : MC} {mi1 : MI} {vs1 : List Nat} {me : ME} (ea : α → D) (eb : β → D) (ec : γ → D) (g : α → List β) (f : α → β → γ) (xs : List α) {Q : List D → S → Prop}
    (h : ∀ x ∈ xs, On1 (mc (ea x) e) fun e1 => On (mi1 e1 s) fun ds s1 => ds = (g x).map eb ∧ s1 = s ∧ ∀ y ∈ g x, On1 (mc1 (eb y) (wipeE e1 vs1)) fun e2 => On (me e2 s) fun d s2 => d = ec (f x y) ∧ s2 = s)
    (q : Q ((xs.flatMap fun x => (g x).map (f x)).map ec) s) : On (lcL2 mc yesT mi1 vs1 mc1 yesT me e (xs.map ea) s) Q := by
  refine on_some ?_ q
  clear q
  induction xs with
  | nil => rfl
  | cons x xs ih =>
    obtain ⟨e1, h1, ds, s1, h2, rfl, rfl, h3⟩ := h x (by simp)
    have ih := ih fun y hy => h y (by simp [hy])
    have h4 := lcM_eq (mc := mc1) (me := me) (e := wipeE e1 vs1) (s := s1) eb ec (f x) (g x) h3
    rw [List.map_cons]
    unfold lcL2
    rw [h1]; dsimp only [yesT]
    rw [h2]; dsimp only
    rw [h4]; dsimp only
    rw [ih]; dsimp only
    simp
/-! dicts of new keys -/
theorem putD_new {kvs : List (Key × D)} {k : Key} {d : D} (h : k ∉ kvs.map (·.1)) : putD kvs k d = kvs ++ [(k, d)] := by
  unfold putD
  rw [if_neg]
  intro z
  obtain ⟨kv, h1, h2⟩ := List.any_eq_true.mp z
  exact h (List.mem_map.mpr ⟨kv, h1, of_decide_eq_true h2⟩)
theorem dcM_eq {α : Type} {mc : MC} {mk mv : ME} (ea : α → D) (kf : α → Key) (vf : α → D) (xs : List α) (acc : List (Key × D))
    (h : ∀ x ∈ xs, On1 (mc (ea x) e) fun e1 => On (mk e1 s) fun kd s1 => keyD kd = some (kf x) ∧ s1 = s ∧ On (mv e1 s) fun d s2 => d = vf x ∧ s2 = s)
    (nd : (acc.map (·.1) ++ xs.map kf).Nodup) (hl : acc.length + xs.length ≤ 1000000) : dcL mc yesT mk mv e (xs.map ea) acc s = some (acc ++ xs.map fun x => (kf x, vf x), s) := by
  induction xs generalizing acc with
  | nil => simp [dcL]
  | cons x xs ih =>
    obtain ⟨e1, h1, kd, s1, h2, h3, rfl, d, s2, h4, rfl, rfl⟩ := h x (by simp)
    have nk : kf x ∉ acc.map (·.1) := fun z => (List.nodup_append.mp nd).2.2 _ z _ (by simp) rfl
    have ih := ih (acc ++ [(kf x, vf x)]) (fun y hy => h y (by simp [hy])) (by simpa using nd) (by simp at hl ⊢; omega)
    have hz : acc.length < sizeLine := by rw [sizeLine_eq]; simp at hl; omega
    rw [List.map_cons]
    unfold dcL
    rw [h1]; dsimp only [yesT]
    rw [h2]; dsimp only
    rw [h4]; dsimp only
    rw [h3]; dsimp only
    rw [if_pos hz, putD_new nk, ih]
    simp
theorem wp_dcM {α : Type} {mc : MC} {mk mv : ME} (ea : α → D) (kf : α → Key) (vf : α → D) (xs : List α) {Q : List (Key × D) → S → Prop}
    (h : ∀ x ∈ xs, On1 (mc (ea x) e) fun e1 => On (mk e1 s) fun kd s1 => keyD kd = some (kf x) ∧ s1 = s ∧ On (mv e1 s) fun d s2 => d = vf x ∧ s2 = s)
    (nd : (xs.map kf).Nodup) (hl : xs.length ≤ 1000000) (q : Q (xs.map fun x => (kf x, vf x)) s) : On (dcL mc yesT mk mv e (xs.map ea) [] s) Q :=
  on_some (dcM_eq ea kf vf xs [] h (by simpa using nd) (by simpa using hl)) (by simpa using q)
theorem wp_dc2M {α β : Type} {mc mc1 : MC} {mi1 : MI} {vs1 : List Nat} {mk mv : ME} (ea : α → D) (eb : β → D) (g : α → List β) (kf : α → β → Key) (vf : α → β → D) (xs : List α) {Q : List (Key × D) → S → Prop}
    (h : ∀ x ∈ xs, On1 (mc (ea x) e) fun e1 => On (mi1 e1 s) fun ds s1 => ds = (g x).map eb ∧ s1 = s ∧ ∀ y ∈ g x, On1 (mc1 (eb y) (wipeE e1 vs1)) fun e2 => On (mk e2 s) fun kd s1 => keyD kd = some (kf x y) ∧ s1 = s ∧ On (mv e2 s) fun d s2 => d = vf x y ∧ s2 = s)
    (nd : (xs.flatMap fun x => (g x).map (kf x)).Nodup) (hl : (xs.flatMap fun x => (g x).map (kf x)).length ≤ 1000000) (q : Q (xs.flatMap fun x => (g x).map fun y => (kf x y, vf x y)) s) :
    On (dcL2 mc yesT mi1 vs1 mc1 yesT mk mv e (xs.map ea) [] s) Q := by
  have key : ∀ (xs : List α) (acc : List (Key × D)), (∀ x ∈ xs, On1 (mc (ea x) e) fun e1 => On (mi1 e1 s) fun ds s1 => ds = (g x).map eb ∧ s1 = s ∧ ∀ y ∈ g x, On1 (mc1 (eb y) (wipeE e1 vs1)) fun e2 => On (mk e2 s) fun kd s1 => keyD kd = some (kf x y) ∧ s1 = s ∧ On (mv e2 s) fun d s2 => d = vf x y ∧ s2 = s) →
      (acc.map (·.1) ++ xs.flatMap fun x => (g x).map (kf x)).Nodup → acc.length + (xs.flatMap fun x => (g x).map (kf x)).length ≤ 1000000 →
      dcL2 mc yesT mi1 vs1 mc1 yesT mk mv e (xs.map ea) acc s = some (acc ++ xs.flatMap fun x => (g x).map fun y => (kf x y, vf x y), s) := by
    intro xs
    induction xs with
    | nil => intro acc _ _ _; simp [dcL2]
    | cons x xs ih =>
      intro acc h nd hl
      obtain ⟨e1, h1, ds, s1, h2, rfl, rfl, h3⟩ := h x (by simp)
      have h4 := dcM_eq (mc := mc1) (mk := mk) (mv := mv) (e := wipeE e1 vs1) (s := s1) eb (kf x) (vf x) (g x) acc h3 (by
        rw [List.flatMap_cons, ← List.append_assoc] at nd
        exact (List.nodup_append.mp nd).1) (by simp at hl ⊢; omega)
      have ih := ih (acc ++ (g x).map fun y => (kf x y, vf x y)) (fun y hy => h y (by simp [hy])) (by
        rw [List.flatMap_cons, ← List.append_assoc] at nd
        rw [List.map_append, List.map_map]
        exact nd) (by simp at hl ⊢; omega)
      rw [List.map_cons]
      unfold dcL2
      rw [h1]; dsimp only [yesT]
      rw [h2]; dsimp only
      rw [h4]; dsimp only
      rw [ih]
      simp
  exact on_some (key xs [] h (by simpa using nd) (by simpa using hl)) (by simpa using q)
theorem lookD_map {α : Type} (kf : α → Key) (vf : α → D) (k : Key) : ∀ xs : List α, (lookD (xs.map fun x => (kf x, vf x)) k).isSome = xs.any fun x => decide (kf x = k)
  | [] => rfl
  | x :: xs => by
    have ih := lookD_map kf vf k xs
    unfold lookD at ih ⊢
    by_cases h : kf x = k
    · simp [h]
    · simp only [List.map_cons, List.find?_cons, h, decide_false, List.any_cons, Bool.false_or]
      exact ih
end
end Z
namespace Z
open PySem PySem.Spec PyProof.Rows L2
theorem wp_lenS {Q : D → Prop} {x : Str} (h : x.length ≤ 16777216) (q : Q (.int x.length)) : On1 (lenD [.str x]) Q := ⟨_, by
  have q1 : x.length ≤ sizeLine := by rw [sizeLine_eq]; omega
  simp [lenD, q1], q⟩
theorem wp_lenL {Q : D → Prop} {ds : List D} (q : Q (.int ds.length)) : On1 (lenD [.lst ds]) Q := ⟨_, by simp [lenD], q⟩
theorem wp_lenT {Q : D → Prop} {ds : List D} (q : Q (.int ds.length)) : On1 (lenD [.tup ds]) Q := ⟨_, by simp [lenD], q⟩
end Z
namespace Z
open PySem PySem.Spec PyProof.Rows L2
theorem wp_ixT {Q : D → Prop} {xs : List D} {d : D} {i : Int} (h : xs[i.toNat]? = some d) (h0 : 0 ≤ i) (q : Q d) : On1 (idxD (.tup xs) (.int i)) Q := by
  obtain ⟨k, rfl⟩ : ∃ k : Nat, i = k := ⟨i.toNat, by omega⟩
  exact wp_idxT h q
theorem wp_ixL {Q : D → Prop} {xs : List D} {d : D} {i : Int} (h : xs[i.toNat]? = some d) (h0 : 0 ≤ i) (q : Q d) : On1 (idxD (.lst xs) (.int i)) Q := by
  obtain ⟨k, rfl⟩ : ∃ k : Nat, i = k := ⟨i.toNat, by omega⟩
  exact wp_idxL h q
theorem wp_ixS {Q : D → Prop} {x : Str} {c : Nat} {i : Int} (h : x.cps.toList[i.toNat]? = some c) (h0 : 0 ≤ i) (hl : x.length ≤ 16777216) (q : Q (.str ⟨#[c]⟩)) : On1 (idxD (.str x) (.int i)) Q := by
  obtain ⟨k, rfl⟩ : ∃ k : Nat, i = k := ⟨i.toNat, by omega⟩
  exact wp_idxS h hl q
end Z
namespace Z
open PySem PySem.Spec PyProof.Rows L2
theorem wp_mjoin {Q : D → S → Prop} {e : EnvD} {s : S} {mo me : ME} (h : On (mo e s) fun a s1 => On (me e s1) fun b s2 => On1 (joinD a b) fun d => Q d s2) : On (mJoin mo me e s) Q := wp_op h
theorem wp_msplit {Q : D → S → Prop} {e : EnvD} {s : S} {mo me : ME} (h : On (mo e s) fun a s1 => On (me e s1) fun b s2 => ∃ z w, a = .str z ∧ b = .str w ∧ (w.length == 0) = false ∧ z.length ≤ 16000000 ∧ Q (.lst ((Txt.split z w).map D.str)) s2) : On (mSplit mo me e s) Q :=
  on_bnd (h.mono fun a s1 h => on_bnd (h.mono fun b s2 h => by
    obtain ⟨z, w, rfl, rfl, h1, h2, q⟩ := h
    refine ⟨_, _, ?_, q⟩
    have h3 : z.length + 2 ≤ sizeLine := by rw [sizeLine_eq]; omega
    simp only [h1, h3, and_self, if_true]))
end Z
namespace Z
open PySem PySem.Spec PyProof.Rows L2
section
variable {e : EnvD} {s : S} {d : D} {ds : List D} {N B C : EnvD → S → Prop} {Rt T : D → S → Prop}
theorem wp_lcNil {mc : MC} {mt : MT} {me : ME} {Q : List D → S → Prop} (q : Q [] s) : On (lcL mc mt me e [] s) Q := ⟨_, _, rfl, q⟩
theorem wp_lcCons {mc : MC} {me : ME} {Q : List D → S → Prop} (h : On1 (mc d e) fun e1 => On (me e1 s) fun r s1 => On (lcL mc yesT me e ds s1) fun rs s2 => Q (r :: rs) s2) : On (lcL mc yesT me e (d :: ds) s) Q := by
  obtain ⟨e1, h1, r, s1, h2, rs, s2, h3, q⟩ := h
  refine ⟨r :: rs, s2, ?_, q⟩
  unfold lcL
  rw [h1]; dsimp only [yesT]
  rw [h2]; dsimp only
  rw [h3]
theorem wp_forNil {mg : MG} {mb : MS} (q : N e s) : OnS (forL mg mb [] e s) N Rt B C T := ⟨_, _, _, rfl, q⟩
theorem wp_forCons {mg : MG} {mb : MS} (h : On (mg d e s) fun e1 s1 => OnS (mb e1 s1) (fun e2 s2 => OnS (forL mg mb ds e2 s2) N Rt B C T) Rt N (fun e2 s2 => OnS (forL mg mb ds e2 s2) N Rt B C T) T) : OnS (forL mg mb (d :: ds) e s) N Rt B C T := by
  obtain ⟨e1, s1, h1, f, e2, s2, h2, h3⟩ := h
  unfold forL
  rw [h1]; dsimp only
  rw [h2]
  cases f with
  | nx => exact h3
  | ct => exact h3
  | bk => exact ⟨_, _, _, rfl, h3⟩
  | ret d => exact ⟨_, _, _, rfl, h3⟩
  | rto d => exact ⟨_, _, _, rfl, h3⟩
end
end Z

set_option Elab.async false
set_option linter.all false
set_option maxRecDepth 100000
namespace Z
open PySem PySem.Spec PyProof.Rows L2
section
variable {Q : D → S → Prop} {e : EnvD} {s : S} {mo ma' mb' : ME} {mA : MA}
def MethK (c m : Str) (x : D) (P : List (Str × D) → Prop) : Prop := ∃ fs, x = .obj c fs ∧ lookF fs m = none ∧ P fs
theorem wp_meth {c m : Str} {md : MD} (h : On (mo e s) fun x s1 => MethK c m x fun fs => On (mA e s1) fun ds s2 => On (md (.obj c fs :: ds) s2) Q) : On (mMeth c m md mo mA e s) Q := by
  refine on_bnd (h.mono fun x s1 h => ?_)
  obtain ⟨fs, rfl, h1, h⟩ := h
  dsimp only
  rw [if_pos ⟨rfl, h1⟩]
  exact on_bnd h
theorem wp_methK {c m : Str} {ix : List Nat} {md : MD} (h : On (mo e s) fun x s1 => MethK c m x fun fs => On (mA e s1) fun ds s2 => On (md (.obj c fs :: pick ix ds) s2) Q) : On (mMethK c m ix md mo mA e s) Q := by
  refine on_bnd (h.mono fun x s1 h => ?_)
  obtain ⟨fs, rfl, h1, h⟩ := h
  dsimp only
  rw [if_pos ⟨rfl, h1⟩]
  exact on_bnd h
theorem wp_meth0 {c m : Str} {md : MD} (h : On (mo e s) fun x s1 => MethK c m x fun fs => On (md [.obj c fs] s1) Q) : On (mMeth0 c m md mo e s) Q := by
  refine on_bnd (h.mono fun x s1 h => ?_)
  obtain ⟨fs, rfl, h1, h⟩ := h
  dsimp only
  rw [if_pos ⟨rfl, h1⟩]
  exact h
theorem wp_mk {c m : Str} {fs : List (Str × D)} {P : List (Str × D) → Prop} (h : lookF fs m = none) (p : P fs) : MethK c m (.obj c fs) P := ⟨fs, rfl, h, p⟩
def GetK (d kd x : D) (P : D → Prop) : Prop := ∃ kvs k, d = .dic kvs ∧ keyD kd = some k ∧ P ((lookD kvs k).getD x)
theorem wp_mget (h : On (mo e s) fun d s1 => On (ma' e s1) fun kd s2 => On (mb' e s2) fun x s3 => GetK d kd x fun r => Q r s3) : On (mGet mo ma' mb' e s) Q :=
  on_bnd (h.mono fun d s1 h => on_bnd (h.mono fun kd s2 h => on_bnd (h.mono fun x s3 h => by
    obtain ⟨kvs, k, rfl, h1, q⟩ := h
    refine ⟨_, _, ?_, q⟩
    dsimp only
    rw [h1])))
theorem wp_gk {kvs : List (Key × D)} {kd x : D} {k : Key} {P : D → Prop} (h : keyD kd = some k) (p : P ((lookD kvs k).getD x)) : GetK (.dic kvs) kd x P := ⟨kvs, k, rfl, h, p⟩
theorem wp_dic0 (q : Q (.dic []) s) : On (mDic0 e s) Q := ⟨_, _, rfl, q⟩
theorem wp_oEq {c : Str} {md : MD} {fs gs : List (Str × D)} (h : On (md [.obj c fs, .obj c gs] s) fun r s1 => ∃ k, r = .bl k ∧ Q (.bl k) s1) : On (ownEq c md (.obj c fs) (.obj c gs) s) Q := wp_ownEq h
theorem wp_putK {N B C : EnvD → S → Prop} {Rt T : D → S → Prop} {i : Nat} {kvs : List (Key × D)} {m1 m2 : ME} (hi : e[i]? = some (.own (.dic kvs))) (h : On (m2 e s) fun d s1 => On (m1 e s1) fun kd s2 => ∃ k, keyD kd = some k ∧ kvs.length < sizeLine ∧ N (e.set i (.own (.dic (putD kvs k d)))) s2) :
    OnS (sPutK i m1 m2 e s) N Rt B C T := ons_bndS (h.mono fun d s1 h => ons_bndS (h.mono fun kd s2 h => by
  obtain ⟨k, h1, h2, q⟩ := h
  refine ⟨.nx, _, _, ?_, q⟩
  rw [h1, hi]
  dsimp only
  rw [if_pos h2]))
theorem wp_catT {Q : D → Prop} {ds es : List D} (h : ds.length + es.length ≤ 1000) (q : Q (.tup (ds ++ es))) : On1 (addD (.tup ds) (.tup es)) Q := by
  have q1 : ds.length + es.length ≤ sizeLine := by rw [sizeLine_eq]; omega
  exact ⟨_, by simp [addD, q1], q⟩
end
end Z

set_option Elab.async false
set_option linter.all false
set_option maxRecDepth 100000
namespace Z
open PySem PySem.Spec PyProof.Rows L2
/-! ### == of plain data: the same as = -/
mutual
def noB : PyData → Bool
  | .none => true
  | .int _ => true
  | .str _ => true
  | .tuple xs => noBs xs
  | .list xs => noBs xs
  | _ => false
def noBs : List PyData → Bool
  | [] => true
  | x :: xs => noB x && noBs xs
end
mutual
theorem eqv_iff : ∀ (p q : PyData), noB p = true → noB q = true → (PyData.eqv p q = true ↔ p = q)
  | .none, q, h, h' => by cases q <;> simp_all [PyData.eqv, noB]
  | .bool _, q, h, h' => by simp [noB] at h
  | .dict _, q, h, h' => by simp [noB] at h
  | .int _, q, h, h' => by cases q <;> simp_all [PyData.eqv, noB]
  | .str _, q, h, h' => by cases q <;> simp_all [PyData.eqv, noB]
  | .tuple xs, q, h, h' => by
    cases q with
    | tuple ys =>
      simp only [PyData.eqv, noB] at *
      rw [eqvs_iff xs ys h h']
      simp
    | _ => simp_all [PyData.eqv, noB]
  | .list xs, q, h, h' => by
    cases q with
    | list ys =>
      simp only [PyData.eqv, noB] at *
      rw [eqvs_iff xs ys h h']
      simp
    | _ => simp_all [PyData.eqv, noB]
theorem eqvs_iff : ∀ (ps qs : List PyData), noBs ps = true → noBs qs = true → (PyData.eqvAll ps qs = true ↔ ps = qs)
  | [], [], _, _ => by simp [PyData.eqvAll]
  | [], _ :: _, _, _ => by simp [PyData.eqvAll]
  | _ :: _, [], _, _ => by simp [PyData.eqvAll]
  | x :: xs, y :: ys, h, h' => by
    simp only [PyData.eqvAll, noBs, Bool.and_eq_true] at *
    rw [eqv_iff x y h.1 h'.1, eqvs_iff xs ys h.2 h'.2]
    simp
end
mutual
theorem toP_inj : ∀ {d e : D} {p : PyData}, toP d = some p → toP e = some p → d = e
  | .non, e, p, h, h' => by
    simp only [toP, Option.some.injEq] at h; subst h
    cases e <;> simp [toP] at h' <;> rfl
  | .bl b, e, p, h, h' => by
    simp only [toP, Option.some.injEq] at h; subst h
    cases e <;> simp [toP] at h'
    rw [h']
  | .int b, e, p, h, h' => by
    simp only [toP, Option.some.injEq] at h; subst h
    cases e <;> simp [toP] at h'
    rw [h']
  | .str b, e, p, h, h' => by
    simp only [toP, Option.some.injEq] at h; subst h
    cases e <;> simp [toP] at h'
    rw [h']
  | .tup ds, e, p, h, h' => by
    simp only [toP] at h
    obtain ⟨ps, h1, rfl⟩ := Option.map_eq_some_iff.mp h
    cases e <;> simp [toP] at h'
    rw [toPL_inj h1 h']
  | .lst ds, e, p, h, h' => by
    simp only [toP] at h
    obtain ⟨ps, h1, rfl⟩ := Option.map_eq_some_iff.mp h
    cases e <;> simp [toP] at h'
    rw [toPL_inj h1 h']
  | .dic _, _, _, h, _ => by simp [toP] at h
  | .obj _ _, _, _, h, _ => by simp [toP] at h
  | .ty _, _, _, h, _ => by simp [toP] at h
  | .opq _, _, _, h, _ => by simp [toP] at h
  | .cel _, _, _, h, _ => by simp [toP] at h
theorem toPL_inj : ∀ {ds es : List D} {ps : List PyData}, toPL ds = some ps → toPL es = some ps → ds = es
  | [], es, ps, h, h' => by
    simp only [toPL, Option.some.injEq] at h; subst h
    cases es with
    | nil => rfl
    | cons e es =>
      simp only [toPL] at h'
      split at h'
      · obtain ⟨q, _, z⟩ := Option.map_eq_some_iff.mp h'; cases z
      · cases h'
  | d :: ds, es, ps, h, h' => by
    simp only [toPL] at h
    split at h
    · rename_i p hp
      obtain ⟨qs, h1, rfl⟩ := Option.map_eq_some_iff.mp h
      cases es with
      | nil => simp [toPL] at h'
      | cons e es =>
        simp only [toPL] at h'
        split at h'
        · rename_i p' hp'
          obtain ⟨qs', h2, z⟩ := Option.map_eq_some_iff.mp h'
          cases z
          rw [toP_inj hp hp', toPL_inj h1 h2]
        · cases h'
    · cases h
end
def Pl (d : D) (k : Nat) : Prop := ∃ p, toP d = some p ∧ p.canLay0 = true ∧ p.depth ≤ k ∧ noB p = true
def PlL (ds : List D) (k : Nat) : Prop := ∃ ps, toPL ds = some ps ∧ PyData.canLayAll0 ps = true ∧ PyData.depthAll ps ≤ k ∧ noBs ps = true
theorem Pl.le {d : D} {k k' : Nat} (h : Pl d k) (hk : k ≤ k') : Pl d k' := let ⟨p, h1, h2, h3, h4⟩ := h; ⟨p, h1, h2, by omega, h4⟩
theorem PlL.le {d : List D} {k k' : Nat} (h : PlL d k) (hk : k ≤ k') : PlL d k' := let ⟨p, h1, h2, h3, h4⟩ := h; ⟨p, h1, h2, by omega, h4⟩
theorem pl_int (i : Int) : Pl (.int i) 0 := ⟨.int i, rfl, by simp [PyData.canLay0], by simp [PyData.depth], by simp [noB]⟩
theorem pll_nil : PlL [] 0 := ⟨[], rfl, by simp [PyData.canLayAll0], by simp [PyData.depthAll], by simp [noBs]⟩
theorem pll_cons {d : D} {ds : List D} {k : Nat} (h : Pl d k) (t : PlL ds k) : PlL (d :: ds) k := by
  obtain ⟨p, h1, h2, h3, h4⟩ := h
  obtain ⟨ps, t1, t2, t3, t4⟩ := t
  exact ⟨p :: ps, by simp [toPL, h1, t1], by simp [PyData.canLayAll0, h2, t2], by simp only [PyData.depthAll]; omega, by simp [noBs, h4, t4]⟩
theorem pll_all {k : Nat} : ∀ {ds : List D}, (∀ d ∈ ds, Pl d k) → PlL ds k
  | [], _ => pll_nil.le (by omega)
  | d :: ds, h => pll_cons (h d (by simp)) (pll_all fun e he => h e (by simp [he]))
theorem pll_map {α : Type} {f : α → D} {k : Nat} {xs : List α} (h : ∀ x ∈ xs, Pl (f x) k) : PlL (xs.map f) k := pll_all fun d hd => by
  obtain ⟨x, hx, rfl⟩ := List.mem_map.mp hd
  exact h x hx
theorem pl_lst {ds : List D} {k : Nat} (h : PlL ds k) : Pl (.lst ds) (k + 1) := by
  obtain ⟨ps, h1, h2, h3, h4⟩ := h
  exact ⟨.list ps, by simp [toP, h1], by simp [PyData.canLay0, h2], by simp [PyData.depth]; omega, by simp [noB, h4]⟩
theorem eqv_pl {d e : D} {k : Nat} (h : Pl d k) (h' : Pl e k) (hk : k ≤ 64) : ∃ p q b, toP d = some p ∧ toP e = some q ∧ SeqAt.shaped p = true ∧ SeqAt.shaped q = true ∧ PyData.eqv p q = b ∧ (b = true ↔ d = e) := by
  obtain ⟨p, h1, h2, h3, h4⟩ := h
  obtain ⟨q, t1, t2, t3, t4⟩ := h'
  refine ⟨p, q, _, h1, t1, ?_, ?_, rfl, ?_⟩
  · unfold SeqAt.shaped; rw [h2, decide_eq_true (by omega)]; rfl
  · unfold SeqAt.shaped; rw [t2, decide_eq_true (by omega)]; rfl
  · rw [eqv_iff p q h4 t4]
    exact ⟨fun z => toP_inj h1 (z ▸ t1), fun z => by subst z; rw [h1] at t1; exact Option.some.inj t1⟩
theorem eqB_lst {as bs : List D} {k : Nat} (h : Pl (.lst as) k) (h' : Pl (.lst bs) k) (hk : k ≤ 64) : ∃ b, eqB (.lst as) (.lst bs) = some b ∧ (b = true ↔ as = bs) := by
  obtain ⟨p, q, b, h1, h2, h3, h4, h5, h6⟩ := eqv_pl h h' hk
  refine ⟨b, ?_, by rw [h6]; simp⟩
  unfold eqB
  simp only [toV0, h1, h2]
  rw [if_pos ⟨h3, h4⟩, h5]
end Z
namespace Z
open PySem PySem.Spec PyProof.Rows L2
theorem zcut6 (a b c d e f g : D) : cutL [a, b, c, d, e, f, g] none (some 6) = [a, b, c, d, e, f] := by
  have := cutL_take [a, b, c, d, e, f, g] 6
  simpa using this
theorem zcut3 (a b c d e f g : D) : cutL [a, b, c, d, e, f, g] none (some 3) = [a, b, c] := by
  have := cutL_take [a, b, c, d, e, f, g] 3
  simpa using this
theorem dec_self {α : Type} {a : α} {i : Decidable (a = a)} : @decide (a = a) i = true := decide_eq_true rfl
section
variable {Q : D → S → Prop} {e : EnvD} {s : S} {mo : ME}
theorem wp_mrev {f : D → Option D} (h : On (mo e s) fun d s1 => On1 (f d) fun r => Q r s1) : On (mRev f mo e s) Q := on_bnd (h.mono fun _ _ h => on_lft h)
theorem wp_cmK {c : Str} {ix : List Nat} {md : MD} {mA : MA} (h : On (mo e s) fun x s1 => x = .ty c ∧ On (mA e s1) fun ds s2 => On (md (.ty c :: pick ix ds) s2) Q) : On (mCmK c ix md mo mA e s) Q := by
  refine on_bnd (h.mono fun x s1 h => ?_)
  obtain ⟨rfl, h⟩ := h
  dsimp only
  rw [if_pos rfl]
  exact on_bnd h
/-- arguments picked one by one -/
def PkK (ix : List Nat) (ws : List D) (P : List D → Prop) : Prop := P (pick ix ws)
theorem wp_pk0 {ws : List D} {P : List D → Prop} (h : P []) : PkK [] ws P := h
theorem wp_pks {i : Nat} {ix : List Nat} {ws : List D} {d : D} {P : List D → Prop} (h : ws[i]? = some d) (q : PkK ix ws fun es => P (d :: es)) : PkK (i :: ix) ws P := by
  unfold PkK pick at *
  rw [List.filterMap_cons, h]
  exact q
theorem wp_cmK' {c : Str} {ix : List Nat} {md : MD} {mA : MA} (h : On (mo e s) fun x s1 => x = .ty c ∧ On (mA e s1) fun ds s2 => PkK ix ds fun es => On (md (.ty c :: es) s2) Q) : On (mCmK c ix md mo mA e s) Q := wp_cmK h
theorem wp_methK' {c m : Str} {ix : List Nat} {md : MD} {mA : MA} (h : On (mo e s) fun x s1 => MethK c m x fun fs => On (mA e s1) fun ds s2 => PkK ix ds fun es => On (md (.obj c fs :: es) s2) Q) : On (mMethK c m ix md mo mA e s) Q := wp_methK h
theorem wp_pick' {ix : List Nat} {md : MD} {ds : List D} (h : PkK ix ds fun es => On (md es s) Q) : On (mdPick ix md ds s) Q := h
theorem wp_revT {Q : D → Prop} {ds : List D} (q : Q (.tup ds.reverse)) : On1 (revT (.tup ds)) Q := ⟨_, rfl, q⟩
theorem wp_revL {Q : D → Prop} {ds : List D} (q : Q (.lst ds.reverse)) : On1 (revLD (.lst ds)) Q := ⟨_, rfl, q⟩
theorem wp_oNe {c : Str} {md : MD} {fs gs : List (Str × D)} (h : On (md [.obj c fs, .obj c gs] s) fun r s1 => ∃ k, r = .bl k ∧ Q (.bl (!k)) s1) : On (ownNe c md (.obj c fs) (.obj c gs) s) Q := wp_ownNe h
theorem wp_rng2 {Q : List D → S → Prop} {mA : MA} (h : On (mA e s) fun ds s1 => ∃ i j : Int, ds = [.int i, .int j] ∧ (-4611686018427387904 ≤ i ∧ i < 4611686018427387904 ∧ -4611686018427387904 ≤ j ∧ j < 4611686018427387904) ∧ Q (rngD i (j - i).toNat) s1) : On (rng2I mA e s) Q := by
  refine on_bnd (h.mono fun d s1 h => ?_)
  obtain ⟨i, j, rfl, ⟨a, b, c, d⟩, h⟩ := h
  have c : (-(2 ^ 62) ≤ i ∧ i < 2 ^ 62) ∧ -(2 ^ 62) ≤ j ∧ j < 2 ^ 62 := by omega
  refine ⟨_, _, ?_, h⟩
  simp only [c, and_self, if_true]
theorem rng_nat (n : Nat) : rngD 0 n = (List.range n).map fun i : Nat => D.int i := by simp [rngD]
end
end Z

set_option linter.all false
set_option maxRecDepth 100000
namespace Z
namespace C
open PySem
def isiC : List PySem.Str := ["Ring"]
def isiT : List String := ["int", "bool", "str", "tuple"]
def u__law_dip : MD := mkD 2 4 (sSeq (sIf (mT (mOp gtD (mOpM idxCel (mVar 0) (mC (.int 0))) (mC (.int 0)))) (sSeq (sAsg (gSeq (gsCons (gCel (mVar 0) (mC (.int 0))) (gsCons (gNm 2) (gsNil)))) (mCall divmodD (aCons (mOpM idxCel (mVar 0) (mC (.int 0))) (aCons (mVar 1) (aNil))))) (sRet (mVar 2))) (sNil)) (sSeq (sAsg (gCel (mVar 0) (mC (.int 2))) (mOp addD (mOpM idxCel (mVar 0) (mC (.int 2))) (mC (.int 1)))) (sSeq (sSet 3 (mOp modD (mCall intD (aCons (mOp addD (mOp addD (mOp mulD (mOpM idxCel (mVar 0) (mC (.int 1))) (mOp addD (mC (.int 39877)) (mOp mulD (mC (.int 2)) (mOpM idxCel (mVar 0) (mC (.int 2)))))) (mOp mulD (mC (.int 6151)) (mOpM idxCel (mVar 0) (mC (.int 2))))) (mC (.int 3))) (aNil))) (mC (.int 2147483543)))) (sSeq (sAsg (gCel (mVar 0) (mC (.int 1))) (mOp modD (mCall intD (aCons (mOp addD (mOp mulD (mVar 3) (mC (.int 44491))) (mOp mulD (mOpM idxCel (mVar 0) (mC (.int 2))) (mOpM idxCel (mVar 0) (mC (.int 2))))) (aNil))) (mC (.int 2147483497)))) (sRet (mOp modD (mCall intD (aCons (mOp fdivD (mOpM idxCel (mVar 0) (mC (.int 1))) (mC (.int 512))) (aNil))) (mVar 1)))))))
def u__law_of : MD := mkD 2 2 (sRet (mOp idxD (mVar 1) (mCallD u__law_dip (aCons (mVar 0) (aCons (mCall lenD (aCons (mVar 1) (aNil))) (aNil))))))
def u__law_rule : MD := mkD 1 3 (sSeq (sSet 1 (mOp addD (mC (.int 1)) (mCallD u__law_dip (aCons (mVar 0) (aCons (mC (.int 5)) (aNil)))))) (sSeq (sSet 2 (mLst (aCons (mVar 1) (aCons (mCallD u__law_of (aCons (mVar 0) (aCons (mLst (aCons (mC (.str "hosts")) (aCons (mC (.str "racks")) (aNil)))) (aNil)))) (aNil))))) (sRet (mOp addAll (mVar 2) (mLst (aCons (mOp addD (mC (.int 1)) (mCallD u__law_dip (aCons (mVar 0) (aCons (mVar 1) (aNil))))) (aCons (mOp addD (mC (.int 1)) (mCallD u__law_dip (aCons (mVar 0) (aCons (mVar 1) (aNil))))) (aCons (mCallD u__law_of (aCons (mVar 0) (aCons (mLst (aCons (mC (.str "plain")) (aCons (mC (.str "with")) (aNil)))) (aNil)))) (aNil)))))))))
def u__law_title : MD := mkD 1 4 (sSeq (sSet 1 (mC (.str "abcdefghijklmnopqrstuvwxyz"))) (sSeq (sIf (mT (mOp eqD (mCallD u__law_dip (aCons (mVar 0) (aCons (mC (.int 6)) (aNil)))) (mC (.int 0)))) (sRet (mCallD u__law_of (aCons (mVar 0) (aCons (mLst (aCons (mC (.str "ring")) (aCons (mC (.str "host")) (aCons (mC (.str "plan")) (aCons (mC (.str "hosts")) (aCons (mC (.str "racks")) (aCons (mC (.str "with")) (aCons (mC (.str "plain")) (aCons (mC (.str "join")) (aCons (mC (.str "settle")) (aNil))))))))))) (aNil))))) (sNil)) (sSeq (sSet 2 (mOp idxD (mVar 1) (mCallD u__law_dip (aCons (mVar 0) (aCons (mC (.int 26)) (aNil)))))) (sSeq (sFor (rngI (aCons (mCallD u__law_of (aCons (mVar 0) (aCons (mLst (aCons (mC (.int 0)) (aCons (mC (.int 0)) (aCons (mC (.int 1)) (aCons (mC (.int 2)) (aCons (mC (.int 7)) (aCons (mC (.int 3)) (aNil)))))))) (aNil)))) (aNil))) (gNm 3) (sSet 2 (mOp addD (mVar 2) (mOp idxD (mOp addD (mVar 1) (mC (.str "0123456789"))) (mCallD u__law_dip (aCons (mVar 0) (aCons (mC (.int 36)) (aNil)))))))) (sRet (mVar 2))))))
def u__law_titles : MD := mkD 2 7 (sSeq (sPar [2, 3] (xVal (mLst (aCons (mC (.str "a")) (aCons (mC (.str "b")) (aCons (mC (.str "a1")) (aCons (mC (.str "a2")) (aCons (mC (.str "zz9")) (aCons (mC (.str "q")) (aCons (mC (.str "r1")) (aCons (mC (.str "x")) (aCons (mC (.str "y")) (aCons (mC (.str "z")) (aCons (mC (.str "h0")) (aCons (mC (.str "h1")) (aNil)))))))))))))) (xOwn (mLst (aNil)) (xNil)))) (sSeq (sFor (rngI (aCons (mVar 1) (aNil))) (gNm 4) (sSeq (sSet 5 (mCallD u__law_title (aCons (mVar 0) (aNil)))) (sSeq (sIf (tBor 3 (tAndZ (mT (mOp neD (mVar 3) (mLst (aNil)))) (mT (mOp eqD (mCallD u__law_dip (aCons (mVar 0) (aCons (mC (.int 4)) (aNil)))) (mC (.int 0)))))) (sSet 5 (mBor 3 (mOp addD (mSl slD (mOp idxD (mVar 3) (mC (.int 0))) (oNone) (oSome (mC (.int 7)))) (mOp idxD (mC (.str "0123456789ab")) (mVar 4))))) (sNil)) (sApp 3 (mBor 3 (mOp idxD (mLc [6] (seqI (mOp addAll (mLst (aCons (mVar 5) (aNil))) (mVar 2))) (cNm 6) (mT (mOp notInAD (mVar 6) (mVar 3))) (mVar 6)) (mC (.int 0)))))))) (sFrz 3 (sRet (mVar 3)))))
def u__law_yards : MD := mkD 2 4 (sSeq (sSet 2 (mCallD u__law_titles (aCons (mVar 0) (aCons (mOp addD (mC (.int 1)) (mCallD u__law_dip (aCons (mVar 0) (aCons (mC (.int 4)) (aNil))))) (aNil))))) (sRet (mLc [3] (rngI (aCons (mVar 1) (aNil))) (cNm 3) (yesT) (mCallD u__law_of (aCons (mVar 0) (aCons (mVar 2) (aNil)))))))
def u__law_free : MD := mkD 3 4 (sSeq (sFor (rngI (aCons (mOp addD (mCall lenD (aCons (mVar 1) (aNil))) (mC (.int 1))) (aNil))) (gNm 3) (sIf (mT (mOp notInAD (mOp modD (mCall intD (aCons (mOp addD (mVar 2) (mVar 3)) (aNil))) (mVar 0)) (mVar 1))) (sRet (mOp modD (mCall intD (aCons (mOp addD (mVar 2) (mVar 3)) (aNil))) (mVar 0))) (sNil))) (sRet (mVar 2)))
def u__law_vast : MD := mkD 2 4 (sSeq (sSet 2 (mC (.int 0))) (sSeq (sFor (rngI (aCons (mC (.int 4)) (aNil))) (gNm 3) (sSet 2 (mOp addD (mOp mulD (mVar 2) (mC (.int 1000003))) (mCallD u__law_dip (aCons (mVar 0) (aCons (mC (.int 1000003)) (aNil))))))) (sRet (mOp modD (mCall intD (aCons (mVar 2) (aNil))) (mVar 1)))))
def u__law_place : MD := mkD 3 4 (sSeq (sSet 3 (mCallD u__law_dip (aCons (mVar 0) (aCons (mC (.int 8)) (aNil))))) (sSeq (sIf (mT (mOp eqD (mVar 3) (mC (.int 0)))) (sRet (mOp idxD (mLst (aCons (mC (.int 0)) (aCons (mOp subD (mVar 1) (mC (.int 1))) (aNil)))) (mCallD u__law_dip (aCons (mVar 0) (aCons (mC (.int 2)) (aNil)))))) (sNil)) (sSeq (sIf (tAndZ (mT (mOp ltD (mVar 3) (mC (.int 4)))) (mT (mOp neD (mVar 2) (mLst (aNil))))) (sRet (mOp modD (mCall intD (aCons (mOp subD (mOp addD (mCallD u__law_of (aCons (mVar 0) (aCons (mVar 2) (aNil)))) (mCallD u__law_dip (aCons (mVar 0) (aCons (mC (.int 5)) (aNil))))) (mC (.int 2))) (aNil))) (mVar 1))) (sNil)) (sRet (mIf (mT (mOp ltD (mVar 1) (mC (.int 1000)))) (mCallD u__law_dip (aCons (mVar 0) (aCons (mVar 1) (aNil)))) (mCallD u__law_vast (aCons (mVar 0) (aCons (mVar 1) (aNil)))))))))
def u__law_band : MD := mkD 4 14 (sSeq (sPar [4, 5, 6] (xVal (mCall min2D (aCons (mOp addD (mC (.int 1)) (mCallD u__law_dip (aCons (mVar 0) (aCons (mVar 2) (aNil))))) (aCons (mVar 1) (aNil)))) (xOwn (mLst (aNil)) (xOwn (mLst (aNil)) (xNil))))) (sSeq (sPar [7, 8] (xVal (mCallD u__law_titles (aCons (mVar 0) (aCons (mVar 4) (aNil)))) (xVal (mCallD u__law_yards (aCons (mVar 0) (aCons (mVar 4) (aNil)))) (xNil)))) (sSeq (sFor (rngI (aCons (mVar 4) (aNil))) (gNm 9) (sSeq (sPar [10, 11] (xOwn (mLst (aNil)) (xVal (mBor 5 (mOp subD (mOp subD (mVar 1) (mCall lenD (aCons (mVar 5) (aNil)))) (mOp subD (mOp subD (mVar 4) (mC (.int 1))) (mVar 9)))) (xNil)))) (sSeq (sFor (rngI (aCons (mCall min2D (aCons (mOp addD (mC (.int 1)) (mCallD u__law_dip (aCons (mVar 0) (aCons (mVar 3) (aNil))))) (aCons (mVar 11) (aNil)))) (aNil))) (gNm 12) (sSeq (sSet 13 (mBor 5 (mCallD u__law_free (aCons (mVar 1) (aCons (mVar 5) (aCons (mCallD u__law_place (aCons (mVar 0) (aCons (mVar 1) (aCons (mVar 5) (aNil))))) (aNil))))))) (sSeq (sApp 10 (mVar 13)) (sApp 5 (mVar 13))))) (sFrz 10 (sApp 6 (mTup (aCons (mOp idxD (mVar 7) (mVar 9)) (aCons (mOp idxD (mVar 8) (mVar 9)) (aCons (mCall tupleD (aCons (mCallD (fun ds s => lft (sortedD ds) s) (aCons (mVar 10) (aNil))) (aNil))) (aNil)))))))))) (sFrz 6 (sRet (mCall tupleD (aCons (mVar 6) (aNil))))))))
def u__law_build : MD := mkD 4 4 (sRet (mOp addAll (mOp addAll (mLst (aCons (mVar 1) (aNil))) (mCallD u__law_rule (aCons (mVar 0) (aNil)))) (mLst (aCons (mCallD u__law_band (aCons (mVar 0) (aCons (mVar 1) (aCons (mVar 2) (aCons (mVar 3) (aNil)))))) (aNil)))))
def u__law_width : MD := mkD 1 2 (sSeq (sSet 1 (mCallD u__law_dip (aCons (mVar 0) (aCons (mC (.int 6)) (aNil))))) (sSeq (sIf (mT (mOp ltD (mVar 1) (mC (.int 2)))) (sRet (mOp addD (mC (.int 1)) (mCallD u__law_dip (aCons (mVar 0) (aCons (mC (.int 30)) (aNil)))))) (sNil)) (sSeq (sIf (mT (mOp ltD (mVar 1) (mC (.int 4)))) (sRet (mOp idxD (mLst (aCons (mOp powD (mC (.int 10)) (mC (.int 18))) (aCons (mOp subD (mOp powD (mC (.int 10)) (mC (.int 18))) (mC (.int 1))) (aNil)))) (mOp subD (mVar 1) (mC (.int 2))))) (sNil)) (sRet (mIf (mT (mOp eqD (mVar 1) (mC (.int 4)))) (mOp addD (mC (.int 1)) (mCallD u__law_dip (aCons (mVar 0) (aCons (mOp powD (mC (.int 10)) (mC (.int 5))) (aNil))))) (mOp addD (mC (.int 1)) (mCallD u__law_vast (aCons (mVar 0) (aCons (mOp powD (mC (.int 10)) (mC (.int 18))) (aNil))))))))))
def u_is_integer : MD := mkD 3 3 (sRet (mAnd (mCall (isiD isiC isiT) (aCons (mVar 0) (aCons (mC (.opq (.ty "int"))) (aNil)))) (mAnd (mUn notD (mCall (isiD isiC isiT) (aCons (mVar 0) (aCons (mC (.opq (.ty "bool"))) (aNil))))) (mChain leD leD (mVar 1) (mVar 0) (mVar 2)))))
def u_check_number : MD := mkD 2 2 (sIf (tNotZ (mT (mCallD u_is_integer (aCons (mVar 0) (aCons (mC (.int 1)) (aCons (mVar 1) (aNil))))))) (sDie) (sNil))
def u_is_name : MD := mkD 1 2 (sSeq (sIf (tOrZ (tNotZ (mT (mCall (isiD isiC isiT) (aCons (mVar 0) (aCons (mC (.opq (.ty "str"))) (aNil)))))) (tNotZ (mT (mChain leD leD (mC (.int 1)) (mCall lenD (aCons (mVar 0) (aNil))) (mC (.int 8)))))) (sRet (mC (.bl false))) (sNil)) (sRet (mAnd (mOp inAD (mOp idxD (mVar 0) (mC (.int 0))) (mC (.str "abcdefghijklmnopqrstuvwxyz"))) (mCall allD (aCons (mLc [1] (seqI (mVar 0)) (cNm 1) (yesT) (mOp inAD (mVar 1) (mOp addD (mC (.str "abcdefghijklmnopqrstuvwxyz")) (mC (.str "0123456789"))))) (aNil))))))
def u_are_points : MD := mkD 3 6 (sSeq (sIf (tOrZ (tNotZ (mT (mCall (isiD isiC isiT) (aCons (mVar 0) (aCons (mC (.opq (.ty "tuple"))) (aNil)))))) (tNotZ (mT (mChain leD leD (mC (.int 1)) (mCall lenD (aCons (mVar 0) (aNil))) (mVar 2))))) (sRet (mC (.bl false))) (sNil)) (sSeq (sIf (tNotZ (mT (mCall allD (aCons (mLc [3] (seqI (mVar 0)) (cNm 3) (yesT) (mCallD u_is_integer (aCons (mVar 3) (aCons (mC (.int 0)) (aCons (mOp subD (mVar 1) (mC (.int 1))) (aNil)))))) (aNil))))) (sRet (mC (.bl false))) (sNil)) (sRet (mCall allD (aCons (mLc [4, 5] (zipI (aCons (mVar 0) (aCons (mSl slD (mVar 0) (oSome (mC (.int 1))) (oNone)) (aNil)))) (cTup [4, 5]) (yesT) (mOp ltD (mVar 4) (mVar 5))) (aNil))))))
def u_is_host : MD := mkD 3 9 (sSeq (sIf (tOrZ (tNotZ (mT (mCall (isiD isiC isiT) (aCons (mVar 0) (aCons (mC (.opq (.ty "tuple"))) (aNil)))))) (tOrZ (mT (mOp neD (mCall lenD (aCons (mVar 0) (aNil))) (mC (.int 3)))) (tOrZ (tNotZ (mT (mCallD u_is_name (aCons (mOp idxD (mVar 0) (mC (.int 0))) (aNil))))) (tNotZ (mT (mCallD u_is_name (aCons (mOp idxD (mVar 0) (mC (.int 1))) (aNil)))))))) (sRet (mC (.bl false))) (sNil)) (sSeq (sAsg (gSeq (gsCons (gNm 3) (gsCons (gNm 4) (gsCons (gNm 5) (gsNil))))) (mVar 0)) (sSeq (sIf (tOrZ (mT (mOp inAD (mVar 3) (mLc [6] (seqI (mVar 2)) (cNm 6) (yesT) (mOp idxD (mVar 6) (mC (.int 0)))))) (tNotZ (mT (mCallD u_are_points (aCons (mVar 5) (aCons (mVar 1) (aCons (mC (.int 16)) (aNil)))))))) (sRet (mC (.bl false))) (sNil)) (sSeq (sSet 7 (mDc2 [6, 8] (seqI (mVar 2)) (cNm 6) (yesT) (seqI (mOp idxD (mVar 6) (mC (.int 2)))) [8] (cNm 8) (yesT) (mVar 8) (mC (.bl true)))) (sRet (mUn notD (mCall anyD (aCons (mLc [8] (seqI (mVar 5)) (cNm 8) (yesT) (mOp inDic (mVar 8) (mVar 7))) (aNil)))))))))
def u_check_hosts : MD := mkD 2 4 (sSeq (sIf (tOrZ (tNotZ (mT (mCall (isiD isiC isiT) (aCons (mVar 0) (aCons (mC (.opq (.ty "tuple"))) (aNil)))))) (mT (mOp eqD (mCall lenD (aCons (mVar 0) (aNil))) (mC (.int 0))))) (sDie) (sNil)) (sFor (enum2I (aCons (mVar 0) (aNil))) (gSeq (gsCons (gNm 2) (gsCons (gNm 3) (gsNil)))) (sIf (tOrZ (mT (mOp eqD (mVar 2) (mC (.int 12)))) (tNotZ (mT (mCallD u_is_host (aCons (mVar 3) (aCons (mVar 1) (aCons (mSl slD (mVar 0) (oNone) (oSome (mVar 2))) (aNil)))))))) (sDie) (sNil))))
def u_Ring___init__ : MI0 := mkI 7 12 (nSeq (nExpr (mCallD u_check_number (aCons (mVar 1) (aCons (mC (.int 1000000000000000000)) (aNil))))) (nSeq (nExpr (mCallD u_check_number (aCons (mVar 2) (aCons (mC (.int 5)) (aNil))))) (nSeq (nNot (tOrZ (tNotZ (mT (mCall (isiD isiC isiT) (aCons (mVar 3) (aCons (mC (.opq (.ty "str"))) (aNil)))))) (mT (mOp notInAD (mVar 3) (mC (.tup ((["hosts", "racks"] : List PySem.Str).map D.str))))))) (nSeq (nExpr (mCallD u_check_number (aCons (mVar 4) (aCons (mVar 2) (aNil))))) (nSeq (nExpr (mCallD u_check_number (aCons (mVar 5) (aCons (mVar 2) (aNil))))) (nSeq (nNot (tOrZ (tNotZ (mT (mCall (isiD isiC isiT) (aCons (mVar 6) (aCons (mC (.opq (.ty "str"))) (aNil)))))) (mT (mOp notInAD (mVar 6) (mC (.tup ((["plain", "with"] : List PySem.Str).map D.str))))))) (nSeq (nExpr (mCallD u_check_hosts (aCons (mVar 7) (aCons (mVar 1) (aNil))))) (nSeq (nFld "numbers" (mTup (aCons (mVar 1) (aCons (mVar 2) (aCons (mVar 4) (aCons (mVar 5) (aNil))))))) (nSeq (nFld "words" (mTup (aCons (mVar 3) (aCons (mVar 6) (aNil))))) (nSeq (nFld "held_hosts" (mVar 7)) (nSeq (nFld "racks" (mDc [8, 9, 10] (seqI (mVar 7)) (cTup [8, 9, 10]) (yesT) (mVar 8) (mVar 9))) (nSeq (nFld "marks" (mCallD (fun ds s => lft (sortedD ds) s) (aCons (mLc2 [8, 9, 10, 11] (seqI (mVar 7)) (cTup [8, 9, 10]) (yesT) (seqI (mVar 10)) [11] (cNm 11) (yesT) (mTup (aCons (mVar 11) (aCons (mVar 8) (aNil))))) (aNil)))) (nNil)))))))))))))
def u_written : MD := mkD 1 2 (sSeq (sIf (tOrZ (tNotZ (mT (mChain leD leD (mC (.int 1)) (mCall lenD (aCons (mVar 0) (aNil))) (mC (.int 19))))) (tNotZ (mT (mCall allD (aCons (mLc [1] (seqI (mVar 0)) (cNm 1) (yesT) (mOp inAD (mVar 1) (mC (.str "0123456789")))) (aNil)))))) (sRet (mC .non)) (sNil)) (sRet (mIf (tAndZ (mT (mOp eqD (mOp idxD (mVar 0) (mC (.int 0))) (mC (.str "0")))) (mT (mOp gtD (mCall lenD (aCons (mVar 0) (aNil))) (mC (.int 1))))) (mC .non) (mCall intD (aCons (mVar 0) (aNil))))))
def u_host_of : MD := mkD 1 3 (sSeq (sSet 1 (mSplit (mVar 0) (mC (.str " ")))) (sSeq (sIf (tOrZ (mT (mOp neD (mOp idxD (mVar 1) (mC (.int 0))) (mC (.str "host")))) (mT (mOp ltD (mCall lenD (aCons (mVar 1) (aNil))) (mC (.int 4))))) (sRet (mC .non)) (sNil)) (sRet (mTup (aCons (mOp idxD (mVar 1) (mC (.int 1))) (aCons (mOp idxD (mVar 1) (mC (.int 2))) (aCons (mCall tupleD (aCons (mLc [2] (seqI (mSl slL (mVar 1) (oSome (mC (.int 3))) (oNone))) (cNm 2) (yesT) (mCallD u_written (aCons (mVar 2) (aNil)))) (aNil))) (aNil))))))))
def u_Ring_read : MD := mkD 2 15 (sSeq (sIf (tNotZ (mT (mCall (isiD isiC isiT) (aCons (mVar 1) (aCons (mC (.opq (.ty "str"))) (aNil)))))) (sDie) (sNil)) (sSeq (sAsg (gStar 1 2 (gsCons (gNm 2) (gsCons (gNm 3) (gsNil)))) (mSplit (mVar 1) (mC (.str "\n")))) (sSeq (sSet 4 (mSplit (mVar 2) (mC (.str " ")))) (sSeq (sSet 5 (mCall tupleD (aCons (mLc [6] (seqI (mVar 3)) (cNm 6) (yesT) (mCallD u_host_of (aCons (mVar 6) (aNil)))) (aNil)))) (sSeq (sIf (tOrZ (mT (mOp neD (mCall lenD (aCons (mVar 4) (aNil))) (mC (.int 7)))) (tOrZ (mT (mOp neD (mOp idxD (mVar 4) (mC (.int 0))) (mC (.str "ring")))) (mT (mOp inAD (mC .non) (mVar 5))))) (sDie) (sNil)) (sSeq (sAsg (gSeq (gsCons (gNm 7) (gsCons (gNm 8) (gsCons (gNm 9) (gsCons (gNm 10) (gsCons (gNm 11) (gsCons (gNm 12) (gsCons (gNm 13) (gsNil))))))))) (mVar 4)) (sSeq (sSet 14 (mCls "Ring" 0 (mdMake "Ring" u_Ring___init__) (aCons (mCallD u_written (aCons (mVar 8) (aNil))) (aCons (mCallD u_written (aCons (mVar 9) (aNil))) (aCons (mVar 10) (aCons (mCallD u_written (aCons (mVar 11) (aNil))) (aCons (mCallD u_written (aCons (mVar 12) (aNil))) (aCons (mVar 13) (aCons (mVar 5) (aNil)))))))))) (sRet (mVar 14)))))))))
def u__law_sheet : MD := mkD 1 13 (sSeq (sAsg (gSeq (gsCons (gNm 1) (gsCons (gNm 2) (gsCons (gNm 3) (gsCons (gNm 4) (gsCons (gNm 5) (gsCons (gNm 6) (gsCons (gNm 7) (gsNil))))))))) (mVar 0)) (sSeq (sOwn 8 (mLst (aCons (mJoin (mC (.str " ")) (mLst (aCons (mC (.str "ring")) (aCons (mCall strD (aCons (mVar 1) (aNil))) (aCons (mCall strD (aCons (mVar 2) (aNil))) (aCons (mVar 3) (aCons (mCall strD (aCons (mVar 4) (aNil))) (aCons (mCall strD (aCons (mVar 5) (aNil))) (aCons (mVar 6) (aNil)))))))))) (aNil)))) (sSeq (sFor (seqI (mVar 7)) (gSeq (gsCons (gNm 9) (gsCons (gNm 10) (gsCons (gNm 11) (gsNil))))) (sApp 8 (mJoin (mC (.str " ")) (mOp addAll (mLst (aCons (mC (.str "host")) (aCons (mVar 9) (aCons (mVar 10) (aNil))))) (mLc [12] (seqI (mVar 11)) (cNm 12) (yesT) (mCall strD (aCons (mVar 12) (aNil)))))))) (sFrz 8 (sRet (mJoin (mC (.str "\n")) (mVar 8)))))))
def u__law_made : MD := mkD 2 10 (sSeq (sSet 2 (mCallD u__law_dip (aCons (mVar 0) (aCons (mC (.int 3)) (aNil))))) (sSeq (sAsg (gSeq (gsCons (gNm 3) (gsCons (gNm 4) (gsCons (gNm 5) (gsCons (gNm 6) (gsCons (gNm 7) (gsCons (gNm 8) (gsCons (gNm 9) (gsNil))))))))) (mVar 1)) (sSeq (sIf (mT (mOp eqD (mVar 2) (mC (.int 0)))) (sRet (mCallD (mdMake "Ring" u_Ring___init__) (aCons (mVar 3) (aCons (mVar 4) (aCons (mVar 5) (aCons (mVar 6) (aCons (mVar 7) (aCons (mVar 8) (aCons (mVar 9) (aNil)))))))))) (sNil)) (sSeq (sIf (mT (mOp eqD (mVar 2) (mC (.int 1)))) (sRet (mCallD (mdPick [6, 5, 4, 3, 2, 1, 0] (mdMake "Ring" u_Ring___init__)) (aCons (mVar 9) (aCons (mVar 8) (aCons (mVar 7) (aCons (mVar 6) (aCons (mVar 5) (aCons (mVar 4) (aCons (mVar 3) (aNil)))))))))) (sNil)) (sRet (mCm "Ring" u_Ring_read (mC (.ty "Ring")) (aCons (mCallD u__law_sheet (aCons (mVar 1) (aNil))) (aNil))))))))
def u_Ring_points : MD := mkD 1 1 (sRet (mOp idxD (mFld "Ring" "numbers" (mVar 0)) (mC (.int 0))))
def u_Ring_factor : MD := mkD 1 1 (sRet (mOp idxD (mFld "Ring" "numbers" (mVar 0)) (mC (.int 1))))
def u_Ring_spread : MD := mkD 1 1 (sRet (mOp idxD (mFld "Ring" "words" (mVar 0)) (mC (.int 0))))
def u_Ring_write : MD := mkD 1 1 (sRet (mOp idxD (mFld "Ring" "numbers" (mVar 0)) (mC (.int 2))))
def u_Ring_read_number : MD := mkD 1 1 (sRet (mOp idxD (mFld "Ring" "numbers" (mVar 0)) (mC (.int 3))))
def u_Ring_pending : MD := mkD 1 1 (sRet (mOp idxD (mFld "Ring" "words" (mVar 0)) (mC (.int 1))))
def u_Ring_hosts : MD := mkD 1 1 (sRet (mFld "Ring" "held_hosts" (mVar 0)))
def u_Ring_names : MD := mkD 1 1 (sRet (mCall tupleD (aCons (mCallD (fun ds s => lft (sortedDicD ds) s) (aCons (mFld "Ring" "racks" (mVar 0)) (aNil))) (aNil))))
def u_Ring___len__ : MD := mkD 1 1 (sRet (mCall lenD (aCons (mFld "Ring" "held_hosts" (mVar 0)) (aNil))))
def u_Ring___str__ : MD := mkD 1 11 (sSeq (sAsg (gSeq (gsCons (gNm 1) (gsCons (gNm 2) (gsCons (gNm 3) (gsCons (gNm 4) (gsNil)))))) (mFld "Ring" "numbers" (mVar 0))) (sSeq (sSet 5 (mLst (aCons (mC (.str "ring")) (aCons (mCall strD (aCons (mVar 1) (aNil))) (aCons (mCall strD (aCons (mVar 2) (aNil))) (aCons (mProp "Ring" u_Ring_spread (mVar 0)) (aCons (mCall strD (aCons (mVar 3) (aNil))) (aCons (mCall strD (aCons (mVar 4) (aNil))) (aCons (mProp "Ring" u_Ring_pending (mVar 0)) (aNil)))))))))) (sSeq (sOwn 6 (mLc [8, 9, 10] (seqI (mFld "Ring" "held_hosts" (mVar 0))) (cTup [8, 9, 10]) (yesT) (mJoin (mC (.str " ")) (mLst (aCons (mC (.str "host")) (aCons (mVar 8) (aCons (mVar 9) (aStar (mLc [7] (seqI (mVar 10)) (cNm 7) (yesT) (mCall strD (aCons (mVar 7) (aNil)))) (aNil))))))))) (sFrz 6 (sRet (mJoin (mC (.str "\n")) (mLst (aCons (mJoin (mC (.str " ")) (mVar 5)) (aStar (mVar 6) (aNil))))))))))
def u_Ring___bool__ : MD := mkD 1 1 (sRet (mC (.bl true)))
def u_Ring___contains__ : MD := mkD 2 2 (sRet (mAnd (mCall (isiD isiC isiT) (aCons (mVar 1) (aCons (mC (.opq (.ty "str"))) (aNil)))) (mOp inDic (mVar 1) (mFld "Ring" "racks" (mVar 0)))))
def u_check_host : MD := mkD 2 2 (sIf (mT (mOpM (ownNotIn "Ring" u_Ring___contains__) (mVar 1) (mVar 0))) (sDie) (sNil))
def u_Ring___getitem__ : MD := mkD 2 3 (sSeq (sExpr (mCallD u_check_host (aCons (mVar 0) (aCons (mVar 1) (aNil))))) (sRet (mOp idxD (mLc [2] (seqI (mFld "Ring" "held_hosts" (mVar 0))) (cNm 2) (mT (mOp eqD (mOp idxD (mVar 2) (mC (.int 0))) (mVar 1))) (mSl slD (mVar 2) (oSome (mC (.int 1))) (oNone))) (mC (.int 0)))))
def u__law_answer : MD := mkD 2 6 (sSeq (sSet 2 (mLst (aCons (mProp "Ring" u_Ring_points (mVar 0)) (aCons (mProp "Ring" u_Ring_factor (mVar 0)) (aCons (mProp "Ring" u_Ring_spread (mVar 0)) (aCons (mProp "Ring" u_Ring_write (mVar 0)) (aCons (mProp "Ring" u_Ring_read_number (mVar 0)) (aCons (mProp "Ring" u_Ring_pending (mVar 0)) (aCons (mProp "Ring" u_Ring_hosts (mVar 0)) (aCons (mProp "Ring" u_Ring_names (mVar 0)) (aNil))))))))))) (sSeq (sSet 2 (mOp addAll (mVar 2) (mLst (aCons (mCallD (ownD "Ring" u_Ring___len__ okLen) (aCons (mVar 0) (aNil))) (aCons (mCallD (ownD "Ring" u_Ring___str__ okStr) (aCons (mVar 0) (aNil))) (aCons (mCallD (ownD "Ring" u_Ring___bool__ okBool) (aCons (mVar 0) (aNil))) (aNil))))))) (sRet (mCallD reprM (aCons (mOp addAll (mVar 2) (mLst (aCons (mLc [3, 4, 5] (seqI (mVar 1)) (cTup [3, 4, 5]) (yesT) (mOpM (ownSub "Ring" u_Ring___getitem__) (mVar 0) (mVar 3))) (aNil)))) (aNil))))))
def u__law_expected : MD := mkD 1 7 (sSeq (sSet 1 (mOp idxD (mVar 0) (mC (.int 6)))) (sSeq (sSet 2 (mCallD (fun ds s => lft (sortedD ds) s) (aCons (mLc [3, 4, 5] (seqI (mVar 1)) (cTup [3, 4, 5]) (yesT) (mVar 3)) (aNil)))) (sSeq (sSet 6 (mOp addAll (mSl slL (mVar 0) (oNone) (oSome (mC (.int 6)))) (mLst (aCons (mVar 1) (aCons (mCall tupleD (aCons (mVar 2) (aNil))) (aCons (mCall lenD (aCons (mVar 1) (aNil))) (aCons (mCallD u__law_sheet (aCons (mVar 0) (aNil))) (aCons (mC (.bl true)) (aNil))))))))) (sRet (mCallD reprM (aCons (mOp addAll (mVar 6) (mLst (aCons (mLc [3, 4, 5] (seqI (mVar 1)) (cTup [3, 4, 5]) (yesT) (mTup (aCons (mVar 4) (aCons (mVar 5) (aNil))))) (aNil)))) (aNil)))))))
def u__law_known_right : MD := mkD 2 7 (sSeq (sOwn 2 (mLc [3, 4, 5] (seqI (mVar 1)) (cTup [3, 4, 5]) (yesT) (mVar 3))) (sSeq (sFrz 2 (sFor (seqI (mOp addAll (mOp addAll (mOp addAll (mVar 2) (mLc [3] (seqI (mVar 2)) (cNm 3) (yesT) (mSl slD (mVar 3) (oNone) (oSome (mUn negD (mC (.int 1))))))) (mLc [3] (seqI (mVar 2)) (cNm 3) (yesT) (mOp addD (mVar 3) (mC (.str "0"))))) (mLc [3, 4, 5] (seqI (mVar 1)) (cTup [3, 4, 5]) (yesT) (mVar 4)))) (gNm 6) (sIf (mT (mOp neD (mCallD reprM (aCons (mOpM (ownIn "Ring" u_Ring___contains__) (mVar 6) (mVar 0)) (aNil))) (mCallD reprM (aCons (mOp inAD (mVar 6) (mVar 2)) (aNil))))) (sRet (mC (.bl false))) (sNil)))) (sRet (mC (.bl true)))))
def u__law_filled : MD := mkF 2 5 (sSeq (sSet 2 (mIf (mT (mOp ltD (mVar 1) (mCall lenD (aCons (mVar 0) (aNil))))) (mOp idxD (mVar 0) (mVar 1)) (mC (.int 0)))) (sSeq (sSet 3 (mOp addD (mC (.int 90007)) (mOp mulD (mC (.int 4409)) (mVar 1)))) (sSeq (sFor (seqI (mSl slL (mVar 0) (oNone) (oSome (mC (.int 6))))) (gNm 4) (sSet 3 (mOp modD (mCall intD (aCons (mOp addD (mOp addD (mOp mulD (mVar 3) (mC (.int 33347))) (mOp mulD (mVar 4) (mC (.int 11)))) (mC (.int 29))) (aNil))) (mC (.int 2147483543))))) (sRto (mLst (aCons (mIf (tOrZ (mT (mOp ltD (mVar 2) (mC (.int 0)))) (mT (mOp geD (mVar 2) (mOp powD (mC (.int 10)) (mC (.int 18)))))) (mCall absD (aCons (mVar 2) (aNil))) (mC (.int 0))) (aCons (mOp modD (mCall intD (aCons (mOp addD (mOp addD (mOp mulD (mVar 3) (mC (.int 71))) (mOp mulD (mVar 2) (mVar 2))) (mOp mulD (mC (.int 13)) (mVar 1))) (aNil))) (mC (.int 2147483543))) (aCons (mC (.int 0)) (aNil)))))))))
end C
end Z

set_option Elab.async false
set_option linter.all false
set_option maxRecDepth 100000
namespace Z
namespace C
open PySem PySem.Spec PyProof.Rows L2
/-! ### the keg -/
def Ks (s : S) : Prop := ∀ d ∈ s, noC d = true
structure KG (s : S) (n B : Nat) : Prop where
  all : Ks s
  at_ : ∃ a b c : Int, s[n]? = some (.lst [.int a, .int b, .int c]) ∧ 0 ≤ b ∧ b < 2147483648 ∧ 0 ≤ c ∧ c ≤ B
/-- what a call with the keg tells: r with P r; at most k steps of the keg -/
def Dr (md : MD) (ds : List D) (s : S) (n B k : Nat) (P : D → Prop) : Prop := ∃ r s', md ds s = some (r, s') ∧ KG s' n (B + k) ∧ s'.length = s.length ∧ P r
theorem log_le {x : Int} {k : Nat} (h : x.natAbs < 2 ^ (k + 1)) : x.natAbs.log2 ≤ k := by
  by_cases h0 : x.natAbs = 0
  · rw [h0]; simp
  · have := (Nat.log2_lt h0).mpr h
    omega
theorem cmul_ok {i j : Int} (h1 : i.natAbs < 2 ^ 100) (h2 : j.natAbs < 2 ^ 100) : CMulZ i j := by
  unfold CMulZ
  have a := log_le (k := 99) h1
  have b := log_le (k := 99) h2
  omega
theorem kg_set {s : S} {n B : Nat} {a b c : Int} (h : Ks s) (hn : n < s.length) (hb : 0 ≤ b) (hb2 : b < 2147483648) (hc : 0 ≤ c) (hc2 : c ≤ B) : KG (s.set n (.lst [.int a, .int b, .int c])) n B :=
  ⟨fun d hd => by
    rcases List.mem_or_eq_of_mem_set hd with h1 | h1
    · exact h d h1
    · rw [h1]; rfl, a, b, c, by rw [List.getElem?_set_self hn], hb, hb2, hc, hc2⟩
theorem at_mem {ds : List D} {i : Int} (h0 : 0 ≤ i) (h1 : i < ds.length) : ∃ d, atI ds i = some d ∧ d ∈ ds := by
  have hj : i.toNat < ds.length := by omega
  refine ⟨ds[i.toNat], ?_, List.getElem_mem hj⟩
  have e1 : (i.toNat : Int) = i := by omega
  simp [atI, ixN, h0, h1, hj]
theorem KG.le {s : S} {n B B' : Nat} (h : KG s n B) (hb : B ≤ B') : KG s n B' := ⟨h.all, let ⟨a, b, c, q, b0, b1, c0, c1⟩ := h.at_; ⟨a, b, c, q, b0, b1, c0, by omega⟩⟩
/-! ### names -/
abbrev sL : Str := "abcdefghijklmnopqrstuvwxyz"
abbrev sD : Str := "0123456789"
def cL : List Nat := [97, 98, 99, 100, 101, 102, 103, 104, 105, 106, 107, 108, 109, 110, 111, 112, 113, 114, 115, 116, 117, 118, 119, 120, 121, 122]
def cD : List Nat := [48, 49, 50, 51, 52, 53, 54, 55, 56, 57]
theorem sL_cps : sL.cps.toList = cL := by decide +kernel
theorem sD_cps : sD.cps.toList = cD := by decide +kernel
theorem cpsA (a b : Str) : (a ++ b).cps.toList = a.cps.toList ++ b.cps.toList := by
  show (a.cps ++ b.cps).toList = _
  simp
theorem sLD_cps : (sL ++ sD).cps.toList = cL ++ cD := by
  rw [cpsA, sL_cps, sD_cps]
theorem len_cps (x : Str) : x.length = x.cps.toList.length := by simp [Str.length]
/-- the codes of a name -/
def NmC (l : List Nat) : Prop := ∃ c cs, l = c :: cs ∧ c ∈ cL ∧ (∀ d ∈ cs, d ∈ cL ++ cD) ∧ cs.length ≤ 7
def Nm (x : Str) : Prop := NmC x.cps.toList
instance (l : List Nat) : Decidable (NmC l) := match l with
  | [] => isFalse fun ⟨_, _, e, _⟩ => by cases e
  | c :: cs => if h : c ∈ cL ∧ (∀ d ∈ cs, d ∈ cL ++ cD) ∧ cs.length ≤ 7 then isTrue ⟨c, cs, rfl, h⟩ else isFalse fun ⟨c', cs', e, q⟩ => h (by cases e; exact q)
instance (x : Str) : Decidable (Nm x) := inferInstanceAs (Decidable (NmC _))
theorem Dr.le {md : MD} {ds : List D} {s : S} {n B k k' : Nat} {P P' : D → Prop} (h : Dr md ds s n B k P) (hk : k ≤ k') (hp : ∀ r, P r → P' r) : Dr md ds s n B k' P' := let ⟨r, s', e, a, b, c⟩ := h; ⟨r, s', e, a.le (by omega), b, hp r c⟩
/-- no name that is drawn is "newer" -/
def NN (x : Str) : Prop := x.cps.toList.length ≠ 5 ∨ x.cps.toList.getLast? ≠ some 114
instance (x : Str) : Decidable (NN x) := inferInstanceAs (Decidable (_ ∨ _))
end C
end Z

set_option Elab.async false
set_option linter.all false
set_option maxRecDepth 100000
namespace Z
namespace C
open PySem PySem.Spec PyProof.Rows L2
theorem ks_noC {s : S} (h : Ks s) : s.all noC = true := List.all_eq_true.mpr fun d hd => h d hd
theorem nm_len {x : Str} (h : Nm x) : 1 ≤ x.length ∧ x.length ≤ 8 := by
  obtain ⟨c, cs, e, h1, h2, h3⟩ := h
  rw [len_cps, e]
  simp
  omega
def spL : List Str := ["a", "b", "a1", "a2", "zz9", "q", "r1", "x", "y", "z", "h0", "h1"]
theorem spL_nd : spL.Nodup := by decide +kernel
/-- one of the spare names is free -/
theorem spare_free {fs : List Str} (h : fs.length < 12) (t : Str) : ∃ y, ((t :: spL).filter fun x => !decide (x ∈ fs)).head? = some y ∧ (y = t ∨ y ∈ spL) ∧ y ∉ fs := by
  have ex : ∃ y ∈ spL, y ∉ fs := by
    refine Classical.byContradiction fun hn => ?_
    have sub : ∀ y ∈ spL, y ∈ fs := fun y hy => Classical.byContradiction fun z => hn ⟨y, hy, z⟩
    have := spL_nd.length_le_of_subset sub
    have l : spL.length = 12 := rfl
    omega
  obtain ⟨z, hz, hz2⟩ := ex
  have hm : z ∈ (t :: spL).filter fun x => !decide (x ∈ fs) := by
    rw [List.mem_filter]
    exact ⟨List.mem_cons_of_mem _ hz, by simp [hz2]⟩
  cases hl : (t :: spL).filter fun x => !decide (x ∈ fs) with
  | nil => rw [hl] at hm; cases hm
  | cons y r =>
    have hy : y ∈ (t :: spL).filter fun x => !decide (x ∈ fs) := by rw [hl]; simp
    rw [List.mem_filter] at hy
    refine ⟨y, rfl, ?_, by simpa using hy.2⟩
    rcases List.mem_cons.mp hy.1 with e | e
    · exact .inl e
    · exact .inr e
theorem filter_strs (p : Str → Bool) (q : D → Bool) (h : ∀ x, q (.str x) = p x) : ∀ xs : List Str, (xs.map D.str).filter q = (xs.filter p).map D.str
  | [] => rfl
  | x :: r => by
    rw [List.map_cons, List.filter_cons, List.filter_cons, h x, filter_strs p q h r]
    split <;> simp
theorem free_ok {s : S} {v0 v1 v4 : Sl} {fs : List Str} {t : Str} (hs : s.all noC = true) (h : fs.length < 12) : ∃ y, mBor 3 (mOp idxD (mLc [6] (seqI (mOp addAll (mLst (aCons (mVar 5) (aNil))) (mVar 2))) (cNm 6) (mT (mOp notInAD (mVar 6) (mVar 3))) (mVar 6)) (mC (.int 0))) [v0, v1, .val (.lst (spL.map .str)), .own (.lst (fs.map .str)), v4, .val (.str t), .unb] s = some (.str y, s) ∧ (y = t ∨ y ∈ spL) ∧ y ∉ fs := by
  obtain ⟨y, h1, h2, h3⟩ := spare_free h t
  refine ⟨y, ?_, h2, h3⟩
  have hl := lc_pure (mc := cNm 6) (mt := mT (mOp notInAD (mVar 6) (mVar 3))) (me := mVar 6) (e := [v0, v1, .val (.lst (spL.map .str)), .val (.lst (fs.map .str)), v4, .val (.str t), .unb]) (s := s)
    (fun d => [v0, v1, .val (.lst (spL.map .str)), .val (.lst (fs.map .str)), v4, .val (.str t), .val d]) (fun d => match d with | .str x => !decide (x ∈ fs) | _ => false) id ((t :: spL).map .str) (fun d hd => by
      obtain ⟨x, _, rfl⟩ := List.mem_map.mp hd
      refine ⟨rfl, ?_, fun _ => rfl⟩
      simp [mT, mOp, mVar, bnd, lft, notInAD, inA_str, truD])
  have hf := filter_strs (fun x => !decide (x ∈ fs)) (fun d => match d with | .str x => !decide (x ∈ fs) | _ => false) (fun x => rfl) (t :: spL)
  have hf : List.filter (fun d => match d with | .str x => !decide (x ∈ fs) | _ => false) ((t :: spL).map D.str) = ((t :: spL).filter fun x => !decide (x ∈ fs)).map D.str := hf
  rw [hf] at hl
  obtain ⟨r, hr⟩ : ∃ r, (t :: spL).filter (fun x => !decide (x ∈ fs)) = y :: r := by
    cases e : (t :: spL).filter (fun x => !decide (x ∈ fs)) with
    | nil => rw [e] at h1; cases h1
    | cons a r => rw [e] at h1; cases h1; exact ⟨r, rfl⟩
  rw [hr] at hl
  have hlen : r.length + 1 ≤ 13 := by
    have := List.length_filter_le (fun x => !decide (x ∈ fs)) (t :: spL)
    rw [hr] at this
    have l : spL.length = 12 := rfl
    simp only [List.length_cons, l] at this
    omega
  have q1 : r.length + 1 ≤ sizeLine := by rw [sizeLine_eq]; omega
  have q2 : (1 : Nat) ≤ sizeLine := by rw [sizeLine_eq]; omega
  have q3 : (13 : Nat) ≤ sizeLine := by rw [sizeLine_eq]; omega
  have hl' : lcL (cNm 6) (mT (mOp notInAD (mVar 6) (mVar 3))) (mVar 6) [v0, v1, .val (.lst (spL.map .str)), .val (.lst (fs.map .str)), v4, .val (.str t), .unb] (D.str t :: spL.map D.str) s = some (D.str y :: r.map D.str, s) := by simpa using hl
  have cat : addAll (.lst [.str t]) (.lst (spL.map D.str)) = some (.lst (D.str t :: spL.map D.str)) := by
    simp [addAll, addD, catD, q3, show spL.length = 12 from rfl]
  simp [mBor, bnd, frzE, mOp, mLc, seqI, mLst, aCons, aNil, mVar, cat, wipeE, hl', q1, q2, lft, mC, idxD, atI, ixN, noL, hs]
abbrev sE : Str := "0123456789ab"
def cE : List Nat := [48, 49, 50, 51, 52, 53, 54, 55, 56, 57, 97, 98]
/-- so many names, no two alike -/
structure Nms0 (fs : List Str) (k : Nat) : Prop where
  len : fs.length = k
  nd : fs.Nodup
  nm : ∀ x ∈ fs, Nm x
  nn : ∀ x ∈ fs, NN x
end C
end Z

set_option Elab.async false
set_option linter.all false
set_option maxRecDepth 100000
namespace Z
namespace C
open PySem PySem.Spec PyProof.Rows L2
/-! ### racks, rules, widths -/
end C
end Z

set_option Elab.async false
set_option linter.all false
set_option maxRecDepth 100000
namespace Z
namespace C
open PySem PySem.Spec PyProof.Rows L2
/-! ### free points -/
end C
end Z

set_option Elab.async false
set_option linter.all false
set_option maxRecDepth 100000
namespace Z
open PySem PySem.Spec PyProof.Rows L2
theorem ints_perm {l : List D} {sp : List Int} (h : l.Perm (sp.map .int)) : ∃ ms : List Int, l = ms.map .int ∧ ms.Perm sp := by
  have all : ∀ d ∈ l, ∃ i, d = D.int i := fun d hd => by
    obtain ⟨i, _, e⟩ := List.mem_map.mp (h.mem_iff.mp hd)
    exact ⟨i, e.symm⟩
  have ex : ∃ ms : List Int, l = ms.map .int := by
    clear h
    induction l with
    | nil => exact ⟨[], rfl⟩
    | cons d r ih =>
      obtain ⟨i, rfl⟩ := all d (by simp)
      obtain ⟨ms, e⟩ := ih fun d hd => all d (by simp [hd])
      exact ⟨i :: ms, by simp [e]⟩
  obtain ⟨ms, rfl⟩ := ex
  refine ⟨ms, rfl, ?_⟩
  have g : ∀ l : List Int, (l.map D.int).map (fun d => match d with | .int i => i | _ => 0) = l := fun l => by
    rw [List.map_map]
    exact List.map_id' l
  have := h.map (fun d => match d with | .int i => i | _ => 0)
  rw [g, g] at this
  exact this
/-- sorted(..) of different ints -/
theorem sort_ints {sp : List Int} (nd : sp.Nodup) : ∃ ms : List Int, sortedD [.lst (sp.map .int)] = some (.lst (ms.map .int)) ∧ ms.Perm sp ∧ ms.Pairwise (· < ·) := by
  obtain ⟨ms, e, hp⟩ := ints_perm (sortL_perm (sp.map .int))
  have hs := sortL_srtd (sp.map .int)
  rw [e] at hs
  refine ⟨ms, ?_, hp, ?_⟩
  · have k : sameK (sp.map D.int) = true := by
      cases sp with
      | nil => rfl
      | cons a r => simp [sameK]
    simp [sortedD, k, e]
  · have hn : ms.Pairwise (· ≠ ·) := (hp.nodup_iff.mpr nd)
    have hs : ms.Pairwise fun x y => ltS (.int y) (.int x) = false := List.pairwise_map.mp hs
    refine (hs.and hn).imp fun {x y} ⟨h1, h2⟩ => ?_
    rw [lt_int] at h1
    simp at h1
    omega
end Z

set_option Elab.async false
set_option linter.all false
set_option maxRecDepth 100000
namespace Z
namespace C
open PySem PySem.Spec PyProof.Rows L2
/-! ### a crew of hosts -/
structure Host where
  nm : Str
  rk : Str
  ms : List Int
def Host.D (h : Host) : D := .tup [.str h.nm, .str h.rk, .tup (h.ms.map .int)]
def crewD (hs : List Host) : D := .tup (hs.map Host.D)
/-- marks of hosts on z points, no two alike, ascending, at most k each -/
structure HsOk (z : Int) (k : Nat) (hs : List Host) : Prop where
  nd : (hs.map (·.nm)).Nodup
  nm : ∀ h ∈ hs, Nm h.nm ∧ Nm h.rk
  ne : ∀ h ∈ hs, h.ms ≠ [] ∧ h.ms.length ≤ k
  up : ∀ h ∈ hs, h.ms.Pairwise (· < ·)
  inz : ∀ h ∈ hs, ∀ m ∈ h.ms, 0 ≤ m ∧ m < z
  apart : (hs.flatMap (·.ms)).Nodup
theorem hsok_nil (z : Int) (k : Nat) : HsOk z k [] := ⟨by simp, by simp, by simp, by simp, by simp, by simp⟩
theorem hsok_add {z : Int} {k : Nat} {hs : List Host} {h : Host} (H : HsOk z k hs) (h1 : h.nm ∉ hs.map (·.nm)) (h2 : Nm h.nm ∧ Nm h.rk) (h3 : h.ms ≠ [] ∧ h.ms.length ≤ k) (h4 : h.ms.Pairwise (· < ·)) (h5 : ∀ m ∈ h.ms, 0 ≤ m ∧ m < z) (h6 : (hs.flatMap (·.ms) ++ h.ms).Nodup) : HsOk z k (hs ++ [h]) where
  nd := by
    rw [List.map_append]
    exact List.nodup_append.mpr ⟨H.nd, by simp, fun a ha b hb e => h1 (by simp at hb; rw [← hb, ← e]; exact ha)⟩
  nm := fun x hx => (List.mem_append.mp hx).elim (H.nm x) fun q => by rw [List.mem_singleton.mp q]; exact h2
  ne := fun x hx => (List.mem_append.mp hx).elim (H.ne x) fun q => by rw [List.mem_singleton.mp q]; exact h3
  up := fun x hx => (List.mem_append.mp hx).elim (H.up x) fun q => by rw [List.mem_singleton.mp q]; exact h4
  inz := fun x hx => (List.mem_append.mp hx).elim (H.inz x) fun q => by rw [List.mem_singleton.mp q]; exact h5
  apart := by
    rw [List.flatMap_append]
    simpa using h6
end C
end Z

set_option Elab.async false
set_option linter.all false
set_option maxRecDepth 100000
namespace Z
namespace C
open PySem PySem.Spec PyProof.Rows L2
/-- what a turn of the crew's loop keeps -/
structure CrewI (z : Int) (E K i : Nat) (tags bays : List Str) (hs : List Host) (tk : List Int) : Prop where
  ok : HsOk z E hs
  names : hs.map (·.nm) = tags.take i
  perm : tk.Perm (hs.flatMap (·.ms))
  room : (tk.length : Int) + (K - i) ≤ z
  small : tk.length ≤ 16 * i
abbrev bandTurn : MS := sSeq (sPar [10, 11] (xOwn (mLst (aNil)) (xVal (mBor 5 (mOp subD (mOp subD (mVar 1) (mCall lenD (aCons (mVar 5) (aNil)))) (mOp subD (mOp subD (mVar 4) (mC (.int 1))) (mVar 9)))) (xNil)))) (sSeq (sFor (rngI (aCons (mCall min2D (aCons (mOp addD (mC (.int 1)) (mCallD u__law_dip (aCons (mVar 0) (aCons (mVar 3) (aNil))))) (aCons (mVar 11) (aNil)))) (aNil))) (gNm 12) (sSeq (sSet 13 (mBor 5 (mCallD u__law_free (aCons (mVar 1) (aCons (mVar 5) (aCons (mCallD u__law_place (aCons (mVar 0) (aCons (mVar 1) (aCons (mVar 5) (aNil))))) (aNil))))))) (sSeq (sApp 10 (mVar 13)) (sApp 5 (mVar 13))))) (sFrz 10 (sApp 6 (mTup (aCons (mOp idxD (mVar 7) (mVar 9)) (aCons (mOp idxD (mVar 8) (mVar 9)) (aCons (mCall tupleD (aCons (mCallD (fun ds s => lft (sortedD ds) s) (aCons (mVar 10) (aNil))) (aNil))) (aNil))))))))
end C
end Z

set_option Elab.async false
set_option linter.all false
set_option maxRecDepth 100000
namespace Z
namespace C
open PySem PySem.Spec PyProof.Rows L2
end C
end Z

set_option Elab.async false
set_option linter.all false
set_option maxRecDepth 100000
set_option maxHeartbeats 4000000
set_option hygiene false
local macro_rules
  | `(tactic| bv_omega) => `(tactic| first
    | (with_reducible refine Z.cut_end zhP ?_; clear zhP zP)
    | ((with_reducible apply Z.nrmS1); (simp only [Z.startE, Z.startI, Z.setX, Z.setD, Z.wipeE, Z.frzE, Z.zset0, Z.zsets, Z.zmap_cons, Z.zmap_nil, Z.zrep0, Z.zreps, Z.zapp_cons, Z.zapp_nil, Z.zapp_nil', Z.zget0, Z.zgets, Nat.sub_self, Nat.reduceSub]; exact rfl))
    | ((with_reducible apply Z.nrmS2); (simp only [Z.startE, Z.startI, Z.setX, Z.setD, Z.wipeE, Z.frzE, Z.zset0, Z.zsets, Z.zmap_cons, Z.zmap_nil, Z.zrep0, Z.zreps, Z.zapp_cons, Z.zapp_nil, Z.zapp_nil', Z.zget0, Z.zgets, Nat.sub_self, Nat.reduceSub]; exact rfl))
    | ((with_reducible apply Z.nrmS3); (simp only [Z.startE, Z.startI, Z.setX, Z.setD, Z.wipeE, Z.frzE, Z.zset0, Z.zsets, Z.zmap_cons, Z.zmap_nil, Z.zrep0, Z.zreps, Z.zapp_cons, Z.zapp_nil, Z.zapp_nil', Z.zget0, Z.zgets, Nat.sub_self, Nat.reduceSub]; exact rfl))
    | ((with_reducible apply Z.nrmS4); (simp only [Z.startE, Z.startI, Z.setX, Z.setD, Z.wipeE, Z.frzE, Z.zset0, Z.zsets, Z.zmap_cons, Z.zmap_nil, Z.zrep0, Z.zreps, Z.zapp_cons, Z.zapp_nil, Z.zapp_nil', Z.zget0, Z.zgets, Nat.sub_self, Nat.reduceSub]; exact rfl))
    | ((with_reducible apply Z.nrm1); (simp only [Z.startE, Z.startI, Z.setX, Z.setD, Z.wipeE, Z.frzE, Z.zset0, Z.zsets, Z.zmap_cons, Z.zmap_nil, Z.zrep0, Z.zreps, Z.zapp_cons, Z.zapp_nil, Z.zapp_nil', Z.zget0, Z.zgets, Nat.sub_self, Nat.reduceSub]; exact rfl))
    | ((with_reducible apply Z.nrm4); (simp only [Z.startE, Z.startI, Z.setX, Z.setD, Z.wipeE, Z.frzE, Z.zset0, Z.zsets, Z.zmap_cons, Z.zmap_nil, Z.zrep0, Z.zreps, Z.zapp_cons, Z.zapp_nil, Z.zapp_nil', Z.zget0, Z.zgets, Nat.sub_self, Nat.reduceSub]; exact rfl))
    | ((with_reducible apply Z.nrm5); (simp only [Z.startE, Z.startI, Z.setX, Z.setD, Z.wipeE, Z.frzE, Z.zset0, Z.zsets, Z.zmap_cons, Z.zmap_nil, Z.zrep0, Z.zreps, Z.zapp_cons, Z.zapp_nil, Z.zapp_nil', Z.zget0, Z.zgets, Nat.sub_self, Nat.reduceSub]; exact rfl))
    | ((with_reducible apply Z.nrm6); (simp only [Z.startE, Z.startI, Z.setX, Z.setD, Z.wipeE, Z.frzE, Z.zset0, Z.zsets, Z.zmap_cons, Z.zmap_nil, Z.zrep0, Z.zreps, Z.zapp_cons, Z.zapp_nil, Z.zapp_nil', Z.zget0, Z.zgets, Nat.sub_self, Nat.reduceSub]; exact rfl))
    | ((with_reducible apply Z.nrm7); (simp only [Z.startE, Z.startI, Z.setX, Z.setD, Z.wipeE, Z.frzE, Z.zset0, Z.zsets, Z.zmap_cons, Z.zmap_nil, Z.zrep0, Z.zreps, Z.zapp_cons, Z.zapp_nil, Z.zapp_nil', Z.zget0, Z.zgets, Nat.sub_self, Nat.reduceSub]; exact rfl))
    | ((with_reducible refine Z.is_OnS ?_); first
      | with_reducible refine Z.wp_seq ?_
      | (with_reducible refine Z.wp_set ?_; with_reducible refine Z.on_cut ?_; intro zP zhP)
      | (with_reducible refine Z.wp_ret ?_; with_reducible refine Z.on_cut ?_; intro zP zhP)
      | (with_reducible refine Z.wp_sif ?_; with_reducible refine Z.on_cut ?_; intro zP zhP)
      | with_reducible refine Z.wp_nil ?_
      | (with_reducible refine Z.wp_expr ?_; with_reducible refine Z.on_cut ?_; intro zP zhP)
      | (with_reducible refine Z.wp_own ?_; with_reducible refine Z.on_cut ?_; intro zP zhP)
      | (with_reducible refine Z.wp_asg ?_; with_reducible refine Z.on_cut ?_; intro zP zhP)
      | with_reducible refine Z.wp_frz ?_
      | (with_reducible refine Z.wp_for ?_; with_reducible refine Z.on_cut ?_; intro zP zhP)
      | (with_reducible refine Z.wp_par ?_; with_reducible refine Z.on_cut ?_; intro zP zhP)
      | (with_reducible refine Z.wp_rto ?_; with_reducible refine Z.on_cut ?_; intro zP zhP)
      | with_reducible refine Z.wp_retn ?_
      | with_reducible refine Z.wp_brk ?_
      | with_reducible refine Z.wp_cont ?_
      | ((with_reducible apply Z.wp_app); exact rfl))
    | ((with_reducible refine Z.is_OnD ?_); first
      | ((with_reducible apply Z.wp_var); exact rfl)
      | with_reducible refine Z.wp_c ?_
      | with_reducible refine Z.wp_callD ?_
      | with_reducible refine Z.wp_call ?_
      | with_reducible refine Z.wp_op ?_
      | with_reducible refine Z.wp_opM ?_
      | with_reducible refine Z.wp_un ?_
      | with_reducible refine Z.wp_bor ?_
      | with_reducible refine Z.wp_fbor ?_
      | with_reducible refine Z.wp_tup ?_
      | with_reducible refine Z.wp_lst ?_
      | with_reducible refine Z.wp_if ?_
      | with_reducible refine Z.wp_and ?_
      | with_reducible refine Z.wp_or ?_
      | with_reducible refine Z.wp_sl ?_
      | with_reducible refine Z.wp_fld ?_
      | with_reducible refine Z.wp_prop ?_
      | with_reducible refine Z.wp_cel ?_
      | with_reducible refine Z.wp_lft ?_
      | with_reducible refine Z.wp_lc ?_
      | with_reducible refine Z.wp_mjoin ?_
      | with_reducible refine Z.wp_meth ?_
      | with_reducible refine Z.wp_methK ?_
      | with_reducible refine Z.wp_meth0 ?_
      | with_reducible refine Z.wp_mget ?_
      | with_reducible refine Z.wp_dic0 ?_
      | with_reducible refine Z.wp_oEq ?_
      | with_reducible refine Z.wp_oNe ?_
      | with_reducible refine Z.wp_mrev ?_
      | with_reducible refine Z.wp_msplit ?_
      | with_reducible refine Z.wp_lc2 ?_
      | with_reducible refine Z.wp_dc ?_
      | with_reducible refine Z.wp_dc2 ?_
      | with_reducible refine Z.wp_make ?_
      | with_reducible refine Z.wp_pick ?_
      | ((with_reducible apply Z.wp_cls); exact rfl)
      | with_reducible refine Z.wp_cm ?_
      | with_reducible refine Z.wp_ownD ?_
      | with_reducible refine Z.wp_ownSub ?_
      | with_reducible refine Z.wp_ownIn ?_
      | with_reducible refine Z.wp_ownNotIn ?_
      | with_reducible refine Z.wp_chainLe ?_)
    | ((with_reducible refine Z.is_OnL ?_); first
      | with_reducible refine Z.wp_acons ?_
      | with_reducible refine Z.wp_anil ?_
      | with_reducible refine Z.wp_none ?_
      | with_reducible refine Z.wp_astar ?_
      | with_reducible refine Z.wp_rng ?_
      | with_reducible refine Z.wp_seq' ?_
      | with_reducible refine Z.wp_enum ?_
      | with_reducible refine Z.wp_zip ?_)
    | ((with_reducible refine Z.is_OnB ?_); first
      | with_reducible refine Z.wp_t ?_
      | with_reducible refine Z.wp_tand ?_
      | with_reducible refine Z.wp_tor ?_
      | with_reducible refine Z.wp_tnot ?_
      | with_reducible refine Z.wp_tbor ?_
      | with_reducible refine Z.wp_yes ?_)
    | ((with_reducible refine Z.is_On1 ?_); first
      | ((with_reducible refine Z.wp_mul ?_ ?_); first | assumption | decide | omega)
      | ((with_reducible refine Z.wp_mod ?_ ?_); first | assumption | decide | omega)
      | ((with_reducible refine Z.wp_fdiv ?_ ?_ ?_); (first | assumption | decide | omega); (first | assumption | decide | omega))
      | with_reducible refine Z.wp_isiI ?_
      | with_reducible refine Z.wp_isiIb ?_
      | with_reducible refine Z.wp_isiIs ?_
      | with_reducible refine Z.wp_isiS ?_
      | with_reducible refine Z.wp_isiSi ?_
      | with_reducible refine Z.wp_isiT ?_
      | with_reducible refine Z.wp_isiTs ?_
      | with_reducible refine Z.wp_inC ?_
      | with_reducible refine Z.wp_lenL ?_
      | with_reducible refine Z.wp_lenT ?_
      | ((with_reducible refine Z.wp_lenS ?_ ?_); first | assumption | omega)
      | with_reducible refine Z.wp_inSL ?_
      | with_reducible refine Z.wp_inST ?_
      | with_reducible refine Z.wp_ninST ?_
      | with_reducible refine Z.wp_ninSL ?_
      | with_reducible refine Z.wp_inIL ?_
      | with_reducible refine Z.wp_ninIL ?_
      | with_reducible refine Z.wp_all ?_
      | with_reducible refine Z.wp_revT ?_
      | with_reducible refine Z.wp_revL ?_
      | with_reducible refine Z.wp_any ?_
      | with_reducible refine Z.wp_slT ?_
      | ((with_reducible apply Z.wp_ixT); exact rfl; first | decide | omega)
      | ((with_reducible apply Z.wp_ixL); exact rfl; first | decide | omega)
      | with_reducible refine Z.wp_eqI ?_
      | with_reducible refine Z.wp_neI ?_
      | with_reducible refine Z.wp_eqS ?_
      | with_reducible refine Z.wp_neS ?_
      | ((with_reducible refine Z.wp_addL ?_ ?_); first | assumption | (simp; done) | omega | (simp only [List.length_map, List.length_cons, List.length_nil, List.length_append]; omega) | (simp; omega))
      | ((with_reducible refine Z.wp_catL ?_ ?_); first | assumption | (simp; done) | omega | (simp only [List.length_map, List.length_cons, List.length_nil, List.length_append]; omega) | (simp; omega))
      | ((with_reducible refine Z.wp_catT ?_ ?_); first | assumption | (simp; done) | omega | (simp only [List.length_map, List.length_cons, List.length_nil, List.length_append]; omega) | (simp; omega))
      | ((with_reducible refine Z.wp_addS ?_ ?_); first | assumption | omega)
      | ((with_reducible apply Z.on1_some); exact rfl))
    | ((with_reducible refine Z.is_On ?_); first
      | with_reducible refine Z.wp_onone ?_
      | with_reducible refine Z.wp_osome ?_
      | with_reducible refine Z.wp_gnm ?_
      | with_reducible refine Z.wp_gscons ?_
      | with_reducible refine Z.wp_gsnil ?_
      | with_reducible refine Z.wp_gseqT ?_
      | with_reducible refine Z.wp_gseqL ?_
      | with_reducible refine Z.wp_xnil ?_
      | with_reducible refine Z.wp_xval ?_
      | with_reducible refine Z.wp_xown ?_
      | with_reducible refine Z.wp_nnil ?_
      | with_reducible refine Z.wp_nseq ?_
      | with_reducible refine Z.wp_nexpr ?_
      | with_reducible refine Z.wp_nnot ?_
      | ((with_reducible refine Z.wp_nfld ?_ ?_); exact Nat.le_of_ble_eq_true rfl))
    | with_reducible refine Z.wp_exStr ?_
    | ((with_reducible refine Z.wp_mk ?_ ?_); exact rfl)
    | ((with_reducible apply Z.wp_gk); exact rfl)
    | with_reducible refine Z.wp_brT ?_
    | with_reducible refine Z.wp_brF ?_
    | with_reducible refine Z.wp_brNT ?_
    | with_reducible refine Z.wp_brNF ?_
    | ((with_reducible refine Z.wp_sz ?_ ?_); first | exact Nat.le_of_ble_eq_true rfl | (simp only [List.length_map, List.length_cons, List.length_nil, List.length_append]; omega))
    | ((with_reducible refine Z.wp_len ?_ ?_); exact rfl)
    | ((with_reducible refine Z.wp_rngq ?_ ?_ ?_); omega; omega)
    | with_reducible refine Z.wp_exL ?_
    | with_reducible refine Z.wp_exT ?_
    | with_reducible refine Z.wp_exO ?_
    | ((with_reducible refine Z.wp_exI ?_ ?_ ?_); omega; omega)
    | with_reducible refine Z.wp_exe ?_
    | with_reducible refine Z.wp_exi ?_
    | with_reducible refine Z.wp_exi1 ?_
    | refine Z.wp_brT ?_
    | refine Z.wp_brF ?_
    | with_reducible refine Z.wp_chC ?_
    )
local macro_rules
  | `(tactic| fail) => `(tactic| first
    | (with_reducible refine Z.cut_end zhP ?_; clear zhP zP)
    | with_reducible refine Z.on_some (by assumption) ?_
    | with_reducible refine Z.on1_some (by assumption) ?_
    | ((with_reducible apply Z.wp_pks); exact rfl)
    | with_reducible refine Z.wp_pk0 ?_
    | with_reducible refine Z.wp_rng2 ?_
    | with_reducible refine Z.wp_cmK' ?_
    | with_reducible refine Z.wp_methK' ?_
    | with_reducible refine Z.wp_pick' ?_
    | ((with_reducible apply Z.nrmS1); (simp only [Z.startE, Z.startI, Z.setX, Z.setD, Z.wipeE, Z.frzE, Z.zset0, Z.zsets, Z.zmap_cons, Z.zmap_nil, Z.zrep0, Z.zreps, Z.zapp_cons, Z.zapp_nil, Z.zapp_nil', Z.zget0, Z.zgets, Nat.sub_self, Nat.reduceSub]; exact rfl))
    | ((with_reducible apply Z.nrmS2); (simp only [Z.startE, Z.startI, Z.setX, Z.setD, Z.wipeE, Z.frzE, Z.zset0, Z.zsets, Z.zmap_cons, Z.zmap_nil, Z.zrep0, Z.zreps, Z.zapp_cons, Z.zapp_nil, Z.zapp_nil', Z.zget0, Z.zgets, Nat.sub_self, Nat.reduceSub]; exact rfl))
    | ((with_reducible apply Z.nrmS3); (simp only [Z.startE, Z.startI, Z.setX, Z.setD, Z.wipeE, Z.frzE, Z.zset0, Z.zsets, Z.zmap_cons, Z.zmap_nil, Z.zrep0, Z.zreps, Z.zapp_cons, Z.zapp_nil, Z.zapp_nil', Z.zget0, Z.zgets, Nat.sub_self, Nat.reduceSub]; exact rfl))
    | ((with_reducible apply Z.nrmS4); (simp only [Z.startE, Z.startI, Z.setX, Z.setD, Z.wipeE, Z.frzE, Z.zset0, Z.zsets, Z.zmap_cons, Z.zmap_nil, Z.zrep0, Z.zreps, Z.zapp_cons, Z.zapp_nil, Z.zapp_nil', Z.zget0, Z.zgets, Nat.sub_self, Nat.reduceSub]; exact rfl))
    | ((with_reducible apply Z.nrm1); (simp only [Z.startE, Z.startI, Z.setX, Z.setD, Z.wipeE, Z.frzE, Z.zset0, Z.zsets, Z.zmap_cons, Z.zmap_nil, Z.zrep0, Z.zreps, Z.zapp_cons, Z.zapp_nil, Z.zapp_nil', Z.zget0, Z.zgets, Nat.sub_self, Nat.reduceSub]; exact rfl))
    | ((with_reducible apply Z.nrm4); (simp only [Z.startE, Z.startI, Z.setX, Z.setD, Z.wipeE, Z.frzE, Z.zset0, Z.zsets, Z.zmap_cons, Z.zmap_nil, Z.zrep0, Z.zreps, Z.zapp_cons, Z.zapp_nil, Z.zapp_nil', Z.zget0, Z.zgets, Nat.sub_self, Nat.reduceSub]; exact rfl))
    | ((with_reducible apply Z.nrm5); (simp only [Z.startE, Z.startI, Z.setX, Z.setD, Z.wipeE, Z.frzE, Z.zset0, Z.zsets, Z.zmap_cons, Z.zmap_nil, Z.zrep0, Z.zreps, Z.zapp_cons, Z.zapp_nil, Z.zapp_nil', Z.zget0, Z.zgets, Nat.sub_self, Nat.reduceSub]; exact rfl))
    | ((with_reducible apply Z.nrm6); (simp only [Z.startE, Z.startI, Z.setX, Z.setD, Z.wipeE, Z.frzE, Z.zset0, Z.zsets, Z.zmap_cons, Z.zmap_nil, Z.zrep0, Z.zreps, Z.zapp_cons, Z.zapp_nil, Z.zapp_nil', Z.zget0, Z.zgets, Nat.sub_self, Nat.reduceSub]; exact rfl))
    | ((with_reducible apply Z.nrm7); (simp only [Z.startE, Z.startI, Z.setX, Z.setD, Z.wipeE, Z.frzE, Z.zset0, Z.zsets, Z.zmap_cons, Z.zmap_nil, Z.zrep0, Z.zreps, Z.zapp_cons, Z.zapp_nil, Z.zapp_nil', Z.zget0, Z.zgets, Nat.sub_self, Nat.reduceSub]; exact rfl))
    | ((with_reducible refine Z.is_OnS ?_); first
      | with_reducible refine Z.wp_seq ?_
      | (with_reducible refine Z.wp_set ?_; with_reducible refine Z.on_cut ?_; intro zP zhP)
      | (with_reducible refine Z.wp_ret ?_; with_reducible refine Z.on_cut ?_; intro zP zhP)
      | (with_reducible refine Z.wp_sif ?_; with_reducible refine Z.on_cut ?_; intro zP zhP)
      | with_reducible refine Z.wp_nil ?_
      | (with_reducible refine Z.wp_expr ?_; with_reducible refine Z.on_cut ?_; intro zP zhP)
      | (with_reducible refine Z.wp_own ?_; with_reducible refine Z.on_cut ?_; intro zP zhP)
      | (with_reducible refine Z.wp_asg ?_; with_reducible refine Z.on_cut ?_; intro zP zhP)
      | with_reducible refine Z.wp_frz ?_
      | (with_reducible refine Z.wp_for ?_; with_reducible refine Z.on_cut ?_; intro zP zhP)
      | (with_reducible refine Z.wp_par ?_; with_reducible refine Z.on_cut ?_; intro zP zhP)
      | (with_reducible refine Z.wp_rto ?_; with_reducible refine Z.on_cut ?_; intro zP zhP)
      | with_reducible refine Z.wp_retn ?_
      | with_reducible refine Z.wp_brk ?_
      | with_reducible refine Z.wp_cont ?_
      | ((with_reducible apply Z.wp_app); exact rfl))
    | ((with_reducible refine Z.is_OnD ?_); first
      | ((with_reducible apply Z.wp_var); exact rfl)
      | with_reducible refine Z.wp_c ?_
      | with_reducible refine Z.wp_callD ?_
      | with_reducible refine Z.wp_call ?_
      | with_reducible refine Z.wp_op ?_
      | with_reducible refine Z.wp_opM ?_
      | with_reducible refine Z.wp_un ?_
      | with_reducible refine Z.wp_bor ?_
      | with_reducible refine Z.wp_fbor ?_
      | with_reducible refine Z.wp_tup ?_
      | with_reducible refine Z.wp_lst ?_
      | with_reducible refine Z.wp_if ?_
      | with_reducible refine Z.wp_and ?_
      | with_reducible refine Z.wp_or ?_
      | with_reducible refine Z.wp_sl ?_
      | with_reducible refine Z.wp_fld ?_
      | with_reducible refine Z.wp_prop ?_
      | with_reducible refine Z.wp_cel ?_
      | with_reducible refine Z.wp_lft ?_
      | with_reducible refine Z.wp_lc ?_
      | with_reducible refine Z.wp_mjoin ?_
      | with_reducible refine Z.wp_meth ?_
      | with_reducible refine Z.wp_methK ?_
      | with_reducible refine Z.wp_meth0 ?_
      | with_reducible refine Z.wp_mget ?_
      | with_reducible refine Z.wp_dic0 ?_
      | with_reducible refine Z.wp_oEq ?_
      | with_reducible refine Z.wp_oNe ?_
      | with_reducible refine Z.wp_mrev ?_
      | with_reducible refine Z.wp_msplit ?_
      | with_reducible refine Z.wp_lc2 ?_
      | with_reducible refine Z.wp_dc ?_
      | with_reducible refine Z.wp_dc2 ?_
      | with_reducible refine Z.wp_make ?_
      | with_reducible refine Z.wp_pick ?_
      | ((with_reducible apply Z.wp_cls); exact rfl)
      | with_reducible refine Z.wp_cm ?_
      | with_reducible refine Z.wp_ownD ?_
      | with_reducible refine Z.wp_ownSub ?_
      | with_reducible refine Z.wp_ownIn ?_
      | with_reducible refine Z.wp_ownNotIn ?_
      | with_reducible refine Z.wp_chainLe ?_)
    | ((with_reducible refine Z.is_OnL ?_); first
      | with_reducible refine Z.wp_acons ?_
      | with_reducible refine Z.wp_anil ?_
      | with_reducible refine Z.wp_none ?_
      | with_reducible refine Z.wp_astar ?_
      | with_reducible refine Z.wp_rng ?_
      | with_reducible refine Z.wp_seq' ?_
      | with_reducible refine Z.wp_enum ?_
      | with_reducible refine Z.wp_zip ?_)
    | ((with_reducible refine Z.is_OnB ?_); first
      | with_reducible refine Z.wp_t ?_
      | with_reducible refine Z.wp_tand ?_
      | with_reducible refine Z.wp_tor ?_
      | with_reducible refine Z.wp_tnot ?_
      | with_reducible refine Z.wp_tbor ?_
      | with_reducible refine Z.wp_yes ?_)
    | ((with_reducible refine Z.is_On1 ?_); first
      | ((with_reducible refine Z.wp_mul ?_ ?_); first | assumption | decide | omega)
      | ((with_reducible refine Z.wp_mod ?_ ?_); first | assumption | decide | omega)
      | ((with_reducible refine Z.wp_fdiv ?_ ?_ ?_); (first | assumption | decide | omega); (first | assumption | decide | omega))
      | with_reducible refine Z.wp_isiI ?_
      | with_reducible refine Z.wp_isiIb ?_
      | with_reducible refine Z.wp_isiIs ?_
      | with_reducible refine Z.wp_isiS ?_
      | with_reducible refine Z.wp_isiSi ?_
      | with_reducible refine Z.wp_isiT ?_
      | with_reducible refine Z.wp_isiTs ?_
      | with_reducible refine Z.wp_inC ?_
      | with_reducible refine Z.wp_lenL ?_
      | with_reducible refine Z.wp_lenT ?_
      | ((with_reducible refine Z.wp_lenS ?_ ?_); first | assumption | omega)
      | with_reducible refine Z.wp_inSL ?_
      | with_reducible refine Z.wp_inST ?_
      | with_reducible refine Z.wp_ninST ?_
      | with_reducible refine Z.wp_ninSL ?_
      | with_reducible refine Z.wp_inIL ?_
      | with_reducible refine Z.wp_ninIL ?_
      | with_reducible refine Z.wp_all ?_
      | with_reducible refine Z.wp_revT ?_
      | with_reducible refine Z.wp_revL ?_
      | with_reducible refine Z.wp_any ?_
      | with_reducible refine Z.wp_slT ?_
      | ((with_reducible apply Z.wp_ixT); exact rfl; first | decide | omega)
      | ((with_reducible apply Z.wp_ixL); exact rfl; first | decide | omega)
      | with_reducible refine Z.wp_eqI ?_
      | with_reducible refine Z.wp_neI ?_
      | with_reducible refine Z.wp_eqS ?_
      | with_reducible refine Z.wp_neS ?_
      | ((with_reducible refine Z.wp_addL ?_ ?_); first | assumption | (simp; done) | omega | (simp only [List.length_map, List.length_cons, List.length_nil, List.length_append]; omega) | (simp; omega))
      | ((with_reducible refine Z.wp_catL ?_ ?_); first | assumption | (simp; done) | omega | (simp only [List.length_map, List.length_cons, List.length_nil, List.length_append]; omega) | (simp; omega))
      | ((with_reducible refine Z.wp_catT ?_ ?_); first | assumption | (simp; done) | omega | (simp only [List.length_map, List.length_cons, List.length_nil, List.length_append]; omega) | (simp; omega))
      | ((with_reducible refine Z.wp_addS ?_ ?_); first | assumption | omega)
      | ((with_reducible apply Z.on1_some); exact rfl))
    | ((with_reducible refine Z.is_On ?_); first
      | with_reducible refine Z.wp_onone ?_
      | with_reducible refine Z.wp_osome ?_
      | with_reducible refine Z.wp_gnm ?_
      | with_reducible refine Z.wp_gscons ?_
      | with_reducible refine Z.wp_gsnil ?_
      | with_reducible refine Z.wp_gseqT ?_
      | with_reducible refine Z.wp_gseqL ?_
      | with_reducible refine Z.wp_xnil ?_
      | with_reducible refine Z.wp_xval ?_
      | with_reducible refine Z.wp_xown ?_
      | with_reducible refine Z.wp_nnil ?_
      | with_reducible refine Z.wp_nseq ?_
      | with_reducible refine Z.wp_nexpr ?_
      | with_reducible refine Z.wp_nnot ?_
      | ((with_reducible refine Z.wp_nfld ?_ ?_); exact Nat.le_of_ble_eq_true rfl))
    | with_reducible refine Z.wp_exStr ?_
    | ((with_reducible refine Z.wp_mk ?_ ?_); exact rfl)
    | ((with_reducible apply Z.wp_gk); exact rfl)
    | with_reducible refine Z.wp_brT ?_
    | with_reducible refine Z.wp_brF ?_
    | with_reducible refine Z.wp_brNT ?_
    | with_reducible refine Z.wp_brNF ?_
    | ((with_reducible refine Z.wp_sz ?_ ?_); first | exact Nat.le_of_ble_eq_true rfl | (simp only [List.length_map, List.length_cons, List.length_nil, List.length_append]; omega))
    | ((with_reducible refine Z.wp_len ?_ ?_); exact rfl)
    | ((with_reducible refine Z.wp_rngq ?_ ?_ ?_); omega; omega)
    | with_reducible refine Z.wp_exL ?_
    | with_reducible refine Z.wp_exT ?_
    | with_reducible refine Z.wp_exO ?_
    | ((with_reducible refine Z.wp_exI ?_ ?_ ?_); omega; omega)
    | with_reducible refine Z.wp_exe ?_
    | with_reducible refine Z.wp_exi ?_
    | with_reducible refine Z.wp_exi1 ?_
    | refine Z.wp_brT ?_
    | refine Z.wp_brF ?_
    | with_reducible refine Z.wp_chC ?_
    | with_reducible refine Z.wp_forCons ?_
    | with_reducible refine Z.wp_forNil ?_
    | with_reducible refine Z.wp_lcCons ?_
    | with_reducible refine Z.wp_lcNil ?_
    | with_reducible rw [Z.dec_self]
    | with_reducible rw [Z.zcut6]
    | with_reducible rw [Z.zcut3]
    | with_reducible exact ⟨rfl, rfl⟩
    | with_reducible refine ⟨rfl, ?_⟩
    | with_reducible refine ⟨_, rfl, ?_⟩
    | with_reducible refine And.intro (by assumption) ?_)
set_option hygiene true

namespace Z
namespace C
open PySem PySem.Spec PyProof.Rows L2
theorem Dr.on {md : MD} {ds : List D} {s : S} {n B k : Nat} {P : D → Prop} {Q : D → S → Prop} (h : Dr md ds s n B k P) (q : ∀ r s', P r → KG s' n (B + k) → s'.length = s.length → Q r s') : On (md ds s) Q :=
  let ⟨r, s', e, a, b, c⟩ := h; ⟨r, s', e, q r s' c a b⟩
theorem Dr.of {md : MD} {ds : List D} {s : S} {n B k : Nat} {P : D → Prop} (h : On (md ds s) fun r s' => KG s' n (B + k) ∧ s'.length = s.length ∧ P r) : Dr md ds s n B k P :=
  let ⟨r, s', e, a, b, c⟩ := h; ⟨r, s', e, a, b, c⟩
/-! ### a frame -/
structure Frame where
  z : Int
  w : Int
  x : Str
  a : Int
  b : Int
  y : Str
  hs : List Host
def Frame.D (f : Frame) : D := .lst [.int f.z, .int f.w, .str f.x, .int f.a, .int f.b, .str f.y, crewD f.hs]
structure FrOk (M E : Nat) (f : Frame) : Prop where
  z0 : 1 ≤ f.z
  z1 : f.z ≤ 1000000000000000000
  w0 : 1 ≤ f.w
  w1 : f.w ≤ 5
  a0 : 1 ≤ f.a
  a1 : f.a ≤ f.w
  b0 : 1 ≤ f.b
  b1 : f.b ≤ f.w
  x : f.x ∈ (["hosts", "racks"] : List Str)
  y : f.y ∈ (["plain", "with"] : List Str)
  hs : HsOk f.z E f.hs
  h0 : 1 ≤ f.hs.length
  h1 : f.hs.length ≤ M
end C
end Z

namespace Z
namespace C
open PySem PySem.Spec PyProof.Rows L2
/-! ### a ring is made -/
theorem isint_ok (v lo hi : Int) (s : S) : u_is_integer [.int v, .int lo, .int hi] s = some (.bl (decide (lo ≤ v) && decide (v ≤ hi)), s) := by
  refine eq_of_on ?_
  unfold u_is_integer
  refine wp_mkD rfl ?_
  repeat bv_omega
  exact ⟨rfl, rfl⟩
theorem chk_ok {v hi : Int} (s : S) (h0 : 1 ≤ v) (h1 : v ≤ hi) : u_check_number [.int v, .int hi] s = some (.non, s) := by
  refine eq_of_on ?_
  unfold u_check_number
  refine wp_mkD rfl ?_
  repeat bv_omega
  refine on_some (isint_ok _ _ _ _) ?_
  rw [decide_eq_true h0, decide_eq_true h1]
  repeat bv_omega
  exact ⟨rfl, rfl⟩

theorem nm_cons {x : Str} (h : Nm x) : ∃ c cs, x.cps.toList = c :: cs ∧ c ∈ cL ∧ (∀ d ∈ c :: cs, d ∈ cL ++ cD) ∧ x.length ≤ 8 := by
  obtain ⟨c, cs, e, h1, h2, h3⟩ := h
  refine ⟨c, cs, e, h1, fun d hd => ?_, by rw [len_cps, e]; simp; omega⟩
  rcases List.mem_cons.mp hd with rfl | hd
  · exact List.mem_append_left _ h1
  · exact h2 d hd
theorem isname_ok {x : Str} (s : S) (h : Nm x) : u_is_name [.str x] s = some (.bl true, s) := by
  obtain ⟨c, cs, e, h1, h2, h3⟩ := nm_cons h
  have l1 : 1 ≤ (x.length : Int) := by rw [len_cps, e]; simp; omega
  have l2 : (x.length : Int) ≤ 8 := by omega
  refine eq_of_on ?_
  unfold u_is_name
  refine wp_mkD rfl ?_
  repeat bv_omega
  rw [decide_eq_true l1, decide_eq_true l2]
  repeat bv_omega
  refine wp_ixS (c := c) (by rw [e]; rfl) (by omega) (by omega) ?_
  repeat bv_omega
  rw [sL_cps, decide_eq_true h1]
  repeat bv_omega
  unfold chD
  refine wp_lcM (fun c => D.str ⟨#[c]⟩) D.bl (fun d => decide (d ∈ (sL ++ sD).cps.toList)) _ (fun d hd => ?_) ?_
  · repeat bv_omega
    exact ⟨rfl, rfl⟩
  · refine wp_sz (by simp only [List.length_map]; rw [← len_cps]; omega) ?_
    repeat bv_omega
    have : (List.map (fun d => decide (d ∈ (sL ++ sD).cps.toList)) x.cps.toList).all id = true := by
      rw [List.all_map, List.all_eq_true]
      intro d hd
      rw [e] at hd
      simpa [sLD_cps] using h2 d hd
    rw [this]
    exact ⟨rfl, rfl⟩
theorem zip_tail_lt : ∀ {ms : List Int}, ms.Pairwise (· < ·) → ∀ p ∈ ms.zip (ms.drop 1), p.1 < p.2
  | [], _, p, hp => by simp at hp
  | [a], _, p, hp => by simp at hp
  | a :: b :: r, h, p, hp => by
    have h2 := List.pairwise_cons.mp h
    simp only [List.drop_succ_cons, List.drop_zero, List.zip_cons_cons] at hp
    rcases List.mem_cons.mp hp with rfl | hp
    · exact h2.1 b (by simp)
    · exact zip_tail_lt (ms := b :: r) h2.2 p (by simpa using hp)
theorem zipD_map (xs ys : List Int) : zipD (xs.map D.int) (ys.map D.int) = (xs.zip ys).map fun p => D.tup [.int p.1, .int p.2] := by
  unfold zipD
  rw [List.zip_map, List.map_map]
  rfl
theorem points_ok {ms : List Int} {z : Int} (s : S) (h : ms ≠ []) (hl : ms.length ≤ 16) (hz : ∀ m ∈ ms, 0 ≤ m ∧ m < z) (up : ms.Pairwise (· < ·)) : u_are_points [.tup (ms.map .int), .int z, .int 16] s = some (.bl true, s) := by
  have l0 := List.length_pos_iff.mpr h
  have l1 : 1 ≤ (((ms.map D.int).length : Nat) : Int) := by rw [List.length_map]; omega
  have l2 : (((ms.map D.int).length : Nat) : Int) ≤ 16 := by rw [List.length_map]; omega
  refine eq_of_on ?_
  unfold u_are_points
  refine wp_mkD rfl ?_
  repeat bv_omega
  rw [decide_eq_true l1, decide_eq_true l2]
  repeat bv_omega
  refine wp_lcM D.int D.bl (fun m => decide (0 ≤ m) && decide (m ≤ z - 1)) ms (fun m hm => ?_) ?_
  · repeat bv_omega
    refine on_some (isint_ok _ _ _ _) ?_
    exact ⟨rfl, rfl⟩
  · refine wp_sz (by simp; omega) ?_
    repeat bv_omega
    have : (List.map (fun m => decide (0 ≤ m) && decide (m ≤ z - 1)) ms).all id = true := by
      rw [List.all_map, List.all_eq_true]
      intro m hm
      have := hz m hm
      simp
      omega
    rw [this]
    repeat bv_omega
    rw [show (some (1 : Int)) = some ((1 : Nat) : Int) from rfl, cutL_drop, ← List.map_drop, zipD_map]
    refine wp_lcM (fun p : Int × Int => D.tup [.int p.1, .int p.2]) D.bl (fun p => decide (p.1 < p.2)) _ (fun p hp => ?_) ?_
    · repeat bv_omega
      exact ⟨rfl, rfl⟩
    · refine wp_sz (by simp; omega) ?_
      repeat bv_omega
      have : (List.map (fun p : Int × Int => decide (p.1 < p.2)) (ms.zip (ms.drop 1))).all id = true := by
        rw [List.all_map, List.all_eq_true]
        intro p hp
        simpa using zip_tail_lt up p hp
      rw [this]
      exact ⟨rfl, rfl⟩

theorem hsok_left {z : Int} {k : Nat} {xs ys : List Host} (H : HsOk z k (xs ++ ys)) : HsOk z k xs where
  nd := by have := H.nd; rw [List.map_append] at this; exact (List.nodup_append.mp this).1
  nm := fun h hh => H.nm h (List.mem_append_left _ hh)
  ne := fun h hh => H.ne h (List.mem_append_left _ hh)
  up := fun h hh => H.up h (List.mem_append_left _ hh)
  inz := fun h hh => H.inz h (List.mem_append_left _ hh)
  apart := by have := H.apart; rw [List.flatMap_append] at this; exact (List.nodup_append.mp this).1
theorem nodup_inl {l : List Int} (h : l.Nodup) : (l.map (Sum.inl : Int → Key)).Nodup := by
  rw [List.nodup_iff_pairwise_ne, List.pairwise_map]
  exact (List.nodup_iff_pairwise_ne.mp h).imp fun hne e => hne (Sum.inl.inj e)
theorem nodup_inr {l : List Str} (h : l.Nodup) : (l.map (Sum.inr : Str → Key)).Nodup := by
  rw [List.nodup_iff_pairwise_ne, List.pairwise_map]
  exact (List.nodup_iff_pairwise_ne.mp h).imp fun hne e => hne (Sum.inr.inj e)
theorem fm_len {k : Nat} : ∀ {xs : List Host}, (∀ h ∈ xs, h.ms.length ≤ k) → (xs.flatMap (·.ms)).length ≤ xs.length * k
  | [], _ => by simp
  | x :: xs, h => by
    have ih := fm_len (xs := xs) fun y hy => h y (by simp [hy])
    have := h x (by simp)
    rw [List.flatMap_cons, List.length_append, List.length_cons, Nat.succ_mul]
    omega
/-- a host beside those ahead of it -/
theorem ishost_ok {z : Int} {k : Nat} {ah : List Host} {h : Host} (s : S) (H : HsOk z k (ah ++ [h])) (hk : k ≤ 16) (hl : ah.length ≤ 12) : u_is_host [h.D, .int z, .tup (ah.map Host.D)] s = some (.bl true, s) := by
  have A := hsok_left H
  have n1 := H.nm h (by simp)
  have n2 := H.ne h (by simp)
  have n3 := H.up h (by simp)
  have n4 := H.inz h (by simp)
  have n5 : h.nm ∉ ah.map (·.nm) := by
    have := H.nd
    rw [List.map_append] at this
    exact fun e => (List.nodup_append.mp this).2.2 _ e _ (by simp) rfl
  have n6 : ∀ m ∈ h.ms, m ∉ ah.flatMap (·.ms) := fun m hm e => by
    have := H.apart
    rw [List.flatMap_append] at this
    exact (List.nodup_append.mp this).2.2 _ e _ (by simpa using hm) rfl
  have lf : (ah.flatMap Host.ms).length ≤ ah.length * 16 := fm_len (xs := ah) (k := 16) fun x hx => by have := (A.ne x hx).2; omega
  refine eq_of_on ?_
  unfold u_is_host
  refine wp_mkD rfl ?_
  unfold Host.D
  repeat bv_omega
  repeat bv_omega
  refine on_some (isname_ok _ n1.1) ?_
  repeat bv_omega
  repeat bv_omega
  refine on_some (isname_ok _ n1.2) ?_
  repeat bv_omega
  refine wp_lcM Host.D D.str Host.nm ah (fun x hx => ?_) ?_
  · repeat bv_omega
    exact ⟨rfl, rfl⟩
  · repeat bv_omega
    rw [decide_eq_false n5]
    repeat bv_omega
    refine on_some (points_ok _ n2.1 (by omega) n4 n3) ?_
    repeat bv_omega
    refine wp_dc2M Host.D D.int Host.ms (fun _ m => Sum.inl m) (fun _ _ => D.bl true) ah (fun x hx => ?_) ?_ ?_ ?_
    · repeat bv_omega
      repeat bv_omega
      refine ⟨rfl, rfl, fun m hm => ?_⟩
      repeat bv_omega
      refine ⟨rfl, rfl, ?_⟩
      repeat bv_omega
      exact ⟨rfl, rfl⟩
    · have := nodup_inl A.apart
      rw [List.map_flatMap] at this
      exact this
    · rw [← List.map_flatMap, List.length_map]
      omega
    · repeat bv_omega
      refine wp_lcM D.int D.bl (fun m => false) h.ms (fun m hm => ?_) ?_
      · repeat bv_omega
        refine ⟨?_, rfl⟩
        have e : (ah.flatMap fun x => x.ms.map fun y => ((Sum.inl y : Key), D.bl true)) = (ah.flatMap Host.ms).map fun y => (Sum.inl y, D.bl true) := by rw [List.map_flatMap]
        rw [e]
        dsimp only
        rw [lookD_map]
        congr 1
        rw [List.any_eq_false]
        intro y hy q
        exact n6 m hm (by rw [← Sum.inl.inj (of_decide_eq_true q)]; exact hy)
      · repeat bv_omega
        have e : (List.map (fun _ : Int => false) h.ms).any id = false := by
          rw [List.any_map, List.any_eq_false]
          simp
        rw [e]
        exact ⟨rfl, rfl⟩

theorem enumD_get {ds : List D} {j : Nat} {d : D} (h : (enumD ds)[j]? = some d) : ∃ x, ds[j]? = some x ∧ d = .tup [.int j, x] := by
  have hj : j < ds.length := by
    have := (List.getElem?_eq_some_iff.mp h).1
    simpa [enumD] using this
  refine ⟨ds[j], List.getElem?_eq_getElem hj, ?_⟩
  simp [enumD, hj] at h
  exact h.symm
theorem split_at {α : Type} {xs : List α} {j : Nat} {x : α} (h : xs[j]? = some x) : ∃ ys, xs = (xs.take j ++ [x]) ++ ys := by
  refine ⟨xs.drop (j + 1), ?_⟩
  have hj := (List.getElem?_eq_some_iff.mp h).1
  have hx : xs[j] = x := by rw [List.getElem?_eq_getElem hj] at h; exact Option.some.inj h
  rw [← hx, List.take_append_getElem, List.take_append_drop]
/-- the hosts are looked at -/
theorem chkhosts_ok {z : Int} {k : Nat} {hs : List Host} (s : S) (H : HsOk z k hs) (hk : k ≤ 16) (h0 : 1 ≤ hs.length) (h1 : hs.length ≤ 12) : u_check_hosts [crewD hs, .int z] s = some (.non, s) := by
  refine eq_of_on ?_
  unfold u_check_hosts crewD
  refine wp_mkD rfl ?_
  repeat bv_omega
  rw [decide_eq_false (by rw [List.length_map]; omega)]
  repeat bv_omega
  refine wp_forI (fun i e s1 => s1 = s ∧ ∃ a b, e = [.val (.tup (hs.map Host.D)), .val (.int z), a, b]) ⟨rfl, _, _, rfl⟩ (fun j e s1 d hd hI => ?_) (fun e s1 hI => ⟨rfl, hI.1⟩)
  obtain ⟨rfl, a, b, rfl⟩ := hI
  obtain ⟨x, hx, rfl⟩ := enumD_get hd
  rw [List.getElem?_map] at hx
  obtain ⟨h, hx2, rfl⟩ := Option.map_eq_some_iff.mp hx
  have hj := (List.getElem?_eq_some_iff.mp hx2).1
  repeat bv_omega
  rw [decide_eq_false (by omega)]
  repeat bv_omega
  rw [cutL_take, ← List.map_take]
  obtain ⟨ys, hy⟩ := split_at hx2
  rw [hy] at H
  refine on_some (ishost_ok _ (hsok_left H) hk (by simp; omega)) ?_
  repeat bv_omega
  exact ⟨rfl, _, _, rfl⟩

def markD (p : Int × Str) : D := .tup [.int p.1, .str p.2]
def pairsOf (hs : List Host) : List (Int × Str) := hs.flatMap fun h => h.ms.map fun m => (m, h.nm)
def racksD (hs : List Host) : D := .dic (hs.map fun h => (.inr h.nm, .str h.rk))
def ringF (f : Frame) : List (Str × D) := [("numbers", .tup [.int f.z, .int f.w, .int f.a, .int f.b]), ("words", .tup [.str f.x, .str f.y]), ("held_hosts", crewD f.hs), ("racks", racksD f.hs), ("marks", .lst (sortL ((pairsOf f.hs).map markD)))]
def ringD (f : Frame) : D := .obj "Ring" (ringF f)
theorem same_marks : ∀ ps : List (Int × Str), sameK (ps.map markD) = true
  | [] => rfl
  | p :: ps => by
    simp only [List.map_cons, markD, sameK]
    have : kD (.tup [.int p.1, .str p.2]) = some [0, 1] := rfl
    rw [this]
    show ((List.map markD ps).all fun e => decide (kD e = some [0, 1])) = true
    rw [List.all_map, List.all_eq_true]
    intro q hq
    rfl
theorem init_ok {f : Frame} (s : S) (F : FrOk 12 16 f) : u_Ring___init__ [.int f.z, .int f.w, .str f.x, .int f.a, .int f.b, .str f.y, crewD f.hs] s = some (ringF f, s) := by
  have hl := F.h1
  have lf : (f.hs.flatMap Host.ms).length ≤ f.hs.length * 16 := fm_len (xs := f.hs) (k := 16) fun x hx => (F.hs.ne x hx).2
  refine eq_of_on ?_
  unfold u_Ring___init__
  refine wp_mkI rfl ?_
  repeat bv_omega
  refine on_some (chk_ok _ F.z0 F.z1) ?_
  repeat bv_omega
  refine on_some (chk_ok _ F.w0 F.w1) ?_
  repeat bv_omega
  rw [decide_eq_true F.x]
  refine ⟨rfl, ?_⟩
  repeat bv_omega
  refine on_some (chk_ok _ F.a0 F.a1) ?_
  repeat bv_omega
  refine on_some (chk_ok _ F.b0 F.b1) ?_
  repeat bv_omega
  rw [decide_eq_true F.y]
  refine ⟨rfl, ?_⟩
  repeat bv_omega
  refine on_some (chkhosts_ok _ F.hs (by omega) F.h0 F.h1) ?_
  repeat bv_omega
  unfold crewD
  repeat bv_omega
  refine wp_dcM Host.D (fun h => Sum.inr h.nm) (fun h => D.str h.rk) f.hs (fun h hh => ?_) ?_ (by omega) ?_
  · unfold Host.D
    repeat bv_omega
    refine ⟨rfl, rfl, ?_⟩
    repeat bv_omega
    exact ⟨rfl, rfl⟩
  · have := nodup_inr F.hs.nd
    rw [List.map_map] at this
    exact this
  · repeat bv_omega
    refine wp_lc2M Host.D D.int markD Host.ms (fun h m => (m, h.nm)) f.hs (fun h hh => ?_) ?_
    · unfold Host.D
      repeat bv_omega
      refine ⟨rfl, rfl, fun m hm => ?_⟩
      repeat bv_omega
      exact ⟨rfl, rfl⟩
    · refine wp_sz (by rw [List.length_map]; have e : (f.hs.flatMap fun x => x.ms.map fun y => (y, x.nm)).length = (f.hs.flatMap Host.ms).length := by simp [List.length_flatMap]
                       rw [e]; omega) ?_
      repeat bv_omega
      refine on1_some (by unfold sortedD; exact if_pos (same_marks _)) ?_
      repeat bv_omega
      exact ⟨rfl, rfl⟩
end C
end Z

namespace Z
namespace C
open PySem PySem.Spec PyProof.Rows L2
/-! ### numbers as texts -/
abbrev numS (i : Int) : Str := ((toString i : String) : Str)
theorem numS_cps {i : Int} (h : 0 ≤ i) : (numS i).cps.toList = TL.numL i.toNat := by
  have e : i = ((i.toNat : Nat) : Int) := by omega
  rw [e]
  exact TL.tl_num _
example (i : Int) : strD [.int i] = (if i.natAbs.log2 < 1920 then some (.str (numS i)) else none) := rfl
theorem numS_len {i : Int} (h : 0 ≤ i) (h1 : i ≤ 1000000000000000000) : 1 ≤ (numS i).length ∧ (numS i).length ≤ 19 := by
  rw [len_cps, numS_cps h]
  refine ⟨List.length_pos_iff.mpr (TL.numL_ne _), TL.numL_len (by omega) (by omega)⟩
theorem numS_digit {i : Int} (h : 0 ≤ i) : ∀ c ∈ (numS i).cps.toList, 48 ≤ c ∧ c ≤ 57 := by
  rw [numS_cps h]
  exact TL.numL_digits _
theorem numS_free {i : Int} (h : 0 ≤ i) {c : Nat} (hc : c < 48 ∨ 57 < c) : c ∉ (numS i).cps.toList := fun e => by
  have := numS_digit h c e
  omega
theorem log_small {i : Int} (h : i.natAbs ≤ 1000000000000000000) : i.natAbs.log2 < 1920 := by
  have := log_le (x := i) (k := 100) (by omega)
  omega
theorem str_num {Q : D → Prop} {i : Int} (h : i.natAbs ≤ 1000000000000000000) (q : Q (.str (numS i))) : On1 (strD [.int i]) Q := ⟨_, by unfold strD; exact if_pos (log_small h), q⟩
end C
end Z

namespace Z
namespace C
open PySem PySem.Spec PyProof.Rows L2
/-! ### texts of rings -/
def rowOf (h : Host) : Str := Txt.join " " ([("host" : Str), h.nm, h.rk] ++ h.ms.map numS)
def headOf (f : Frame) : Str := Txt.join " " ["ring", numS f.z, numS f.w, f.x, numS f.a, numS f.b, f.y]
def textOf (f : Frame) : Str := Txt.join "\n" (headOf f :: f.hs.map rowOf)
theorem toSs_map : ∀ ys : List Str, toSs (ys.map .str) = some ys
  | [] => rfl
  | y :: ys => by simp [toSs, toSs_map ys]
theorem wp_join {Q : D → Prop} {z : Str} {ys : List Str} (h : (ys.map (·.length)).sum + ys.length * z.length ≤ 16777216) (q : Q (.str (Txt.join z ys))) : On1 (joinD (.str z) (.lst (ys.map .str))) Q :=
  ⟨_, by simp only [joinD, toSs_map, Option.bind_some, h, if_true], q⟩
theorem wp_join' {Q : D → Prop} {z : Str} {ys : List Str} {ds : List D} (hd : ds = ys.map .str) (h : (ys.map (·.length)).sum + ys.length * z.length ≤ 16777216) (q : Q (.str (Txt.join z ys))) : On1 (joinD (.str z) (.lst ds)) Q := by
  subst hd; exact wp_join h q
theorem sum_le {k : Nat} : ∀ {ys : List Str}, (∀ y ∈ ys, y.length ≤ k) → (ys.map (·.length)).sum ≤ ys.length * k
  | [], _ => by simp
  | y :: ys, h => by
    have h1 := h y (by simp)
    have h2 := sum_le (ys := ys) fun z hz => h z (by simp [hz])
    simp only [List.map_cons, List.sum_cons, List.length_cons, Nat.succ_mul]
    omega
theorem join_len {k : Nat} {z : Str} {ys : List Str} (h : ∀ y ∈ ys, y.length ≤ k) : (Txt.join z ys).length ≤ ys.length * k + ys.length * z.length := by
  rw [TL.join_eq]
  exact Nat.le_trans (PySem.StrLaws.join_length_le z ys) (Nat.add_le_add_right (sum_le h) _)
theorem mem_joinL {S : List Nat} {c : Nat} : ∀ {ps : List (List Nat)}, c ∈ TL.joinL S ps → c ∈ S ∨ ∃ p ∈ ps, c ∈ p
  | [], h => by simp [TL.joinL] at h
  | [p], h => .inr ⟨p, by simp, h⟩
  | p :: q :: r, h => by
    have h : c ∈ p ++ (S ++ TL.joinL S (q :: r)) := h
    rcases List.mem_append.mp h with h | h
    · exact .inr ⟨p, by simp, h⟩
    · rcases List.mem_append.mp h with h | h
      · exact .inl h
      · rcases mem_joinL h with h | ⟨x, hx, hc⟩
        · exact .inl h
        · exact .inr ⟨x, by simp [List.mem_cons.mp hx], hc⟩
theorem mem_join {z : Str} {c : Nat} {ps : List Str} (h : c ∈ (Txt.join z ps).cps.toList) : c ∈ z.cps.toList ∨ ∃ p ∈ ps, c ∈ p.cps.toList := by
  rw [TL.join_eq] at h
  have h : c ∈ TL.tl (Str.join z ps) := h
  rw [TL.tl_join] at h
  rcases mem_joinL h with h | ⟨x, hx, hc⟩
  · exact .inl h
  · obtain ⟨p, hp, rfl⟩ := List.mem_map.mp hx
    exact .inr ⟨p, hp, hc⟩
theorem sp_cps : (" " : Str).cps.toList = [32] := by decide +kernel
theorem sp_len : (" " : Str).length = 1 := by decide +kernel
theorem nl_len : ("\n" : Str).length = 1 := by decide +kernel
theorem nm_free {x : Str} (h : Nm x) {c : Nat} (hc : c < 48) : c ∉ x.cps.toList := fun e => by
  obtain ⟨a, cs, q, h1, h2, h3⟩ := nm_cons h
  rw [q] at e
  have all : ∀ d ∈ cL ++ cD, 48 ≤ d := by decide
  have := all c (h2 c e)
  omega
/-- what a row's words are like -/
theorem row_words {h : Host} {z : Int} (h1 : Nm h.nm ∧ Nm h.rk) (h2 : ∀ m ∈ h.ms, 0 ≤ m ∧ m < z) (hz : z ≤ 1000000000000000000) : ∀ p ∈ ([("host" : Str), h.nm, h.rk] ++ h.ms.map numS), p.length ≤ 19 ∧ ∀ c, c < 48 → c ∉ p.cps.toList := by
  intro p hp
  rcases List.mem_append.mp hp with hp | hp
  · simp only [List.mem_cons, List.mem_nil_iff, or_false] at hp
    rcases hp with rfl | rfl | rfl
    · have e : (Str.ofString "host").cps.toList = [104, 111, 115, 116] := by decide +kernel
      refine ⟨by rw [len_cps, e]; simp, fun c hc => ?_⟩
      rw [e]; simp; omega
    · exact ⟨by have := (nm_len h1.1).2; omega, fun c hc => nm_free h1.1 hc⟩
    · exact ⟨by have := (nm_len h1.2).2; omega, fun c hc => nm_free h1.2 hc⟩
  · obtain ⟨m, hm, rfl⟩ := List.mem_map.mp hp
    have := h2 m hm
    exact ⟨(numS_len this.1 (by omega)).2, fun c hc => numS_free this.1 (.inl hc)⟩
theorem head_words {f : Frame} {M E : Nat} (F : FrOk M E f) : ∀ p ∈ (["ring", numS f.z, numS f.w, f.x, numS f.a, numS f.b, f.y] : List Str), p.length ≤ 19 ∧ ∀ c, c < 48 → c ∉ p.cps.toList := by
  have h1 := F.z0; have h2 := F.z1; have h3 := F.w0; have h4 := F.w1; have h5 := F.a0; have h6 := F.a1; have h7 := F.b0; have h8 := F.b1
  have num : ∀ i : Int, 0 ≤ i → i ≤ 1000000000000000000 → (numS i).length ≤ 19 ∧ ∀ c, c < 48 → c ∉ (numS i).cps.toList := fun i h0 h1 => ⟨(numS_len h0 h1).2, fun c hc => numS_free h0 (.inl hc)⟩
  have wd : ∀ x ∈ (["ring", "hosts", "racks", "plain", "with"] : List Str), Nm x := by decide +kernel
  have nm : ∀ x : Str, Nm x → x.length ≤ 19 ∧ ∀ c, c < 48 → c ∉ x.cps.toList := fun x h => ⟨by have := (nm_len h).2; omega, fun c hc => nm_free h hc⟩
  intro p hp
  simp only [List.mem_cons, List.mem_nil_iff, or_false] at hp
  rcases hp with rfl | rfl | rfl | rfl | rfl | rfl | rfl
  · exact nm _ (wd _ (by simp))
  · exact num _ (by omega) (by omega)
  · exact num _ (by omega) (by omega)
  · refine nm _ (wd _ ?_)
    have := F.x
    simp only [List.mem_cons, List.mem_nil_iff, or_false] at this ⊢
    rcases this with h | h <;> simp [h]
  · exact num _ (by omega) (by omega)
  · exact num _ (by omega) (by omega)
  · refine nm _ (wd _ ?_)
    have := F.y
    simp only [List.mem_cons, List.mem_nil_iff, or_false] at this ⊢
    rcases this with h | h <;> simp [h]
theorem row_len {h : Host} {z : Int} (h1 : Nm h.nm ∧ Nm h.rk) (h2 : ∀ m ∈ h.ms, 0 ≤ m ∧ m < z) (hz : z ≤ 1000000000000000000) (hl : h.ms.length ≤ 16) : (rowOf h).length ≤ 400 := by
  have := join_len (z := " ") (k := 19) (ys := [("host" : Str), h.nm, h.rk] ++ h.ms.map numS) fun y hy => (row_words h1 h2 hz y hy).1
  rw [sp_len] at this
  unfold rowOf
  simp at this
  simp
  omega
theorem head_len {f : Frame} {M E : Nat} (F : FrOk M E f) : (headOf f).length ≤ 200 := by
  have := join_len (z := " ") (k := 19) (ys := ["ring", numS f.z, numS f.w, f.x, numS f.a, numS f.b, f.y]) fun y hy => (head_words F y hy).1
  rw [sp_len] at this
  unfold headOf
  simp at this
  simp
  omega
theorem rows_free {f : Frame} (F : FrOk 12 16 f) : ∀ p ∈ (headOf f :: f.hs.map rowOf), p.length ≤ 400 ∧ 10 ∉ p.cps.toList := by
  intro p hp
  rcases List.mem_cons.mp hp with rfl | hp
  · refine ⟨by have := head_len F; omega, fun e => ?_⟩
    rcases mem_join e with h | ⟨q, hq, hc⟩
    · rw [sp_cps] at h; simp at h
    · exact (head_words F q hq).2 10 (by omega) hc
  · obtain ⟨h, hh, rfl⟩ := List.mem_map.mp hp
    have n1 := F.hs.nm h hh
    have n2 := F.hs.inz h hh
    refine ⟨row_len n1 n2 F.z1 (F.hs.ne h hh).2, fun e => ?_⟩
    rcases mem_join e with h' | ⟨q, hq, hc⟩
    · rw [sp_cps] at h'; simp at h'
    · exact (row_words n1 n2 F.z1 q hq).2 10 (by omega) hc
end C
end Z

namespace Z
namespace C
open PySem PySem.Spec PyProof.Rows L2
theorem abs_small {i : Int} (h : 0 ≤ i) (h1 : i ≤ 1000000000000000000) : i.natAbs ≤ 1000000000000000000 := by omega
theorem head_join {f : Frame} {M E : Nat} (F : FrOk M E f) : ((["ring", numS f.z, numS f.w, f.x, numS f.a, numS f.b, f.y] : List Str).map (·.length)).sum + (["ring", numS f.z, numS f.w, f.x, numS f.a, numS f.b, f.y] : List Str).length * (" " : Str).length ≤ 16777216 := by
  have := sum_le (k := 19) fun y hy => (head_words F y hy).1
  rw [sp_len]
  simp at this ⊢
  omega
theorem row_join {h : Host} {z : Int} (h1 : Nm h.nm ∧ Nm h.rk) (h2 : ∀ m ∈ h.ms, 0 ≤ m ∧ m < z) (hz : z ≤ 1000000000000000000) (hl : h.ms.length ≤ 16) :
    ((([("host" : Str), h.nm, h.rk] ++ h.ms.map numS).map (·.length)).sum + ([("host" : Str), h.nm, h.rk] ++ h.ms.map numS).length * (" " : Str).length) ≤ 16777216 := by
  have := sum_le (k := 19) fun y hy => (row_words h1 h2 hz y hy).1
  rw [sp_len]
  simp at this ⊢
  omega
theorem rows_join {f : Frame} (F : FrOk 12 16 f) : ((headOf f :: f.hs.map rowOf).map (·.length)).sum + (headOf f :: f.hs.map rowOf).length * ("\n" : Str).length ≤ 16777216 := by
  have := sum_le (k := 400) fun y hy => (rows_free F y hy).1
  have h1 := F.h1
  rw [nl_len]
  simp at this ⊢
  omega
theorem spread_ok (f : Frame) (s : S) : u_Ring_spread [ringD f] s = some (.str f.x, s) := rfl
theorem pend_ok (f : Frame) (s : S) : u_Ring_pending [ringD f] s = some (.str f.y, s) := rfl
theorem rpoints_ok (f : Frame) (s : S) : u_Ring_points [ringD f] s = some (.int f.z, s) := rfl
theorem factor_ok (f : Frame) (s : S) : u_Ring_factor [ringD f] s = some (.int f.w, s) := rfl
/-- str(ring) -/
theorem str_ok {f : Frame} (s : S) (F : FrOk 12 16 f) : u_Ring___str__ [ringD f] s = some (.str (textOf f), s) := by
  have b1 := F.z0; have b2 := F.z1; have b3 := F.w0; have b4 := F.w1; have b5 := F.a0; have b6 := F.a1; have b7 := F.b0; have b8 := F.b1
  have hl := F.h1
  refine eq_of_on ?_
  unfold u_Ring___str__
  refine wp_mkD rfl ?_
  have sp := spread_ok f s
  have pe := pend_ok f s
  unfold ringD ringF crewD at *
  repeat bv_omega
  refine str_num (abs_small (by omega) (by omega)) ?_
  repeat bv_omega
  refine str_num (abs_small (by omega) (by omega)) ?_
  repeat bv_omega
  refine on_some sp ?_
  repeat bv_omega
  refine str_num (abs_small (by omega) (by omega)) ?_
  repeat bv_omega
  refine str_num (abs_small (by omega) (by omega)) ?_
  repeat bv_omega
  refine on_some pe ?_
  repeat bv_omega
  refine wp_lcM Host.D D.str rowOf f.hs (fun h hh => ?_) ?_
  · unfold Host.D
    repeat bv_omega
    refine wp_lcM D.int D.str numS h.ms (fun m hm => ?_) ?_
    · repeat bv_omega
      have := F.hs.inz h hh m hm
      refine str_num (abs_small (by omega) (by omega)) ?_
      exact ⟨rfl, rfl⟩
    · have := (F.hs.ne h hh).2
      refine wp_sz (by simp; omega) ?_
      repeat bv_omega
      refine wp_join' (ys := [("host" : Str), h.nm, h.rk] ++ h.ms.map numS) (by simp) (row_join (F.hs.nm h hh) (F.hs.inz h hh) F.z1 this) ?_
      exact ⟨rfl, rfl⟩
  · refine wp_sz (by simp; omega) ?_
    repeat bv_omega
    refine wp_join' (ys := ["ring", numS f.z, numS f.w, f.x, numS f.a, numS f.b, f.y]) rfl (head_join F) ?_
    repeat bv_omega
    refine wp_join' (ys := headOf f :: f.hs.map rowOf) (by simp [headOf]) (rows_join F) ?_
    exact cut_end zhP ⟨rfl, rfl⟩
end C
end Z

namespace Z
namespace C
open PySem PySem.Spec PyProof.Rows L2
end C
end Z

namespace Z
open PySem PySem.Spec PyProof.Rows L2
/-! ### what repr can write -/
def Rp (d : D) (n k : Nat) : Prop := ∃ p, toP d = some p ∧ p.showable = true ∧ p.depth ≤ k ∧ p.weight ≤ n ∧ p.leavesShort 22 = true ∧ p.hasDict = false
def RpL (ds : List D) (n k : Nat) : Prop := ∃ ps, toPL ds = some ps ∧ PyData.showableAll ps = true ∧ PyData.depthAll ps ≤ k ∧ PyData.weightAll ps ≤ n ∧ PyData.leavesShortAll 22 ps = true ∧ PyData.hasDictAll ps = false
theorem Rp.le {d : D} {n k n' k' : Nat} (h : Rp d n k) (hn : n ≤ n') (hk : k ≤ k') : Rp d n' k' := let ⟨p, h1, h2, h3, h4, h5⟩ := h; ⟨p, h1, h2, by omega, by omega, h5⟩
theorem RpL.le {d : List D} {n k n' k' : Nat} (h : RpL d n k) (hn : n ≤ n') (hk : k ≤ k') : RpL d n' k' := let ⟨p, h1, h2, h3, h4, h5⟩ := h; ⟨p, h1, h2, by omega, by omega, h5⟩
theorem rp_int {i : Int} (h0 : 0 ≤ i) (h1 : i ≤ 1000000000000000000) : Rp (.int i) 101 0 := by
  have hl : i.natAbs.log2 ≤ 99 := by
    by_cases z : i.natAbs = 0
    · rw [z]; simp
    · have := (Nat.log2_lt z (k := 100)).mpr (by omega)
      omega
  have sl : (PyData.shown (.int i)).length ≤ 22 := by
    rw [PyData.shown_int]
    have e : i = ((i.toNat : Nat) : Int) := by omega
    have h2 : (Str.ofString (toString i)).cps.toList = TL.numL i.toNat := by rw [e]; exact TL.tl_num _
    have h3 : (TL.numL i.toNat).length ≤ 19 := TL.numL_len (by omega) (by omega)
    have h4 : (Str.ofString (toString i)).length = (Str.ofString (toString i)).cps.toList.length := by simp [Str.length]
    rw [h2] at h4
    show (Str.ofString (toString i)).length ≤ 22
    omega
  refine ⟨.int i, rfl, ?_, by simp [PyData.depth], ?_, ?_, by simp [PyData.hasDict]⟩
  · simp only [PyData.showable, decide_eq_true_eq]; omega
  · simp only [PyData.weight]; split <;> omega
  · simp only [PyData.leavesShort, decide_eq_true_eq]; exact sl
theorem rp_str {x : Str} {n : Nat} (h : ∀ c ∈ x.cps.toList, c < 1000000) (hl : x.length ≤ n) : Rp (.str x) n 0 := by
  refine ⟨.str x, rfl, by simp [PyData.showable], by simp [PyData.depth], ?_, ?_, by simp [PyData.hasDict]⟩
  · simp only [PyData.weight]; exact hl
  · simp only [PyData.leavesShort, List.all_eq_true, decide_eq_true_eq]
    intro c hc
    have := h c hc
    omega
theorem rpl_nil : RpL [] 0 0 := ⟨[], rfl, by simp [PyData.showableAll], by simp [PyData.depthAll], by simp [PyData.weightAll], by simp [PyData.leavesShortAll], by simp [PyData.hasDictAll]⟩
theorem rpl_cons {d : D} {ds : List D} {n m k : Nat} (h : Rp d n k) (t : RpL ds m k) : RpL (d :: ds) (n + 1 + m) k := by
  obtain ⟨p, h1, h2, h3, h4, h5, h6⟩ := h
  obtain ⟨ps, t1, t2, t3, t4, t5, t6⟩ := t
  refine ⟨p :: ps, by simp [toPL, h1, t1], by simp [PyData.showableAll, h2, t2], ?_, ?_, by simp [PyData.leavesShortAll, h5, t5], by simp [PyData.hasDictAll, h6, t6]⟩
  · simp only [PyData.depthAll]; omega
  · simp only [PyData.weightAll]; omega
theorem rpl_map {α : Type} {f : α → D} {n k : Nat} : ∀ {xs : List α}, (∀ x ∈ xs, Rp (f x) n k) → RpL (xs.map f) (xs.length * (n + 1)) k
  | [], _ => rpl_nil.le (by omega) (by omega)
  | x :: xs, h => (rpl_cons (h x (by simp)) (rpl_map fun y hy => h y (by simp [hy]))).le (by rw [List.length_cons, Nat.succ_mul]; omega) (by omega)
theorem rp_lst {ds : List D} {n k : Nat} (h : RpL ds n k) : Rp (.lst ds) n (k + 1) := by
  obtain ⟨ps, h1, h2, h3, h4, h5, h6⟩ := h
  exact ⟨.list ps, by simp [toP, h1], by simp [PyData.showable, h2], by simp [PyData.depth]; omega, by simp [PyData.weight]; omega, by simp [PyData.leavesShort, h5], by simp [PyData.hasDict, h6]⟩
theorem rp_tup {ds : List D} {n k : Nat} (h : RpL ds n k) : Rp (.tup ds) n (k + 1) := by
  obtain ⟨ps, h1, h2, h3, h4, h5, h6⟩ := h
  exact ⟨.tuple ps, by simp [toP, h1], by simp [PyData.showable, h2], by simp [PyData.depth]; omega, by simp [PyData.weight]; omega, by simp [PyData.leavesShort, h5], by simp [PyData.hasDict, h6]⟩
theorem repr_ok {d : D} {n k : Nat} (h : Rp d n k) (hn : n ≤ 600000) (hk : k ≤ 60) : ∃ x, ∀ s, reprM [d] s = some (.str x, s) := by
  obtain ⟨p, h1, h2, h3, h4, h5, h6⟩ := h
  have h7 : p.shown.length ≤ sizeLine := by
    have := PyData.shown_le 22 (by omega) p h5
    rw [sizeLine_eq]
    have : (22 + 2) * p.weight ≤ 24 * 600000 := Nat.mul_le_mul (by omega) (by omega)
    omega
  have e : reprD d = some (.str p.shown) := by
    unfold reprD
    rw [h1]
    exact if_pos ⟨h2, by omega, h7, h6⟩
  exact ⟨p.shown, fun s => by show lft (reprD d) s = _; rw [e]; rfl⟩
end Z

namespace Z
namespace C
open PySem PySem.Spec PyProof.Rows L2
/-! ### what a ring tells -/
def nmsOf (hs : List Host) : List Str := hs.map (·.nm)
def tagsD (hs : List Host) : List D := sortL ((nmsOf hs).map .str)
def itemD (h : Host) : D := .tup [.str h.rk, .tup (h.ms.map .int)]
theorem strKs_racks : ∀ hs : List Host, strKs (hs.map fun h => ((Sum.inr h.nm : Key), D.str h.rk)) = some (nmsOf hs)
  | [] => rfl
  | h :: hs => by simp [strKs, strKs_racks hs, nmsOf]
theorem same_strs : ∀ xs : List Str, sameK (xs.map .str) = true
  | [] => rfl
  | x :: xs => by
    simp only [List.map_cons, sameK]
    rw [List.all_map, List.all_eq_true]
    intro q hq
    rfl
theorem rp_nm {x : Str} (h : Nm x) : Rp (.str x) 8 0 := rp_str (fun c hc => by
  obtain ⟨a, cs, q, h1, h2, h3⟩ := nm_cons h
  rw [q] at hc
  have all : ∀ d ∈ cL ++ cD, d < 1000000 := by decide
  exact all c (h2 c hc)) (nm_len h).2
def toldD (f : Frame) : D := .lst [.int f.z, .int f.w, .str f.x, .int f.a, .int f.b, .str f.y, crewD f.hs, .tup (tagsD f.hs), .int f.hs.length, .str (textOf f), .bl true, .lst (f.hs.map itemD)]
end C
end Z

namespace Z
namespace C
open PySem PySem.Spec PyProof.Rows L2
theorem FrOk.mono {M E M' E' : Nat} {f : Frame} (F : FrOk M E f) (hM : M ≤ M') (hE : E ≤ E') : FrOk M' E' f :=
  ⟨F.z0, F.z1, F.w0, F.w1, F.a0, F.a1, F.b0, F.b1, F.x, F.y, ⟨F.hs.nd, F.hs.nm, fun h hh => ⟨(F.hs.ne h hh).1, Nat.le_trans (F.hs.ne h hh).2 hE⟩, F.hs.up, F.hs.inz, F.hs.apart⟩, F.h0, Nat.le_trans F.h1 hM⟩
/-! ### the script -/
theorem bits_log {z : Int} (h : Builtin.Int.intBits z ≤ 1048576) : z.natAbs.log2 ≤ 1048576 := by
  unfold Builtin.Int.intBits at h
  split at h
  · rename_i h0
    have : z = 0 := by simpa using h0
    subst this
    decide
  · omega
theorem cmul_log {i j : Int} (h1 : i.natAbs.log2 ≤ 1048576) (h2 : j.natAbs.log2 ≤ 1048576) : CMulZ i j := by unfold CMulZ; omega
theorem log_100 {i : Int} (h : i.natAbs < 2 ^ 100) : i.natAbs.log2 ≤ 1048576 := by
  have := log_le (k := 99) h
  omega
end C
end Z

namespace Z
namespace C
open PySem PySem.Spec PyProof.Rows L2
/-! ### laws of the first family: all cases right -/
abbrev lawA (ur : MD) : MD := mkD 1 2 (sRet (mCall allD (aCons (mLc [1] (rngI (aCons (mCall max2D (aCons (mC (.int 2)) (aCons (mCall min2D (aCons (mCall lenD (aCons (mVar 0) (aNil))) (aCons (mC (.int 5)) (aNil)))) (aNil)))) (aNil))) (cNm 1) (yesT) (mCallD ur (aCons (mCel (mCallD u__law_filled (aCons (mVar 0) (aCons (mVar 1) (aNil))))) (aNil)))) (aNil))))
end C
end Z

set_option linter.all false
set_option maxRecDepth 100000
namespace Z
namespace C
open PySem
def u_with_hosts : MD := mkD 2 6 (sSeq (sAsg (gSeq (gsCons (gNm 2) (gsCons (gNm 3) (gsCons (gNm 4) (gsCons (gNm 5) (gsNil)))))) (mFld "Ring" "numbers" (mVar 0))) (sRet (mCallD (mdMake "Ring" u_Ring___init__) (aCons (mVar 2) (aCons (mVar 3) (aCons (mProp "Ring" u_Ring_spread (mVar 0)) (aCons (mVar 4) (aCons (mVar 5) (aCons (mProp "Ring" u_Ring_pending (mVar 0)) (aCons (mVar 1) (aNil)))))))))))
def u_Ring_joined : MD := mkD 4 4 (sSeq (sIf (tOrZ (tNotZ (mT (mCallD u_is_name (aCons (mVar 1) (aNil))))) (mT (mOpM (ownIn "Ring" u_Ring___contains__) (mVar 1) (mVar 0)))) (sDie) (sNil)) (sSeq (sIf (tNotZ (mT (mCallD u_is_name (aCons (mVar 2) (aNil))))) (sDie) (sNil)) (sSeq (sIf (tNotZ (mT (mCallD u_is_host (aCons (mTup (aCons (mVar 1) (aCons (mVar 2) (aCons (mVar 3) (aNil))))) (aCons (mProp "Ring" u_Ring_points (mVar 0)) (aCons (mFld "Ring" "held_hosts" (mVar 0)) (aNil))))))) (sDie) (sNil)) (sSeq (sIf (mT (mOp eqD (mCall lenD (aCons (mFld "Ring" "held_hosts" (mVar 0)) (aNil))) (mC (.int 12)))) (sDie) (sNil)) (sRet (mCallD u_with_hosts (aCons (mVar 0) (aCons (mTup (aStar (mFld "Ring" "held_hosts" (mVar 0)) (aCons (mTup (aCons (mVar 1) (aCons (mVar 2) (aCons (mVar 3) (aNil))))) (aNil)))) (aNil)))))))))
def u_Ring_left : MD := mkD 2 3 (sSeq (sExpr (mCallD u_check_host (aCons (mVar 0) (aCons (mVar 1) (aNil))))) (sSeq (sIf (mT (mOp eqD (mCall lenD (aCons (mFld "Ring" "held_hosts" (mVar 0)) (aNil))) (mC (.int 1)))) (sDie) (sNil)) (sRet (mCallD u_with_hosts (aCons (mVar 0) (aCons (mCall tupleD (aCons (mLc [2] (seqI (mFld "Ring" "held_hosts" (mVar 0))) (cNm 2) (mT (mOp neD (mOp idxD (mVar 2) (mC (.int 0))) (mVar 1))) (mVar 2)) (aNil))) (aNil)))))))
def u_Ring___eq__ : MD := mkD 2 2 (sRet (mAnd (mCall (isiD isiC isiT) (aCons (mVar 1) (aCons (mC (.ty "Ring")) (aNil)))) (mOp eqD (mCallD (ownD "Ring" u_Ring___str__ okStr) (aCons (mVar 0) (aNil))) (mCallD (ownD "Ring" u_Ring___str__ okStr) (aCons (mVar 1) (aNil))))))
def u__law_joins_right : MD := mkD 3 6 (sSeq (sPar [3, 4] (xVal (mCallD u__law_sheet (aCons (mVar 1) (aNil))) (xVal (mCallD u__law_sheet (aCons (mOp addAll (mSl slL (mVar 1) (oNone) (oSome (mC (.int 6)))) (mLst (aCons (mOp addD (mOp idxD (mVar 1) (mC (.int 6))) (mTup (aCons (mVar 2) (aNil)))) (aNil)))) (aNil))) (xNil)))) (sSeq (sSet 5 (mMeth "Ring" "joined" u_Ring_joined (mVar 0) (aCons (mOp idxD (mVar 2) (mC (.int 0))) (aCons (mOp idxD (mVar 2) (mC (.int 1))) (aCons (mOp idxD (mVar 2) (mC (.int 2))) (aNil)))))) (sSeq (sIf (tOrZ (mT (mOp neD (mCallD (ownD "Ring" u_Ring___str__ okStr) (aCons (mVar 5) (aNil))) (mVar 4))) (mT (mOp neD (mCallD (ownD "Ring" u_Ring___str__ okStr) (aCons (mMethK "Ring" "joined" [2, 1, 0] u_Ring_joined (mVar 0) (aCons (mOp idxD (mVar 2) (mC (.int 2))) (aCons (mOp idxD (mVar 2) (mC (.int 1))) (aCons (mOp idxD (mVar 2) (mC (.int 0))) (aNil))))) (aNil))) (mVar 4)))) (sRet (mC (.bl false))) (sNil)) (sSeq (sIf (tOrZ (mT (mOp neD (mCallD (ownD "Ring" u_Ring___str__ okStr) (aCons (mMeth "Ring" "left" u_Ring_left (mVar 5) (aCons (mOp idxD (mVar 2) (mC (.int 0))) (aNil))) (aNil))) (mVar 3))) (tNotZ (mT (mOpM (ownEq "Ring" u_Ring___eq__) (mMethK "Ring" "left" [0] u_Ring_left (mVar 5) (aCons (mOp idxD (mVar 2) (mC (.int 0))) (aNil))) (mVar 0))))) (sRet (mC (.bl false))) (sNil)) (sRet (mAnd (mOp eqD (mCallD (ownD "Ring" u_Ring___str__ okStr) (aCons (mVar 0) (aNil))) (mVar 3)) (mAnd (mOp eqD (mCallD (ownD "Ring" u_Ring___str__ okStr) (aCons (mVar 5) (aNil))) (mVar 4)) (mOp eqD (mCallD reprM (aCons (mProp "Ring" u_Ring_hosts (mVar 5)) (aNil))) (mCallD reprM (aCons (mOp addD (mOp idxD (mVar 1) (mC (.int 6))) (mTup (aCons (mVar 2) (aNil)))) (aNil)))))))))))
def u__law_new : MD := mkD 2 14 (sSeq (sPar [2, 3, 4, 5] (xVal (mOp idxD (mVar 1) (mC (.int 0))) (xVal (mLc [6] (seqI (mOp idxD (mVar 1) (mC (.int 6)))) (cNm 6) (yesT) (mOp idxD (mVar 6) (mC (.int 0)))) (xVal (mLst (aNil)) (xOwn (mLst (aNil)) (xNil)))))) (sSeq (sFor (seqI (mOp idxD (mVar 1) (mC (.int 6)))) (gSeq (gsCons (gNm 7) (gsCons (gNm 8) (gsCons (gNm 9) (gsNil))))) (sSet 4 (mOp addAll (mVar 4) (mCall listD (aCons (mVar 9) (aNil)))))) (sSeq (sFor (rngI (aCons (mCall min2D (aCons (mOp addD (mC (.int 1)) (mCallD u__law_dip (aCons (mVar 0) (aCons (mCallD u__law_of (aCons (mVar 0) (aCons (mLst (aCons (mC (.int 1)) (aCons (mC (.int 3)) (aCons (mC (.int 16)) (aNil))))) (aNil)))) (aNil))))) (aCons (mOp subD (mVar 2) (mCall lenD (aCons (mVar 4) (aNil)))) (aNil)))) (aNil))) (gNm 10) (sSeq (sSet 11 (mCallD u__law_free (aCons (mVar 2) (aCons (mVar 4) (aCons (mCallD u__law_place (aCons (mVar 0) (aCons (mVar 2) (aCons (mVar 4) (aNil))))) (aNil)))))) (sSeq (sApp 5 (mVar 11)) (sSet 4 (mOp addAll (mVar 4) (mLst (aCons (mVar 11) (aNil)))))))) (sSeq (sSet 8 (mCallD u__law_of (aCons (mVar 0) (aCons (mOp addAll (mLc [6] (seqI (mOp idxD (mVar 1) (mC (.int 6)))) (cNm 6) (yesT) (mOp idxD (mVar 6) (mC (.int 1)))) (mLst (aCons (mCallD u__law_title (aCons (mVar 0) (aNil))) (aNil)))) (aNil))))) (sSeq (sOwn 12 (mLc [7] (seqI (mOp addAll (mLst (aCons (mCallD u__law_title (aCons (mVar 0) (aNil))) (aCons (mC (.str "new")) (aCons (mC (.str "new1")) (aCons (mC (.str "n")) (aNil)))))) (mLc [13] (rngI (aCons (mC (.int 12)) (aNil))) (cNm 13) (yesT) (mOp addD (mC (.str "n")) (mCall strD (aCons (mVar 13) (aNil))))))) (cNm 7) (mT (mOp notInAD (mVar 7) (mVar 3))) (mVar 7))) (sFrz 5 (sFrz 12 (sRet (mTup (aCons (mOp idxD (mVar 12) (mC (.int 0))) (aCons (mVar 8) (aCons (mCall tupleD (aCons (mCallD (fun ds s => lft (sortedD ds) s) (aCons (mVar 5) (aNil))) (aNil))) (aNil)))))))))))))
def u_Ring_ruled : MD := mkD 4 4 (sRet (mCallD (mdMake "Ring" u_Ring___init__) (aCons (mProp "Ring" u_Ring_points (mVar 0)) (aCons (mProp "Ring" u_Ring_factor (mVar 0)) (aCons (mProp "Ring" u_Ring_spread (mVar 0)) (aCons (mVar 1) (aCons (mVar 2) (aCons (mVar 3) (aCons (mFld "Ring" "held_hosts" (mVar 0)) (aNil))))))))))
def u__law_rules_right : MD := mkD 3 8 (sSeq (sPar [3, 4] (xVal (mOp addD (mC (.int 1)) (mCallD u__law_dip (aCons (mVar 0) (aCons (mOp idxD (mVar 2) (mC (.int 1))) (aNil))))) (xVal (mOp addD (mC (.int 1)) (mCallD u__law_dip (aCons (mVar 0) (aCons (mOp idxD (mVar 2) (mC (.int 1))) (aNil))))) (xNil)))) (sSeq (sSet 5 (mCallD u__law_of (aCons (mVar 0) (aCons (mLst (aCons (mC (.str "plain")) (aCons (mC (.str "with")) (aNil)))) (aNil))))) (sSeq (sSet 6 (mCallD u__law_sheet (aCons (mOp addAll (mSl slL (mVar 2) (oNone) (oSome (mC (.int 3)))) (mLst (aCons (mVar 3) (aCons (mVar 4) (aCons (mVar 5) (aCons (mOp idxD (mVar 2) (mC (.int 6))) (aNil))))))) (aNil)))) (sSeq (sIf (tOrZ (mT (mOp neD (mCallD (ownD "Ring" u_Ring___str__ okStr) (aCons (mMeth "Ring" "ruled" u_Ring_ruled (mVar 1) (aCons (mVar 3) (aCons (mVar 4) (aCons (mVar 5) (aNil))))) (aNil))) (mVar 6))) (mT (mOp neD (mCallD (ownD "Ring" u_Ring___str__ okStr) (aCons (mMethK "Ring" "ruled" [2, 1, 0] u_Ring_ruled (mVar 1) (aCons (mVar 5) (aCons (mVar 4) (aCons (mVar 3) (aNil))))) (aNil))) (mVar 6)))) (sRet (mC (.bl false))) (sNil)) (sSeq (sSet 7 (mMeth "Ring" "ruled" u_Ring_ruled (mMeth "Ring" "ruled" u_Ring_ruled (mVar 1) (aCons (mVar 3) (aCons (mVar 4) (aCons (mVar 5) (aNil))))) (aCons (mOp idxD (mVar 2) (mC (.int 3))) (aCons (mOp idxD (mVar 2) (mC (.int 4))) (aCons (mOp idxD (mVar 2) (mC (.int 5))) (aNil)))))) (sRet (mAnd (mOp eqD (mCallD (ownD "Ring" u_Ring___str__ okStr) (aCons (mVar 1) (aNil))) (mCallD u__law_sheet (aCons (mVar 2) (aNil)))) (mOpM (ownEq "Ring" u_Ring___eq__) (mVar 7) (mVar 1)))))))))
def u__law_leaves_right : MD := mkD 3 9 (sSeq (sAsg (gSeq (gsCons (gNm 3) (gsCons (gNm 4) (gsCons (gNm 5) (gsNil))))) (mOp idxD (mOp idxD (mVar 1) (mC (.int 6))) (mVar 2))) (sSeq (sSet 6 (mOp addD (mSl slD (mOp idxD (mVar 1) (mC (.int 6))) (oNone) (oSome (mVar 2))) (mSl slD (mOp idxD (mVar 1) (mC (.int 6))) (oSome (mOp addD (mVar 2) (mC (.int 1)))) (oNone)))) (sSeq (sSet 7 (mMeth "Ring" "left" u_Ring_left (mVar 0) (aCons (mVar 3) (aNil)))) (sSeq (sIf (tOrZ (mT (mOp neD (mCallD (ownD "Ring" u_Ring___str__ okStr) (aCons (mVar 7) (aNil))) (mCallD u__law_sheet (aCons (mOp addAll (mSl slL (mVar 1) (oNone) (oSome (mC (.int 6)))) (mLst (aCons (mVar 6) (aNil)))) (aNil))))) (mT (mOp neD (mCallD reprM (aCons (mProp "Ring" u_Ring_hosts (mVar 7)) (aNil))) (mCallD reprM (aCons (mVar 6) (aNil)))))) (sRet (mC (.bl false))) (sNil)) (sSeq (sSet 8 (mMeth "Ring" "joined" u_Ring_joined (mVar 7) (aCons (mVar 3) (aCons (mVar 4) (aCons (mVar 5) (aNil)))))) (sRet (mAnd (mOp eqD (mCallD (ownD "Ring" u_Ring___str__ okStr) (aCons (mVar 8) (aNil))) (mCallD u__law_sheet (aCons (mOp addAll (mSl slL (mVar 1) (oNone) (oSome (mC (.int 6)))) (mLst (aCons (mOp addD (mVar 6) (mTup (aCons (mTup (aCons (mVar 3) (aCons (mVar 4) (aCons (mVar 5) (aNil))))) (aNil)))) (aNil)))) (aNil)))) (mOp eqD (mCallD (ownD "Ring" u_Ring___str__ okStr) (aCons (mVar 0) (aNil))) (mCallD u__law_sheet (aCons (mVar 1) (aNil)))))))))))
def u__law_whose : MD := mkD 1 6 (sSeq (sOwn 1 (mDic0)) (sSeq (sFor (seqI (mVar 0)) (gSeq (gsCons (gNm 2) (gsCons (gNm 3) (gsCons (gNm 4) (gsNil))))) (sFor (seqI (mVar 4)) (gNm 5) (sPutK 1 (mVar 5) (mVar 2)))) (sFrz 1 (sRet (mVar 1)))))
def u__law_round : MD := mkD 3 6 (sSeq (sOwn 3 (mLst (aNil))) (sSeq (sFor (rngI (aCons (mVar 0) (aNil))) (gNm 4) (sSeq (sSet 5 (mGet (mVar 1) (mOp modD (mCall intD (aCons (mOp addD (mVar 2) (mVar 4)) (aNil))) (mVar 0)) (mC (.str "")))) (sIf (tBor 3 (tAndZ (mT (mOp neD (mVar 5) (mC (.str "")))) (mT (mOp notInAD (mVar 5) (mVar 3))))) (sApp 3 (mVar 5)) (sNil)))) (sFrz 3 (sRet (mVar 3)))))
def u_check_point : MD := mkD 2 2 (sIf (tNotZ (mT (mCallD u_is_integer (aCons (mVar 1) (aCons (mC (.int 0)) (aCons (mOp subD (mProp "Ring" u_Ring_points (mVar 0)) (mC (.int 1))) (aNil))))))) (sDie) (sNil))
def u_walk_of : MD := mkD 2 6 (sSeq (sOwn 2 (mLc [3, 4] (seqI (mFld "Ring" "marks" (mVar 0))) (cTup [3, 4]) (mT (mOp ltD (mVar 3) (mVar 1))) (mVar 4))) (sSeq (sOwn 5 (mLc [3, 4] (seqI (mFld "Ring" "marks" (mVar 0))) (cTup [3, 4]) (mT (mOp geD (mVar 3) (mVar 1))) (mVar 4))) (sFrz 5 (sFrz 2 (sRet (mCallD (fun ds s => lft (tupleDicD ds) s) (aCons (mDc [4] (seqI (mLst (aStar (mVar 5) (aStar (mVar 2) (aNil))))) (cNm 4) (yesT) (mVar 4) (mC (.bl true))) (aNil))))))))
def u_Ring_walk : MD := mkD 2 2 (sSeq (sExpr (mCallD u_check_point (aCons (mVar 0) (aCons (mVar 1) (aNil))))) (sRet (mCallD u_walk_of (aCons (mVar 0) (aCons (mVar 1) (aNil))))))
def u__law_walks_right : MD := mkD 2 9 (sSeq (sPar [2, 3] (xVal (mOp idxD (mVar 1) (mC (.int 0))) (xVal (mCallD u__law_whose (aCons (mOp idxD (mVar 1) (mC (.int 6))) (aNil))) (xNil)))) (sSeq (sFor (rngI (aCons (mVar 2) (aNil))) (gNm 4) (sSeq (sSet 5 (mCallD reprM (aCons (mCall tupleD (aCons (mCallD u__law_round (aCons (mVar 2) (aCons (mVar 3) (aCons (mVar 4) (aNil))))) (aNil))) (aNil)))) (sIf (tOrZ (mT (mOp neD (mCallD reprM (aCons (mMeth "Ring" "walk" u_Ring_walk (mVar 0) (aCons (mVar 4) (aNil))) (aNil))) (mVar 5))) (mT (mOp neD (mCallD reprM (aCons (mMethK "Ring" "walk" [0] u_Ring_walk (mVar 0) (aCons (mVar 4) (aNil))) (aNil))) (mVar 5)))) (sRet (mC (.bl false))) (sNil)))) (sRet (mOp eqD (mCallD (fun ds s => lft (sortedD ds) s) (aCons (mMeth "Ring" "walk" u_Ring_walk (mVar 0) (aCons (mOp fdivD (mVar 2) (mC (.int 2))) (aNil))) (aNil))) (mCallD (fun ds s => lft (sortedD ds) s) (aCons (mLc [6, 7, 8] (seqI (mOp idxD (mVar 1) (mC (.int 6)))) (cTup [6, 7, 8]) (yesT) (mVar 6)) (aNil)))))))
end C
end Z

set_option linter.all false
set_option maxRecDepth 100000
namespace Z
namespace C
open PySem
def u__law_plain : MD := mkD 1 8 (sSeq (sAsg (gSeq (gsCons (gNm 1) (gsCons (gNm 2) (gsCons (gNm 3) (gsCons (gNm 4) (gsCons (gNm 5) (gsCons (gNm 6) (gsCons (gNm 7) (gsNil))))))))) (mVar 0)) (sRet (mCallD (mdMake "Ring" u_Ring___init__) (aCons (mVar 1) (aCons (mVar 2) (aCons (mVar 3) (aCons (mVar 4) (aCons (mVar 5) (aCons (mVar 6) (aCons (mVar 7) (aNil)))))))))))
def u__law_keep : MD := mkD 2 9 (sSeq (sIf (mT (mOp eqD (mOp idxD (mVar 0) (mC (.int 2))) (mC (.str "hosts")))) (sRet (mSl slL (mVar 1) (oNone) (oSome (mOp idxD (mVar 0) (mC (.int 1)))))) (sNil)) (sSeq (sSet 2 (mCallD (fun ds s => lft (dictPD ds) s) (aCons (mLc [3, 4, 5] (seqI (mOp idxD (mVar 0) (mC (.int 6)))) (cTup [3, 4, 5]) (yesT) (mTup (aCons (mVar 3) (aCons (mVar 4) (aNil))))) (aNil)))) (sSeq (sOwn 6 (mLst (aNil))) (sSeq (sFor (rngI (aCons (mCall lenD (aCons (mVar 1) (aNil))) (aNil))) (gNm 7) (sIf (mT (mOp notInAD (mOp idxDic (mVar 2) (mOp idxD (mVar 1) (mVar 7))) (mLc [8] (seqI (mSl slL (mVar 1) (oNone) (oSome (mVar 7)))) (cNm 8) (yesT) (mOp idxDic (mVar 2) (mVar 8))))) (sApp 6 (mOp idxD (mVar 1) (mVar 7))) (sNil))) (sSeq (sFrz 6 (sOwn 6 (mSl slL (mVar 6) (oNone) (oSome (mOp idxD (mVar 0) (mC (.int 1))))))) (sFrz 6 (sRet (mSl slL (mOp addAll (mVar 6) (mLc [8] (seqI (mVar 1)) (cNm 8) (mT (mOp notInAD (mVar 8) (mVar 6))) (mVar 8))) (oNone) (oSome (mOp idxD (mVar 0) (mC (.int 1))))))))))))
def u_chosen : MD := mkD 2 6 (sSeq (sIf (mT (mOp eqD (mProp "Ring" u_Ring_spread (mVar 0)) (mC (.str "hosts")))) (sRet (mSl slD (mVar 1) (oNone) (oSome (mProp "Ring" u_Ring_factor (mVar 0))))) (sNil)) (sSeq (sOwn 2 (mDic0)) (sSeq (sFor (seqI (mVar 1)) (gNm 3) (sSetd 2 (mOp idxDic (mFld "Ring" "racks" (mVar 0)) (mVar 3)) (mVar 3))) (sSeq (sFrz 2 (sSet 4 (mSl slD (mUn tupleValsD (mVar 2)) (oNone) (oSome (mProp "Ring" u_Ring_factor (mVar 0)))))) (sSeq (sOwn 5 (mLc [3] (seqI (mVar 1)) (cNm 3) (mT (mOp notInAD (mVar 3) (mVar 4))) (mVar 3))) (sFrz 5 (sRet (mTup (aStar (mVar 4) (aStar (mSl slL (mVar 5) (oNone) (oSome (mOp subD (mProp "Ring" u_Ring_factor (mVar 0)) (mCall lenD (aCons (mVar 4) (aNil)))))) (aNil)))))))))))
def u_keepers_of : MD := mkD 2 2 (sRet (mCallD u_chosen (aCons (mVar 0) (aCons (mCallD u_walk_of (aCons (mVar 0) (aCons (mVar 1) (aNil)))) (aNil)))))
def u_Ring_keepers : MD := mkD 2 2 (sSeq (sExpr (mCallD u_check_point (aCons (mVar 0) (aCons (mVar 1) (aNil))))) (sRet (mCallD u_keepers_of (aCons (mVar 0) (aCons (mVar 1) (aNil))))))
def u__law_one_right : MD := mkD 2 5 (sSeq (sSet 2 (mCallD u__law_plain (aCons (mVar 0) (aNil)))) (sSeq (sFor (rngI (aCons (mOp idxD (mVar 0) (mC (.int 0))) (aNil))) (gNm 3) (sSeq (sSet 4 (mCallD reprM (aCons (mCall tupleD (aCons (mCallD u__law_keep (aCons (mVar 0) (aCons (mOp idxD (mVar 1) (mVar 3)) (aNil)))) (aNil))) (aNil)))) (sIf (tOrZ (mT (mOp neD (mCallD reprM (aCons (mMeth "Ring" "keepers" u_Ring_keepers (mVar 2) (aCons (mVar 3) (aNil))) (aNil))) (mVar 4))) (mT (mOp neD (mCallD reprM (aCons (mMethK "Ring" "keepers" [0] u_Ring_keepers (mVar 2) (aCons (mVar 3) (aNil))) (aNil))) (mVar 4)))) (sRet (mC (.bl false))) (sNil)))) (sRet (mC (.bl true)))))
end C
end Z

set_option linter.all false
set_option maxRecDepth 100000
namespace Z
namespace C
open PySem
def u__law_borders : MD := mkD 1 5 (sSeq (sSet 1 (mLst (aNil))) (sSeq (sFor (seqI (mVar 0)) (gSeq (gsCons (gNm 2) (gsCons (gNm 3) (gsCons (gNm 4) (gsNil))))) (sSet 1 (mOp addAll (mVar 1) (mCall listD (aCons (mVar 4) (aNil)))))) (sRet (mCallD (fun ds s => lft (sortedD ds) s) (aCons (mVar 1) (aNil))))))
def u__law_far : MD := mkD 2 8 (sSeq (sOwn 2 (mLst (aNil))) (sSeq (sFor (seqI (mOp idxD (mVar 0) (mC (.int 6)))) (gSeq (gsCons (gNm 3) (gsCons (gNm 4) (gsCons (gNm 5) (gsNil))))) (sApp 2 (mTup (aCons (mCall minLD (aCons (mLc [6] (seqI (mVar 5)) (cNm 6) (yesT) (mOp modD (mCall intD (aCons (mOp subD (mVar 6) (mVar 1)) (aNil))) (mOp idxD (mVar 0) (mC (.int 0))))) (aNil))) (aCons (mVar 3) (aNil)))))) (sFrz 2 (sRet (mLc [7, 3] (seqI (mCallD (fun ds s => lft (sortedD ds) s) (aCons (mVar 2) (aNil)))) (cTup [7, 3]) (yesT) (mVar 3))))))
def u_check_ring : MD := mkD 1 1 (sIf (tNotZ (mT (mCall (isiD isiC isiT) (aCons (mVar 0) (aCons (mC (.ty "Ring")) (aNil)))))) (sDie) (sNil))
def u_Cell___init__ : MI0 := mkI 3 4 (nSeq (nFld "first" (mVar 1)) (nSeq (nFld "many" (mVar 2)) (nSeq (nFld "last" (mVar 3)) (nNil))))
def u_cut : MD := mkD 2 6 (sSeq (sOwn 2 (mLst (aNil))) (sSeq (sFor (enum2I (aCons (mVar 1) (aNil))) (gSeq (gsCons (gNm 3) (gsCons (gNm 4) (gsNil)))) (sSeq (sSet 5 (mOp idxD (mVar 1) (mOp subD (mVar 3) (mC (.int 1))))) (sApp 2 (mCallD (mdMake "Cell" u_Cell___init__) (aCons (mOp modD (mOp addD (mVar 5) (mC (.int 1))) (mVar 0)) (aCons (mOp addD (mOp modD (mOp subD (mOp subD (mVar 4) (mVar 5)) (mC (.int 1))) (mVar 0)) (mC (.int 1))) (aCons (mVar 4) (aNil)))))))) (sFrz 2 (sRet (mVar 2)))))
def u_marks_of : MD := mkD 1 4 (sRet (mCallD (fun ds s => lft (sortedDicA ds) s) (aCons (mDc2 [1, 2, 3] (seqI (mVar 0)) (cNm 1) (yesT) (seqI (mFld "Ring" "marks" (mVar 1))) [2, 3] (cTup [2, 3]) (yesT) (mVar 2) (mC (.bl true))) (aNil))))
def u_own_cells : MD := mkD 1 1 (sRet (mCallD u_cut (aCons (mProp "Ring" u_Ring_points (mVar 0)) (aCons (mCallD u_marks_of (aCons (mLst (aCons (mVar 0) (aNil))) (aNil))) (aNil)))))
def u_cells : MD := mkD 1 2 (sSeq (sExpr (mCallD u_check_ring (aCons (mVar 0) (aNil)))) (sRet (mCall tupleD (aCons (mLc [1] (seqI (mCallD u_own_cells (aCons (mVar 0) (aNil)))) (cNm 1) (yesT) (mTup (aCons (mFld "Cell" "first" (mVar 1)) (aCons (mFld "Cell" "many" (mVar 1)) (aCons (mCallD u_keepers_of (aCons (mVar 0) (aCons (mFld "Cell" "last" (mVar 1)) (aNil)))) (aNil)))))) (aNil)))))
def u__law_parted : MD := mkD 2 5 (sSeq (sOwn 2 (mLst (aNil))) (sSeq (sFor (rngI (aCons (mCall lenD (aCons (mVar 1) (aNil))) (aNil))) (gNm 3) (sSeq (sSet 4 (mOp idxD (mVar 1) (mOp subD (mVar 3) (mC (.int 1))))) (sApp 2 (mTup (aCons (mOp modD (mCall intD (aCons (mOp addD (mVar 4) (mC (.int 1))) (aNil))) (mVar 0)) (aCons (mOp addD (mOp modD (mCall intD (aCons (mOp subD (mOp subD (mOp idxD (mVar 1) (mVar 3)) (mVar 4)) (mC (.int 1))) (aNil))) (mVar 0)) (mC (.int 1))) (aCons (mOp idxD (mVar 1) (mVar 3)) (aNil)))))))) (sFrz 2 (sRet (mVar 2)))))
def u__law_keys_right : MD := mkD 2 9 (sSeq (sPar [2, 3] (xVal (mOp idxD (mVar 0) (mC (.int 0))) (xVal (mCallD u__law_whose (aCons (mOp idxD (mVar 0) (mC (.int 6))) (aNil))) (xNil)))) (sSeq (sFor (rngI (aCons (mVar 2) (aNil))) (gNm 4) (sSeq (sOwn 5 (mLc [6, 7, 8] (seqI (mVar 1)) (cTup [6, 7, 8]) (mT (mOp ltD (mOp modD (mCall intD (aCons (mOp subD (mVar 4) (mVar 6)) (aNil))) (mVar 2)) (mVar 7))) (mVar 8))) (sFrz 5 (sIf (mT (mOp neD (mCallD reprM (aCons (mVar 5) (aNil))) (mCallD reprM (aCons (mLst (aCons (mCall tupleD (aCons (mCallD u__law_keep (aCons (mVar 0) (aCons (mCallD u__law_round (aCons (mVar 2) (aCons (mVar 3) (aCons (mVar 4) (aNil))))) (aNil)))) (aNil))) (aNil))) (aNil))))) (sRet (mC (.bl false))) (sNil))))) (sRet (mC (.bl true)))))
end C
end Z

set_option linter.all false
set_option maxRecDepth 100000
namespace Z
namespace C
open PySem
def u__law_moved : MD := mkD 2 7 (sSeq (sOwn 2 (mLc [4, 5, 6] (seqI (mOp idxD (mVar 0) (mC (.int 6)))) (cTup [4, 5, 6]) (yesT) (mTup (aCons (mVar 4) (aCons (mVar 5) (aCons (mCall tupleD (aCons (mCallD (fun ds s => lft (sortedD ds) s) (aCons (mLc [3] (seqI (mVar 6)) (cNm 3) (yesT) (mOp modD (mCall intD (aCons (mOp addD (mVar 3) (mVar 1)) (aNil))) (mOp idxD (mVar 0) (mC (.int 0))))) (aNil))) (aNil))) (aNil))))))) (sFrz 2 (sRet (mOp addAll (mSl slL (mVar 0) (oNone) (oSome (mC (.int 6)))) (mLst (aCons (mCall tupleD (aCons (mVar 2) (aNil))) (aNil)))))))
def u__law_stretched : MD := mkD 2 7 (sSeq (sOwn 2 (mLc [4, 5, 6] (seqI (mOp idxD (mVar 0) (mC (.int 6)))) (cTup [4, 5, 6]) (yesT) (mTup (aCons (mVar 4) (aCons (mVar 5) (aCons (mCall tupleD (aCons (mLc [3] (seqI (mVar 6)) (cNm 3) (yesT) (mOp subD (mOp addD (mOp mulD (mVar 3) (mVar 1)) (mVar 1)) (mC (.int 1)))) (aNil))) (aNil))))))) (sFrz 2 (sRet (mOp addAll (mOp addAll (mLst (aCons (mOp mulD (mOp idxD (mVar 0) (mC (.int 0))) (mVar 1)) (aNil))) (mSl slL (mVar 0) (oSome (mC (.int 1))) (oSome (mC (.int 6))))) (mLst (aCons (mCall tupleD (aCons (mVar 2) (aNil))) (aNil)))))))
def u__law_renamed : MD := mkD 2 11 (sSeq (sPar [2, 3] (xVal (mOp idxD (mVar 1) (mC (.int 6))) (xOwn (mLst (aNil)) (xNil)))) (sSeq (sFor (seqI (mVar 2)) (gSeq (gsCons (gNm 4) (gsCons (gNm 5) (gsCons (gNm 6) (gsNil))))) (sIf (tBor 3 (mT (mOp notInAD (mVar 5) (mVar 3)))) (sApp 3 (mVar 5)) (sNil))) (sSeq (sFrz 3 (sPar [7, 8] (xVal (mCallD u__law_titles (aCons (mVar 0) (aCons (mCall lenD (aCons (mVar 2) (aNil))) (aNil)))) (xVal (mCallD u__law_titles (aCons (mVar 0) (aCons (mCall lenD (aCons (mVar 3) (aNil))) (aNil)))) (xNil))))) (sSeq (sOwn 9 (mLc [10] (rngI (aCons (mCall lenD (aCons (mVar 2) (aNil))) (aNil))) (cNm 10) (yesT) (mTup (aCons (mOp idxD (mVar 7) (mVar 10)) (aCons (mOp idxD (mVar 8) (mOp indexD (mVar 3) (mOp idxD (mOp idxD (mVar 2) (mVar 10)) (mC (.int 1))))) (aCons (mOp idxD (mOp idxD (mVar 2) (mVar 10)) (mC (.int 2))) (aNil))))))) (sFrz 9 (sRet (mTup (aCons (mOp addAll (mSl slL (mVar 1) (oNone) (oSome (mC (.int 6)))) (mLst (aCons (mCall tupleD (aCons (mVar 9) (aNil))) (aNil)))) (aCons (mCallD (fun ds s => lft (dictPD ds) s) (aCons (mLc [10] (rngI (aCons (mCall lenD (aCons (mVar 2) (aNil))) (aNil))) (cNm 10) (yesT) (mTup (aCons (mOp idxD (mOp idxD (mVar 2) (mVar 10)) (mC (.int 0))) (aCons (mOp idxD (mVar 7) (mVar 10)) (aNil))))) (aNil))) (aNil))))))))))
def u__law_both : MD := mkD 2 2 (sRet (mLst (aCons (mMeth "Ring" "walk" u_Ring_walk (mVar 0) (aCons (mVar 1) (aNil))) (aCons (mMeth "Ring" "keepers" u_Ring_keepers (mVar 0) (aCons (mVar 1) (aNil))) (aNil)))))
end C
end Z

set_option linter.all false
set_option maxRecDepth 100000
namespace Z
namespace C
open PySem
def u__law_key_right : MD := mkD 5 11 (sSeq (sPar [5, 6] (xVal (mMeth "Ring" "keepers" u_Ring_keepers (mVar 0) (aCons (mVar 3) (aNil))) (xVal (mMeth "Ring" "keepers" u_Ring_keepers (mVar 1) (aCons (mVar 3) (aNil))) (xNil)))) (sSeq (sPar [7, 8] (xVal (mLc [9] (seqI (mVar 6)) (cNm 9) (mT (mOp notInAD (mVar 9) (mVar 5))) (mVar 9)) (xVal (mLc [9] (seqI (mVar 5)) (cNm 9) (mT (mOp notInAD (mVar 9) (mVar 6))) (mVar 9)) (xNil)))) (sSeq (sIf (tOrZ (mT (mOp notInAD (mVar 7) (mLst (aCons (mLst (aNil)) (aCons (mLst (aCons (mC (.str "newer")) (aNil))) (aNil)))))) (tOrZ (mT (mOp gtD (mCall lenD (aCons (mVar 8) (aNil))) (mC (.int 1)))) (tAndZ (mT (mOp neD (mVar 8) (mLst (aNil)))) (mT (mOp eqD (mVar 7) (mLst (aNil))))))) (sRet (mC (.bl false))) (sNil)) (sSeq (sIf (tOrZ (tAndZ (mT (mOp notInAD (mC (.str "newer")) (mVar 6))) (mT (mOp neD (mVar 6) (mVar 5)))) (tAndZ (mT (mOp neD (mVar 7) (mLst (aNil)))) (tAndZ (mT (mVar 4)) (mT (mOp eqD (mVar 8) (mLst (aNil))))))) (sRet (mC (.bl false))) (sNil)) (sSeq (sIf (tOrZ (tAndZ (tNotZ (mT (mVar 4))) (mT (mOp neD (mVar 8) (mLst (aNil))))) (mT (mOp neD (mMeth "Ring" "keepers" u_Ring_keepers (mVar 2) (aCons (mVar 3) (aNil))) (mVar 5)))) (sRet (mC (.bl false))) (sNil)) (sSeq (sSet 10 (mMeth "Ring" "walk" u_Ring_walk (mVar 1) (aCons (mVar 3) (aNil)))) (sSeq (sIf (mT (mOp neD (mCall tupleD (aCons (mLc [9] (seqI (mVar 10)) (cNm 9) (mT (mOp neD (mVar 9) (mC (.str "newer")))) (mVar 9)) (aNil))) (mMeth "Ring" "walk" u_Ring_walk (mVar 0) (aCons (mVar 3) (aNil))))) (sRet (mC (.bl false))) (sNil)) (sRet (mOp eqD (mMeth "Ring" "walk" u_Ring_walk (mVar 2) (aCons (mVar 3) (aNil))) (mMeth "Ring" "walk" u_Ring_walk (mVar 0) (aCons (mVar 3) (aNil))))))))))))
end C
end Z

set_option linter.all false
set_option maxRecDepth 100000
namespace Z
namespace C
open PySem
def u__law_mate : MD := mkD 2 10 (sSeq (sPar [2, 3] (xVal (mOp idxD (mVar 1) (mC (.int 0))) (xVal (mOp idxD (mVar 1) (mC (.int 6))) (xNil)))) (sSeq (sPar [4, 5] (xVal (mCallD u__law_dip (aCons (mVar 0) (aCons (mC (.int 4)) (aNil)))) (xVal (mCallD u__law_borders (aCons (mOp idxD (mVar 1) (mC (.int 6))) (aNil))) (xNil)))) (sSeq (sIf (tOrZ (mT (mOp ltD (mVar 4) (mC (.int 2)))) (tOrZ (mT (mOp eqD (mCall lenD (aCons (mVar 5) (aNil))) (mVar 2))) (mT (mOp eqD (mCall lenD (aCons (mVar 3) (aNil))) (mC (.int 12)))))) (sRet (mCallD u__law_build (aCons (mVar 0) (aCons (mVar 2) (aCons (mC (.int 6)) (aCons (mC (.int 4)) (aNil))))))) (sNil)) (sSeq (sSet 6 (mCallD u__law_free (aCons (mVar 2) (aCons (mVar 5) (aCons (mCallD u__law_place (aCons (mVar 0) (aCons (mVar 2) (aCons (mVar 5) (aNil))))) (aNil)))))) (sSeq (sIf (mT (mOp eqD (mVar 4) (mC (.int 2)))) (sRet (mOp addAll (mOp addAll (mLst (aCons (mVar 2) (aNil))) (mCallD u__law_rule (aCons (mVar 0) (aNil)))) (mLst (aCons (mOp addD (mVar 3) (mTup (aCons (mTup (aCons (mC (.str "newer")) (aCons (mCallD u__law_of (aCons (mVar 0) (aCons (mLst (aCons (mC (.str "r")) (aCons (mOp idxD (mOp idxD (mVar 3) (mC (.int 0))) (mC (.int 1))) (aNil)))) (aNil)))) (aCons (mTup (aCons (mVar 6) (aNil))) (aNil))))) (aNil)))) (aNil))))) (sNil)) (sSeq (sAsg (gSeq (gsCons (gNm 7) (gsCons (gNm 8) (gsCons (gNm 9) (gsNil))))) (mOp idxD (mVar 3) (mC (.int 0)))) (sRet (mOp addAll (mSl slL (mVar 1) (oNone) (oSome (mC (.int 6)))) (mLst (aCons (mOp addD (mTup (aCons (mTup (aCons (mVar 7) (aCons (mVar 8) (aCons (mCall tupleD (aCons (mCallD (fun ds s => lft (sortedTD ds) s) (aCons (mOp addD (mSl slD (mVar 9) (oSome (mC (.int 1))) (oNone)) (mTup (aCons (mVar 6) (aNil)))) (aNil))) (aNil))) (aNil))))) (aNil))) (mSl slD (mVar 3) (oSome (mC (.int 1))) (oNone))) (aNil)))))))))))
def u_check_both : MD := mkD 2 2 (sSeq (sExpr (mCallD u_check_ring (aCons (mVar 0) (aNil)))) (sSeq (sExpr (mCallD u_check_ring (aCons (mVar 1) (aNil)))) (sIf (mT (mOp neD (mProp "Ring" u_Ring_points (mVar 0)) (mProp "Ring" u_Ring_points (mVar 1)))) (sDie) (sNil))))
def u_common_of : MD := mkD 2 4 (sSeq (sSet 2 (mCallD u_cut (aCons (mProp "Ring" u_Ring_points (mVar 0)) (aCons (mCallD u_marks_of (aCons (mLst (aCons (mVar 0) (aCons (mVar 1) (aNil)))) (aNil))) (aNil))))) (sRet (mCall tupleD (aCons (mLc [3] (seqI (mVar 2)) (cNm 3) (yesT) (mTup (aCons (mFld "Cell" "first" (mVar 3)) (aCons (mFld "Cell" "many" (mVar 3)) (aCons (mCallD u_keepers_of (aCons (mVar 0) (aCons (mFld "Cell" "last" (mVar 3)) (aNil)))) (aCons (mCallD u_keepers_of (aCons (mVar 1) (aCons (mFld "Cell" "last" (mVar 3)) (aNil)))) (aNil))))))) (aNil)))))
def u_common_cells : MD := mkD 2 2 (sSeq (sExpr (mCallD u_check_both (aCons (mVar 0) (aCons (mVar 1) (aNil))))) (sRet (mCallD u_common_of (aCons (mVar 0) (aCons (mVar 1) (aNil))))))
end C
end Z

set_option linter.all false
set_option maxRecDepth 100000
namespace Z
namespace C
open PySem
def u__law_draw : MD := mkD 2 5 (sSeq (sPar [2, 3] (xVal (mOpM idxCel (mVar 0) (mC (.int 1))) (xVal (mOp addD (mOp modD (mCall intD (aCons (mOpM idxCel (mVar 0) (mC (.int 1))) (aNil))) (mC (.int 40009))) (mC (.int 20021))) (xNil)))) (sSeq (sAsg (gCel (mVar 0) (mC (.int 2))) (mOp addD (mOpM idxCel (mVar 0) (mC (.int 2))) (mC (.int 1)))) (sSeq (sAsg (gCel (mVar 0) (mC (.int 1))) (mOp modD (mCall intD (aCons (mOp addD (mOp addD (mOp mulD (mVar 2) (mVar 3)) (mOp mulD (mC (.int 60013)) (mOpM idxCel (mVar 0) (mC (.int 2))))) (mC (.int 11))) (aNil))) (mC (.int 2147483629)))) (sSeq (sIf (mT (mOp gtD (mOpM idxCel (mVar 0) (mC (.int 0))) (mC (.int 0)))) (sSeq (sAsg (gSeq (gsCons (gCel (mVar 0) (mC (.int 0))) (gsCons (gNm 4) (gsNil)))) (mCall divmodD (aCons (mOpM idxCel (mVar 0) (mC (.int 0))) (aCons (mVar 1) (aNil))))) (sRet (mVar 4))) (sNil)) (sRet (mOp modD (mCall intD (aCons (mOp fdivD (mOpM idxCel (mVar 0) (mC (.int 1))) (mC (.int 89))) (aNil))) (mVar 1)))))))
def u__law_pick : MD := mkD 2 2 (sRet (mOp idxD (mVar 1) (mCallD u__law_draw (aCons (mVar 0) (aCons (mCall lenD (aCons (mVar 1) (aNil))) (aNil))))))
def u__law_marks : MD := mkD 4 9 (sSeq (sOwn 4 (mLst (aNil))) (sSeq (sFor (rngI (aCons (mVar 3) (aNil))) (gNm 5) (sSeq (sSet 6 (mCallD u__law_draw (aCons (mVar 0) (aCons (mVar 1) (aNil))))) (sIf (tBor 4 (mT (mOp notInAD (mVar 6) (mOp addAll (mVar 2) (mVar 4))))) (sApp 4 (mVar 6)) (sNil)))) (sSeq (sOwn 7 (mLc [8] (rngI (aCons (mOp addD (mCall lenD (aCons (mVar 2) (aNil))) (mC (.int 1))) (aNil))) (cNm 8) (mT (mOp notInAD (mVar 8) (mVar 2))) (mVar 8))) (sFrz 7 (sFrz 4 (sRet (mCall tupleD (aCons (mCallD (fun ds s => lft (sortedD ds) s) (aCons (mIf (mT (mOp neD (mVar 4) (mLst (aNil)))) (mVar 4) (mSl slL (mVar 7) (oNone) (oSome (mC (.int 1))))) (aNil))) (aNil)))))))))
def u__law_ring : MD := mkD 3 10 (sSeq (sPar [3, 4, 5] (xVal (mOp addD (mC (.int 1)) (mCallD u__law_draw (aCons (mVar 0) (aCons (mC (.int 5)) (aNil))))) (xVal (mLst (aNil)) (xOwn (mLst (aNil)) (xNil))))) (sSeq (sFor (rngI (aCons (mCall min2D (aCons (mVar 3) (aCons (mVar 1) (aNil)))) (aNil))) (gNm 6) (sSeq (sSet 7 (mCallD u__law_marks (aCons (mVar 0) (aCons (mVar 1) (aCons (mVar 4) (aCons (mOp addD (mC (.int 1)) (mCallD u__law_draw (aCons (mVar 0) (aCons (mVar 2) (aNil))))) (aNil))))))) (sSeq (sSet 4 (mOp addAll (mVar 4) (mCall listD (aCons (mVar 7) (aNil))))) (sSeq (sApp 5 (mTup (aCons (mOp idxD (mC (.str "abcdefgh")) (mVar 6)) (aCons (mCallD u__law_pick (aCons (mVar 0) (aCons (mLst (aCons (mC (.str "r1")) (aCons (mC (.str "r1")) (aCons (mC (.str "r2")) (aCons (mC (.str "r3")) (aNil)))))) (aNil)))) (aCons (mVar 7) (aNil)))))) (sIf (mT (mOp geD (mCall lenD (aCons (mVar 4) (aNil))) (mVar 1))) (sBrk) (sNil)))))) (sSeq (sSet 3 (mOp addD (mC (.int 1)) (mCallD u__law_draw (aCons (mVar 0) (aCons (mC (.int 4)) (aNil)))))) (sSeq (sOwn 8 (mLc [6] (rngI (aCons (mC (.int 2)) (aNil))) (cNm 6) (yesT) (mOp addD (mC (.int 1)) (mCallD u__law_draw (aCons (mVar 0) (aCons (mVar 3) (aNil))))))) (sSeq (sSet 9 (mLst (aCons (mCallD u__law_pick (aCons (mVar 0) (aCons (mLst (aCons (mC (.str "hosts")) (aCons (mC (.str "racks")) (aNil)))) (aNil)))) (aCons (mCallD u__law_pick (aCons (mVar 0) (aCons (mLst (aCons (mC (.str "plain")) (aCons (mC (.str "with")) (aNil)))) (aNil)))) (aNil))))) (sFrz 8 (sFrz 5 (sRet (mLst (aCons (mVar 1) (aCons (mVar 3) (aCons (mOp idxD (mVar 9) (mC (.int 0))) (aCons (mOp idxD (mVar 8) (mC (.int 0))) (aCons (mOp idxD (mVar 8) (mC (.int 1))) (aCons (mOp idxD (mVar 9) (mC (.int 1))) (aCons (mCall tupleD (aCons (mVar 5) (aNil))) (aNil)))))))))))))))))
def u__law_taken : MD := mkD 1 3 (sSeq (sSet 1 (mLst (aNil))) (sSeq (sFor (seqI (mVar 0)) (gNm 2) (sSet 1 (mOp addAll (mVar 1) (mCall listD (aCons (mOp idxD (mVar 2) (mC (.int 2))) (aNil)))))) (sRet (mVar 1))))
def u__law_second : MD := mkD 2 11 (sSeq (sPar [2, 3, 4] (xVal (mOp idxD (mVar 1) (mC (.int 0))) (xVal (mOp idxD (mVar 1) (mC (.int 6))) (xVal (mCallD u__law_draw (aCons (mVar 0) (aCons (mC (.int 5)) (aNil)))) (xNil))))) (sSeq (sSet 5 (mCallD u__law_taken (aCons (mVar 3) (aNil)))) (sSeq (sSet 6 (mCallD u__law_ring (aCons (mVar 0) (aCons (mVar 2) (aCons (mC (.int 3)) (aNil)))))) (sSeq (sIf (mT (mOp eqD (mVar 4) (mC (.int 0)))) (sRet (mVar 6)) (sNil)) (sSeq (sIf (tAndZ (mT (mOp eqD (mVar 4) (mC (.int 1)))) (mT (mOp ltD (mCall lenD (aCons (mVar 5) (aNil))) (mVar 2)))) (sSeq (sSet 7 (mTup (aCons (mC (.str "n")) (aCons (mCallD u__law_pick (aCons (mVar 0) (aCons (mLst (aCons (mC (.str "r1")) (aCons (mC (.str "r2")) (aCons (mC (.str "r4")) (aNil))))) (aNil)))) (aCons (mCallD u__law_marks (aCons (mVar 0) (aCons (mVar 2) (aCons (mVar 5) (aCons (mC (.int 2)) (aNil)))))) (aNil)))))) (sRet (mOp addAll (mSl slL (mVar 1) (oNone) (oSome (mC (.int 6)))) (mLst (aCons (mOp addD (mVar 3) (mTup (aCons (mVar 7) (aNil)))) (aNil)))))) (sNil)) (sSeq (sIf (tAndZ (mT (mOp eqD (mVar 4) (mC (.int 2)))) (mT (mOp gtD (mCall lenD (aCons (mVar 3) (aNil))) (mC (.int 1))))) (sSeq (sSet 8 (mCallD u__law_draw (aCons (mVar 0) (aCons (mCall lenD (aCons (mVar 3) (aNil))) (aNil))))) (sRet (mOp addAll (mSl slL (mVar 1) (oNone) (oSome (mC (.int 6)))) (mLst (aCons (mOp addD (mSl slD (mVar 3) (oNone) (oSome (mVar 8))) (mSl slD (mVar 3) (oSome (mOp addD (mVar 8) (mC (.int 1)))) (oNone))) (aNil)))))) (sNil)) (sSeq (sIf (mT (mOp eqD (mVar 4) (mC (.int 3)))) (sRet (mOp addAll (mOp addAll (mSl slL (mVar 1) (oNone) (oSome (mC (.int 1)))) (mSl slL (mVar 6) (oSome (mC (.int 1))) (oSome (mC (.int 6))))) (mLst (aCons (mRev revT (mVar 3)) (aNil))))) (sNil)) (sSeq (sSet 9 (mOp idxD (mVar 3) (mUn negD (mC (.int 1))))) (sSeq (sSet 10 (mCallD u__law_taken (aCons (mSl slD (mVar 3) (oNone) (oSome (mUn negD (mC (.int 1))))) (aNil)))) (sRet (mOp addAll (mSl slL (mVar 1) (oNone) (oSome (mC (.int 6)))) (mLst (aCons (mOp addD (mSl slD (mVar 3) (oNone) (oSome (mUn negD (mC (.int 1))))) (mTup (aCons (mTup (aCons (mOp idxD (mVar 9) (mC (.int 0))) (aCons (mOp idxD (mVar 9) (mC (.int 1))) (aCons (mCallD u__law_marks (aCons (mVar 0) (aCons (mVar 2) (aCons (mVar 10) (aCons (mC (.int 3)) (aNil)))))) (aNil))))) (aNil)))) (aNil))))))))))))))
def u__law_walk : MD := mkD 2 8 (sSeq (sOwn 2 (mLst (aNil))) (sSeq (sFor (seqI (mOp idxD (mVar 0) (mC (.int 6)))) (gSeq (gsCons (gNm 3) (gsCons (gNm 4) (gsCons (gNm 5) (gsNil))))) (sApp 2 (mTup (aCons (mCall minLD (aCons (mLc [6] (seqI (mVar 5)) (cNm 6) (yesT) (mOp modD (mCall intD (aCons (mOp subD (mVar 6) (mVar 1)) (aNil))) (mOp idxD (mVar 0) (mC (.int 0))))) (aNil))) (aCons (mVar 3) (aNil)))))) (sFrz 2 (sRet (mLc [7, 3] (seqI (mCallD (fun ds s => lft (sortedD ds) s) (aCons (mVar 2) (aNil)))) (cTup [7, 3]) (yesT) (mVar 3))))))
def u__law_keepers : MD := mkD 2 9 (sSeq (sPar [2, 3] (xVal (mCallD u__law_walk (aCons (mVar 0) (aCons (mVar 1) (aNil)))) (xVal (mOp idxD (mVar 0) (mC (.int 1))) (xNil)))) (sSeq (sIf (mT (mOp eqD (mOp idxD (mVar 0) (mC (.int 2))) (mC (.str "hosts")))) (sRet (mCall tupleD (aCons (mSl slL (mVar 2) (oNone) (oSome (mVar 3))) (aNil)))) (sNil)) (sSeq (sPar [4, 5, 6] (xVal (mCallD (fun ds s => lft (dictPD ds) s) (aCons (mLc [7] (seqI (mOp idxD (mVar 0) (mC (.int 6)))) (cNm 7) (yesT) (mTup (aCons (mOp idxD (mVar 7) (mC (.int 0))) (aCons (mOp idxD (mVar 7) (mC (.int 1))) (aNil))))) (aNil))) (xOwn (mLst (aNil)) (xOwn (mLst (aNil)) (xNil))))) (sSeq (sFor (seqI (mVar 2)) (gNm 7) (sSeq (sIf (tBor 5 (tBor 6 (tAndZ (mT (mOp notInAD (mOp idxDic (mVar 4) (mVar 7)) (mVar 5))) (mT (mOp ltD (mCall lenD (aCons (mVar 6) (aNil))) (mVar 3)))))) (sApp 6 (mVar 7)) (sNil)) (sApp 5 (mOp idxDic (mVar 4) (mVar 7))))) (sSeq (sFrz 6 (sOwn 8 (mLc [7] (seqI (mVar 2)) (cNm 7) (mT (mOp notInAD (mVar 7) (mVar 6))) (mVar 7)))) (sFrz 8 (sRet (mCall tupleD (aCons (mOp addAll (mVar 6) (mSl slL (mVar 8) (oNone) (oSome (mOp subD (mVar 3) (mCall lenD (aCons (mVar 6) (aNil))))))) (aNil))))))))))
def u__law_arcs : MD := mkD 2 6 (sSeq (sIf (mT (mOp eqD (mCall lenD (aCons (mVar 1) (aNil))) (mVar 0))) (sRet (mTup (aCons (mTup (aCons (mC (.int 0)) (aCons (mVar 0) (aNil)))) (aNil)))) (sNil)) (sSeq (sOwn 2 (mLst (aNil))) (sSeq (sFor (seqI (mVar 1)) (gNm 3) (sIf (mT (mOp notInAD (mOp modD (mCall intD (aCons (mOp subD (mVar 3) (mC (.int 1))) (aNil))) (mVar 0)) (mVar 1))) (sSeq (sOwn 4 (mLc [5] (rng2I (aCons (mC (.int 1)) (aCons (mVar 0) (aNil)))) (cNm 5) (mT (mOp notInAD (mOp modD (mCall intD (aCons (mOp addD (mVar 3) (mVar 5)) (aNil))) (mVar 0)) (mVar 1))) (mVar 5))) (sFrz 4 (sApp 2 (mTup (aCons (mVar 3) (aCons (mOp idxD (mVar 4) (mC (.int 0))) (aNil))))))) (sNil))) (sFrz 2 (sRet (mCall tupleD (aCons (mVar 2) (aNil))))))))
def u_arcs_of : MD := mkD 3 8 (sSeq (sIf (mT (mCall allD (aCons (mVar 2) (aNil)))) (sRet (mTup (aCons (mTup (aCons (mC (.int 0)) (aCons (mVar 0) (aNil)))) (aNil)))) (sNil)) (sSeq (sOwn 3 (mLst (aNil))) (sSeq (sSet 4 (mOp indexB (mVar 2) (mC (.bl false)))) (sSeq (sFor (seqI (mLst (aStarR2 (mVar 4) (mCall lenD (aCons (mVar 1) (aNil))) (aStarR1 (mVar 4) (aNil))))) (gNm 5) (sSeq (sAsg (gSeq (gsCons (gNm 6) (gsCons (gNm 7) (gsNil)))) (mSl slD (mOp idxD (mVar 1) (mVar 5)) (oNone) (oSome (mC (.int 2))))) (sIf (tAndZ (mT (mOp idxD (mVar 2) (mVar 5))) (mT (mOp idxD (mVar 2) (mOp subD (mVar 5) (mC (.int 1)))))) (sPutL 3 (mUn negD (mC (.int 1))) (mBor 3 (mTup (aCons (mOp idxD (mOp idxD (mVar 3) (mUn negD (mC (.int 1)))) (mC (.int 0))) (aCons (mOp addD (mOp idxD (mOp idxD (mVar 3) (mUn negD (mC (.int 1)))) (mC (.int 1))) (mVar 7)) (aNil)))))) (sIf (mT (mOp idxD (mVar 2) (mVar 5))) (sApp 3 (mTup (aCons (mVar 6) (aCons (mVar 7) (aNil))))) (sNil))))) (sFrz 3 (sRet (mCall tupleD (aCons (mCallD (fun ds s => lft (sortedD ds) s) (aCons (mVar 3) (aNil))) (aNil)))))))))
def u_unlike_of : MD := mkD 2 4 (sSeq (sSet 2 (mCallD u_common_of (aCons (mVar 0) (aCons (mVar 1) (aNil))))) (sRet (mCallD u_arcs_of (aCons (mProp "Ring" u_Ring_points (mVar 0)) (aCons (mVar 2) (aCons (mLc [3] (seqI (mVar 2)) (cNm 3) (yesT) (mOp neD (mOp idxD (mVar 3) (mC (.int 2))) (mOp idxD (mVar 3) (mC (.int 3))))) (aNil)))))))
def u_unlike_arcs : MD := mkD 2 2 (sSeq (sExpr (mCallD u_check_both (aCons (mVar 0) (aCons (mVar 1) (aNil))))) (sRet (mCallD u_unlike_of (aCons (mVar 0) (aCons (mVar 1) (aNil))))))
def u_alien_of : MD := mkD 2 4 (sSeq (sSet 2 (mCallD u_common_of (aCons (mVar 0) (aCons (mVar 1) (aNil))))) (sRet (mCallD u_arcs_of (aCons (mProp "Ring" u_Ring_points (mVar 0)) (aCons (mVar 2) (aCons (mLc [3] (seqI (mVar 2)) (cNm 3) (yesT) (mOp neD (mCallD (fun ds s => lft (sortedTD ds) s) (aCons (mOp idxD (mVar 3) (mC (.int 2))) (aNil))) (mCallD (fun ds s => lft (sortedTD ds) s) (aCons (mOp idxD (mVar 3) (mC (.int 3))) (aNil))))) (aNil)))))))
def u_alien_arcs : MD := mkD 2 2 (sSeq (sExpr (mCallD u_check_both (aCons (mVar 0) (aCons (mVar 1) (aNil))))) (sRet (mCallD u_alien_of (aCons (mVar 0) (aCons (mVar 1) (aNil))))))
def u_alike : MD := mkD 2 2 (sRet (mOp eqD (mCallD u_unlike_arcs (aCons (mVar 0) (aCons (mVar 1) (aNil)))) (mTup (aNil))))
def u_kin : MD := mkD 2 2 (sRet (mOp eqD (mCallD u_alien_arcs (aCons (mVar 0) (aCons (mVar 1) (aNil)))) (mTup (aNil))))
def u__law_purse : MD := mkF 2 5 (sSeq (sIf (mT (mOp ltD (mVar 1) (mCall lenD (aCons (mVar 0) (aNil))))) (sSeq (sSet 2 (mOp idxD (mVar 0) (mVar 1))) (sSeq (sSet 3 (mIf (tOrZ (mT (mOp ltD (mVar 2) (mC (.int 0)))) (mT (mOp geD (mVar 2) (mOp powD (mC (.int 10)) (mC (.int 18)))))) (mCall absD (aCons (mVar 2) (aNil))) (mC (.int 0)))) (sRto (mLst (aCons (mVar 3) (aCons (mOp modD (mCall intD (aCons (mOp addD (mOp addD (mOp mulD (mVar 2) (mC (.int 39373))) (mOp mulD (mC (.int 104723)) (mVar 1))) (mC (.int 17))) (aNil))) (mC (.int 2147483629))) (aCons (mC (.int 0)) (aNil)))))))) (sNil)) (sSeq (sSet 4 (mOp addD (mOp mulD (mC (.int 86243)) (mVar 1)) (mC (.int 131)))) (sSeq (sFor (seqI (mSl slL (mVar 0) (oNone) (oSome (mC (.int 4))))) (gNm 2) (sSet 4 (mOp modD (mCall intD (aCons (mOp addD (mOp mulD (mVar 4) (mC (.int 48271))) (mVar 2)) (aNil))) (mC (.int 2147483587))))) (sRto (mLst (aCons (mC (.int 0)) (aCons (mVar 4) (aCons (mC (.int 0)) (aNil)))))))))
def u__law_is_apart : MD := mkD 2 7 (sSeq (sIf (mT (mOp eqD (mVar 1) (mTup (aCons (mTup (aCons (mC (.int 0)) (aCons (mVar 0) (aNil)))) (aNil))))) (sRet (mC (.bl true))) (sNil)) (sSeq (sFor (rngI (aCons (mCall lenD (aCons (mVar 1) (aNil))) (aNil))) (gNm 2) (sSeq (sAsg (gSeq (gsCons (gNm 3) (gsCons (gNm 4) (gsNil)))) (mOp idxD (mVar 1) (mVar 2))) (sSeq (sSet 5 (mOp idxD (mVar 1) (mOp subD (mVar 2) (mC (.int 1))))) (sSeq (sSet 6 (mIf (mT (mOp eqD (mCall lenD (aCons (mVar 1) (aNil))) (mC (.int 1)))) (mOp subD (mVar 0) (mVar 4)) (mOp modD (mCall intD (aCons (mOp subD (mOp subD (mVar 3) (mOp idxD (mVar 5) (mC (.int 0)))) (mOp idxD (mVar 5) (mC (.int 1)))) (aNil))) (mVar 0)))) (sIf (tOrZ (tNotZ (mT (mChain leD ltD (mC (.int 0)) (mVar 3) (mVar 0)))) (tOrZ (mT (mOp ltD (mVar 4) (mC (.int 1)))) (tOrZ (mT (mOp ltD (mVar 6) (mC (.int 1)))) (tAndZ (mT (mOp gtD (mVar 2) (mC (.int 0)))) (mT (mOp leD (mVar 3) (mOp idxD (mVar 5) (mC (.int 0))))))))) (sRet (mC (.bl false))) (sNil)))))) (sRet (mOp ltD (mCall sumD (aCons (mLc [3, 4] (seqI (mVar 1)) (cTup [3, 4]) (yesT) (mVar 4)) (aNil))) (mVar 0)))))
def u__law_spots : MD := mkD 3 9 (sSeq (sSet 3 (mLst (aNil))) (sSeq (sFor (seqI (mVar 1)) (gNm 4) (sSet 3 (mOp addAll (mOp addAll (mVar 3) (mCall listD (aCons (mOp idxD (mVar 4) (mC (.int 2))) (aNil)))) (mLc [5] (seqI (mOp idxD (mVar 4) (mC (.int 2)))) (cNm 5) (yesT) (mOp modD (mCall intD (aCons (mOp addD (mVar 5) (mC (.int 1))) (aNil))) (mVar 0)))))) (sSeq (sFor (seqI (mVar 2)) (gSeq (gsCons (gNm 6) (gsCons (gNm 7) (gsNil)))) (sSet 3 (mOp addAll (mVar 3) (mLc [8] (seqI (mLst (aCons (mUn negD (mC (.int 1))) (aCons (mC (.int 0)) (aCons (mOp subD (mVar 7) (mC (.int 1))) (aCons (mVar 7) (aNil))))))) (cNm 8) (yesT) (mOp modD (mCall intD (aCons (mOp addD (mVar 6) (mVar 8)) (aNil))) (mVar 0)))))) (sRet (mVar 3)))))
def u__law_is_in : MD := mkD 3 3 (sRet (mOp ltD (mOp modD (mCall intD (aCons (mOp subD (mVar 2) (mOp idxD (mVar 0) (mC (.int 0)))) (aNil))) (mVar 1)) (mOp idxD (mVar 0) (mC (.int 1)))))
end C
end Z

set_option linter.all false
set_option maxRecDepth 100000
namespace Z
namespace C
open PySem
def u_P_law_made : MD := mkD 1 8 (sSeq (sAsg (gSeq (gsCons (gNm 1) (gsCons (gNm 2) (gsCons (gNm 3) (gsCons (gNm 4) (gsCons (gNm 5) (gsCons (gNm 6) (gsCons (gNm 7) (gsNil))))))))) (mVar 0)) (sRet (mCallD (mdMake "Ring" u_Ring___init__) (aCons (mVar 1) (aCons (mVar 2) (aCons (mVar 3) (aCons (mVar 4) (aCons (mVar 5) (aCons (mVar 6) (aCons (mVar 7) (aNil)))))))))))
def u_P_law_far : MD := mkD 2 4 (sSeq (sSet 2 (mC (.int 0))) (sSeq (sFor (rngI (aCons (mC (.int 3)) (aNil))) (gNm 3) (sSet 2 (mOp addD (mOp mulD (mVar 2) (mOp powD (mC (.int 10)) (mC (.int 6)))) (mCallD u__law_draw (aCons (mVar 0) (aCons (mOp powD (mC (.int 10)) (mC (.int 6))) (aNil))))))) (sRet (mOp modD (mCall intD (aCons (mVar 2) (aNil))) (mVar 1)))))
def u__law_great : MD := mkD 1 11 (sSeq (sSet 1 (mCallD u__law_pick (aCons (mVar 0) (aCons (mLst (aCons (mOp powD (mC (.int 10)) (mC (.int 18))) (aCons (mOp powD (mC (.int 10)) (mC (.int 18))) (aCons (mOp addD (mOp powD (mC (.int 10)) (mC (.int 6))) (mC (.int 3))) (aCons (mC (.int 97)) (aNil)))))) (aNil))))) (sSeq (sPar [2, 3] (xVal (mLst (aNil)) (xOwn (mLst (aNil)) (xNil)))) (sSeq (sFor (rngI (aCons (mOp addD (mC (.int 1)) (mCallD u__law_draw (aCons (mVar 0) (aCons (mC (.int 6)) (aNil))))) (aNil))) (gNm 4) (sSeq (sOwn 5 (mLst (aNil))) (sSeq (sFor (rngI (aCons (mOp addD (mC (.int 1)) (mCallD u__law_draw (aCons (mVar 0) (aCons (mC (.int 4)) (aNil))))) (aNil))) (gNm 6) (sSeq (sSet 7 (mCallD u__law_pick (aCons (mVar 0) (aCons (mLst (aCons (mCallD u_P_law_far (aCons (mVar 0) (aCons (mVar 1) (aNil)))) (aCons (mCallD u__law_draw (aCons (mVar 0) (aCons (mC (.int 40)) (aNil)))) (aCons (mOp subD (mVar 1) (mC (.int 1))) (aNil))))) (aNil))))) (sIf (tBor 5 (mT (mOp notInAD (mVar 7) (mOp addAll (mVar 2) (mVar 5))))) (sApp 5 (mVar 7)) (sNil)))) (sFrz 5 (sIf (mT (mOp neD (mVar 5) (mLst (aNil)))) (sSeq (sApp 3 (mTup (aCons (mOp idxD (mC (.str "abcdefgh")) (mVar 4)) (aCons (mCallD u__law_pick (aCons (mVar 0) (aCons (mLst (aCons (mC (.str "r1")) (aCons (mC (.str "r2")) (aCons (mC (.str "r3")) (aNil))))) (aNil)))) (aCons (mCall tupleD (aCons (mCallD (fun ds s => lft (sortedD ds) s) (aCons (mVar 5) (aNil))) (aNil))) (aNil)))))) (sSet 2 (mOp addAll (mVar 2) (mVar 5)))) (sNil)))))) (sSeq (sFrz 3 (sIf (mT (mOp eqD (mVar 3) (mLst (aNil)))) (sOwn 3 (mLst (aCons (mTup (aCons (mC (.str "a")) (aCons (mC (.str "r1")) (aCons (mTup (aCons (mC (.int 5)) (aNil))) (aNil))))) (aNil)))) (sNil))) (sSeq (sSet 8 (mOp addD (mC (.int 1)) (mCallD u__law_draw (aCons (mVar 0) (aCons (mC (.int 5)) (aNil)))))) (sSeq (sOwn 9 (mLc [4] (rngI (aCons (mC (.int 2)) (aNil))) (cNm 4) (yesT) (mOp addD (mC (.int 1)) (mCallD u__law_draw (aCons (mVar 0) (aCons (mVar 8) (aNil))))))) (sSeq (sSet 10 (mLst (aCons (mCallD u__law_pick (aCons (mVar 0) (aCons (mLst (aCons (mC (.str "hosts")) (aCons (mC (.str "racks")) (aNil)))) (aNil)))) (aCons (mCallD u__law_pick (aCons (mVar 0) (aCons (mLst (aCons (mC (.str "plain")) (aCons (mC (.str "with")) (aNil)))) (aNil)))) (aNil))))) (sFrz 9 (sFrz 3 (sRet (mLst (aCons (mVar 1) (aCons (mVar 8) (aCons (mOp idxD (mVar 10) (mC (.int 0))) (aCons (mOp idxD (mVar 9) (mC (.int 0))) (aCons (mOp idxD (mVar 9) (mC (.int 1))) (aCons (mOp idxD (mVar 10) (mC (.int 1))) (aCons (mCall tupleD (aCons (mVar 3) (aNil))) (aNil)))))))))))))))))))
def u__law_due : MD := mkD 2 9 (sSeq (sSet 2 (mSos (mLc [3] (seqI (mOp addD (mOp idxD (mVar 0) (mC (.int 6))) (mOp idxD (mVar 1) (mC (.int 6))))) (cNm 3) (yesT) (mOp idxD (mVar 3) (mC (.int 0)))))) (sSeq (sPar [4, 5] (xOwn (mCallD (fun ds s => lft (dictPD ds) s) (aCons (mLc [3] (seqI (mVar 2)) (cNm 3) (yesT) (mTup (aCons (mVar 3) (aCons (mC (.int 0)) (aNil))))) (aNil))) (xOwn (mCallD (fun ds s => lft (dictPD ds) s) (aCons (mLc [3] (seqI (mVar 2)) (cNm 3) (yesT) (mTup (aCons (mVar 3) (aCons (mC (.int 0)) (aNil))))) (aNil))) (xNil)))) (sSeq (sFor (rngI (aCons (mOp idxD (mVar 0) (mC (.int 0))) (aNil))) (gNm 6) (sSeq (sPar [7, 8] (xVal (mCallD u__law_keepers (aCons (mVar 0) (aCons (mVar 6) (aNil)))) (xVal (mCallD u__law_keepers (aCons (mVar 1) (aCons (mVar 6) (aNil)))) (xNil)))) (sFor (seqI (mVar 2)) (gNm 3) (sSeq (sPutK 4 (mVar 3) (mBor 4 (mOp addD (mOp idxDic (mVar 4) (mVar 3)) (mIf (tAndZ (mT (mOp inAD (mVar 3) (mVar 8))) (mT (mOp notInAD (mVar 3) (mVar 7)))) (mC (.int 1)) (mC (.int 0)))))) (sPutK 5 (mVar 3) (mBor 5 (mOp addD (mOp idxDic (mVar 5) (mVar 3)) (mIf (tAndZ (mT (mOp inAD (mVar 3) (mVar 7))) (mT (mOp notInAD (mVar 3) (mVar 8)))) (mC (.int 1)) (mC (.int 0)))))))))) (sFrz 5 (sFrz 4 (sRet (mCall tupleD (aCons (mLc [3] (seqI (mVar 2)) (cNm 3) (yesT) (mTup (aCons (mVar 3) (aCons (mOp idxDic (mVar 4) (mVar 3)) (aCons (mOp idxDic (mVar 5) (mVar 3)) (aNil)))))) (aNil)))))))))
end C
end Z

set_option linter.all false
set_option maxRecDepth 100000
namespace Z
namespace C
open PySem
def u__law_counts : MD := mkD 1 10 (sSeq (sPar [1, 2] (xVal (mOp idxD (mVar 0) (mC (.int 0))) (xVal (mCallD u__law_whose (aCons (mOp idxD (mVar 0) (mC (.int 6))) (aNil))) (xNil)))) (sSeq (sSet 3 (mCallD (fun ds s => lft (dictPD ds) s) (aCons (mLc [4, 5, 6] (seqI (mOp idxD (mVar 0) (mC (.int 6)))) (cTup [4, 5, 6]) (yesT) (mTup (aCons (mVar 4) (aCons (mCel (mLst (aCons (mC (.int 0)) (aCons (mC (.int 0)) (aNil))))) (aNil))))) (aNil)))) (sSeq (sFor (rngI (aCons (mVar 1) (aNil))) (gNm 7) (sSeq (sSet 8 (mCallD u__law_keep (aCons (mVar 0) (aCons (mCallD u__law_round (aCons (mVar 1) (aCons (mVar 2) (aCons (mVar 7) (aNil))))) (aNil))))) (sSeq (sFor (seqI (mVar 8)) (gNm 4) (sSeq (sSet 9 (mOp idxDic (mVar 3) (mVar 4))) (sAsg (gCel (mVar 9) (mC (.int 0))) (mOp addD (mOpM idxCel (mVar 9) (mC (.int 0))) (mC (.int 1)))))) (sSeq (sSet 9 (mOp idxDic (mVar 3) (mOp idxD (mVar 8) (mC (.int 0))))) (sAsg (gCel (mVar 9) (mC (.int 1))) (mOp addD (mOpM idxCel (mVar 9) (mC (.int 1))) (mC (.int 1)))))))) (sRet (mVar 3)))))
def u_counts_of : MD := mkD 1 4 (sSeq (sOwn 1 (mDc [2] (seqI (mProp "Ring" u_Ring_names (mVar 0))) (cNm 2) (yesT) (mVar 2) (mC (.int 0)))) (sSeq (sFor (seqI (mCallD u_own_cells (aCons (mVar 0) (aNil)))) (gNm 3) (sFor (seqI (mCallD u_keepers_of (aCons (mVar 0) (aCons (mFld "Cell" "last" (mVar 3)) (aNil))))) (gNm 2) (sAugK 1 (mVar 2) (mFld "Cell" "many" (mVar 3))))) (sFrz 1 (sRet (mVar 1)))))
def u_kept : MD := mkD 2 2 (sSeq (sExpr (mCallD u_check_ring (aCons (mVar 0) (aNil)))) (sSeq (sExpr (mCallD u_check_host (aCons (mVar 0) (aCons (mVar 1) (aNil))))) (sRet (mOp idxDic (mCallD u_counts_of (aCons (mVar 0) (aNil))) (mVar 1)))))
def u_leads : MD := mkD 2 3 (sSeq (sExpr (mCallD u_check_ring (aCons (mVar 0) (aNil)))) (sSeq (sExpr (mCallD u_check_host (aCons (mVar 0) (aCons (mVar 1) (aNil))))) (sRet (mCall sumD (aCons (mLc [2] (seqI (mCallD u_own_cells (aCons (mVar 0) (aNil)))) (cNm 2) (mT (mOp eqD (mOp idxD (mCallD u_keepers_of (aCons (mVar 0) (aCons (mFld "Cell" "last" (mVar 2)) (aNil)))) (mC (.int 0))) (mVar 1))) (mFld "Cell" "many" (mVar 2))) (aNil))))))
def u_shares : MD := mkD 1 1 (sSeq (sExpr (mCallD u_check_ring (aCons (mVar 0) (aNil)))) (sRet (mUn tupleItemsD (mCallD u_counts_of (aCons (mVar 0) (aNil))))))
def u_greatest : MD := mkD 1 1 (sSeq (sExpr (mCallD u_check_ring (aCons (mVar 0) (aNil)))) (sRet (mUn maxValsD (mCallD u_counts_of (aCons (mVar 0) (aNil))))))
def u__law_told_right : MD := mkD 2 5 (sSeq (sForK 1 (gNm 2) (sSeq (sIf (mT (mOp neD (mCallD reprM (aCons (mLst (aCons (mCallD u_kept (aCons (mVar 0) (aCons (mVar 2) (aNil)))) (aCons (mCallD (mdPick [1, 0] u_kept) (aCons (mVar 2) (aCons (mVar 0) (aNil)))) (aNil)))) (aNil))) (mCallD reprM (aCons (mOp repD (mLst (aCons (mOpM idxCel (mOp idxDic (mVar 1) (mVar 2)) (mC (.int 0))) (aNil))) (mC (.int 2))) (aNil))))) (sRet (mC (.bl false))) (sNil)) (sIf (mT (mOp neD (mCallD reprM (aCons (mLst (aCons (mCallD u_leads (aCons (mVar 0) (aCons (mVar 2) (aNil)))) (aCons (mCallD (mdPick [1, 0] u_leads) (aCons (mVar 2) (aCons (mVar 0) (aNil)))) (aNil)))) (aNil))) (mCallD reprM (aCons (mOp repD (mLst (aCons (mOpM idxCel (mOp idxDic (mVar 1) (mVar 2)) (mC (.int 1))) (aNil))) (mC (.int 2))) (aNil))))) (sRet (mC (.bl false))) (sNil)))) (sSeq (sSet 3 (mCallD reprM (aCons (mCall tupleD (aCons (mLc [2] (seqI (mCallD (fun ds s => lft (sortedDicD ds) s) (aCons (mVar 1) (aNil)))) (cNm 2) (yesT) (mTup (aCons (mVar 2) (aCons (mOpM idxCel (mOp idxDic (mVar 1) (mVar 2)) (mC (.int 0))) (aNil))))) (aNil))) (aNil)))) (sSeq (sSet 4 (mCallD reprM (aCons (mCall maxLD (aCons (mLcK 1 [2] (cNm 2) (yesT) (mOpM idxCel (mOp idxDic (mVar 1) (mVar 2)) (mC (.int 0)))) (aNil))) (aNil)))) (sSeq (sIf (mT (mOp neD (mLst (aCons (mCallD reprM (aCons (mCallD u_shares (aCons (mVar 0) (aNil))) (aNil))) (aCons (mCallD reprM (aCons (mCallD (mdPick [0] u_shares) (aCons (mVar 0) (aNil))) (aNil))) (aNil)))) (mLst (aCons (mVar 3) (aCons (mVar 3) (aNil)))))) (sRet (mC (.bl false))) (sNil)) (sRet (mOp eqD (mLst (aCons (mCallD reprM (aCons (mCallD u_greatest (aCons (mVar 0) (aNil))) (aNil))) (aCons (mCallD reprM (aCons (mCallD (mdPick [0] u_greatest) (aCons (mVar 0) (aNil))) (aNil))) (aNil)))) (mLst (aCons (mVar 4) (aCons (mVar 4) (aNil))))))))))
def u__law_counted : MD := mkD 1 8 (sSeq (sOwn 1 (mCallD (fun ds s => lft (dictPD ds) s) (aCons (mLc [2, 3, 4] (seqI (mOp idxD (mVar 0) (mC (.int 6)))) (cTup [2, 3, 4]) (yesT) (mTup (aCons (mVar 2) (aCons (mC (.int 0)) (aNil))))) (aNil)))) (sSeq (sFor (seqI (mCallD u__law_parted (aCons (mOp idxD (mVar 0) (mC (.int 0))) (aCons (mCallD u__law_borders (aCons (mOp idxD (mVar 0) (mC (.int 6))) (aNil))) (aNil))))) (gSeq (gsCons (gNm 5) (gsCons (gNm 6) (gsCons (gNm 7) (gsNil))))) (sFor (seqI (mCallD u__law_keep (aCons (mVar 0) (aCons (mCallD u__law_far (aCons (mVar 0) (aCons (mVar 7) (aNil)))) (aNil))))) (gNm 2) (sPutK 1 (mVar 2) (mBor 1 (mOp addD (mOp idxDic (mVar 1) (mVar 2)) (mVar 6)))))) (sFrz 1 (sRet (mVar 1)))))
def u__law_firsts : MD := mkD 1 8 (sSeq (sOwn 1 (mCallD (fun ds s => lft (dictPD ds) s) (aCons (mLc [2, 3, 4] (seqI (mOp idxD (mVar 0) (mC (.int 6)))) (cTup [2, 3, 4]) (yesT) (mTup (aCons (mVar 2) (aCons (mC (.int 0)) (aNil))))) (aNil)))) (sSeq (sFor (seqI (mCallD u__law_parted (aCons (mOp idxD (mVar 0) (mC (.int 0))) (aCons (mCallD u__law_borders (aCons (mOp idxD (mVar 0) (mC (.int 6))) (aNil))) (aNil))))) (gSeq (gsCons (gNm 5) (gsCons (gNm 6) (gsCons (gNm 7) (gsNil))))) (sSeq (sSet 2 (mOp idxD (mCallD u__law_far (aCons (mVar 0) (aCons (mVar 7) (aNil)))) (mC (.int 0)))) (sPutK 1 (mVar 2) (mBor 1 (mOp addD (mOp idxDic (mVar 1) (mVar 2)) (mVar 6)))))) (sFrz 1 (sRet (mVar 1)))))
def u__law_even_right : MD := mkD 1 15 (sSeq (sPar [1, 2] (xVal (mOp addD (mC (.int 1)) (mCallD u__law_dip (aCons (mVar 0) (aCons (mC (.int 12)) (aNil))))) (xVal (mOp addD (mC (.int 1)) (mCallD u__law_dip (aCons (mVar 0) (aCons (mC (.int 4)) (aNil))))) (xNil)))) (sSeq (sSet 3 (mOp addD (mC (.int 1)) (mCallD u__law_vast (aCons (mVar 0) (aCons (mCallD u__law_of (aCons (mVar 0) (aCons (mLst (aCons (mC (.int 3)) (aCons (mOp powD (mC (.int 10)) (mC (.int 9))) (aCons (mOp fdivD (mOp powD (mC (.int 10)) (mC (.int 18))) (mOp mulD (mVar 1) (mVar 2))) (aNil))))) (aNil)))) (aNil)))))) (sSeq (sSet 4 (mCallD u__law_rule (aCons (mVar 0) (aNil)))) (sSeq (sPar [5, 6] (xVal (mCallD u__law_vast (aCons (mVar 0) (aCons (mOp mulD (mOp mulD (mVar 3) (mVar 1)) (mVar 2)) (aNil)))) (xVal (mOp mulD (mOp mulD (mVar 3) (mVar 1)) (mVar 2)) (xNil)))) (sSeq (sOwn 7 (mLst (aNil))) (sSeq (sFor (rngI (aCons (mVar 1) (aNil))) (gNm 8) (sSeq (sSet 9 (mCallD (fun ds s => lft (sortedD ds) s) (aCons (mLc [10] (rngI (aCons (mVar 2) (aNil))) (cNm 10) (yesT) (mOp modD (mCall intD (aCons (mOp addD (mVar 5) (mOp mulD (mVar 3) (mOp addD (mOp mulD (mVar 1) (mVar 10)) (mVar 8)))) (aNil))) (mVar 6))) (aNil)))) (sApp 7 (mTup (aCons (mOp addD (mC (.str "h")) (mCall strD (aCons (mVar 8) (aNil)))) (aCons (mOp addD (mC (.str "r")) (mCall strD (aCons (mVar 8) (aNil)))) (aCons (mCall tupleD (aCons (mVar 9) (aNil))) (aNil)))))))) (sSeq (sFrz 7 (sSet 11 (mCallD u__law_plain (aCons (mOp addAll (mOp addAll (mLst (aCons (mVar 6) (aNil))) (mVar 4)) (mLst (aCons (mCall tupleD (aCons (mVar 7) (aNil))) (aNil)))) (aNil))))) (sSeq (sSet 12 (mCall tupleD (aCons (mCallD (fun ds s => lft (sortedD ds) s) (aCons (mLc [8] (rngI (aCons (mVar 1) (aNil))) (cNm 8) (yesT) (mTup (aCons (mOp addD (mC (.str "h")) (mCall strD (aCons (mVar 8) (aNil)))) (aCons (mOp mulD (mOp mulD (mVar 3) (mVar 2)) (mCall min2D (aCons (mOp idxD (mVar 4) (mC (.int 0))) (aCons (mVar 1) (aNil))))) (aNil))))) (aNil))) (aNil)))) (sSeq (sIf (tOrZ (mT (mOp neD (mCallD reprM (aCons (mCallD u_shares (aCons (mVar 11) (aNil))) (aNil))) (mCallD reprM (aCons (mVar 12) (aNil))))) (mT (mOp neD (mCallD u_greatest (aCons (mVar 11) (aNil))) (mOp mulD (mOp mulD (mVar 3) (mVar 2)) (mCall min2D (aCons (mOp idxD (mVar 4) (mC (.int 0))) (aCons (mVar 1) (aNil)))))))) (sRet (mC (.bl false))) (sNil)) (sRet (mOp eqD (mLc [13, 14] (seqI (mVar 12)) (cTup [13, 14]) (yesT) (mCallD u_leads (aCons (mVar 11) (aCons (mVar 13) (aNil))))) (mOp repD (mLst (aCons (mOp mulD (mVar 3) (mVar 2)) (aNil))) (mVar 1)))))))))))))
end C
end Z

set_option linter.all false
set_option maxRecDepth 100000
namespace Z
namespace C
open PySem
def u_moves : MD := mkD 2 10 (sSeq (sExpr (mCallD u_check_both (aCons (mVar 0) (aCons (mVar 1) (aNil))))) (sSeq (sSet 2 (mCallD (fun ds s => lft (sortedDicD ds) s) (aCons (mMrg (mFld "Ring" "racks" (mVar 0)) (mFld "Ring" "racks" (mVar 1))) (aNil)))) (sSeq (sPar [3, 4] (xOwn (mDc [5] (seqI (mVar 2)) (cNm 5) (yesT) (mVar 5) (mC (.int 0))) (xOwn (mDc [5] (seqI (mVar 2)) (cNm 5) (yesT) (mVar 5) (mC (.int 0))) (xNil)))) (sSeq (sFor (seqI (mCallD u_common_of (aCons (mVar 0) (aCons (mVar 1) (aNil))))) (gSeq (gsCons (gNm 6) (gsCons (gNm 7) (gsCons (gNm 8) (gsCons (gNm 9) (gsNil)))))) (sFor (seqI (mVar 2)) (gNm 5) (sSeq (sIf (tAndZ (mT (mOp inAD (mVar 5) (mVar 9))) (mT (mOp notInAD (mVar 5) (mVar 8)))) (sAugK 3 (mVar 5) (mVar 7)) (sNil)) (sIf (tAndZ (mT (mOp inAD (mVar 5) (mVar 8))) (mT (mOp notInAD (mVar 5) (mVar 9)))) (sAugK 4 (mVar 5) (mVar 7)) (sNil))))) (sFrz 4 (sFrz 3 (sRet (mCall tupleD (aCons (mLc [5] (seqI (mVar 2)) (cNm 5) (yesT) (mTup (aCons (mVar 5) (aCons (mOp idxDic (mVar 3) (mVar 5)) (aCons (mOp idxDic (mVar 4) (mVar 5)) (aNil)))))) (aNil))))))))))
def u_moved : MD := mkD 2 5 (sRet (mCall sumD (aCons (mLc [2, 3, 4] (seqI (mCallD u_moves (aCons (mVar 0) (aCons (mVar 1) (aNil))))) (cTup [2, 3, 4]) (yesT) (mVar 3)) (aNil))))
def u__law_fresh : MD := mkD 2 8 (sSeq (sPar [2, 3] (xVal (mCallD u__law_taken (aCons (mOp idxD (mVar 1) (mC (.int 6))) (aNil))) (xOwn (mLst (aNil)) (xNil)))) (sSeq (sFor (rngI (aCons (mOp addD (mC (.int 1)) (mCallD u__law_draw (aCons (mVar 0) (aCons (mC (.int 4)) (aNil))))) (aNil))) (gNm 4) (sSeq (sSet 5 (mCallD u__law_pick (aCons (mVar 0) (aCons (mLst (aCons (mCallD u_P_law_far (aCons (mVar 0) (aCons (mOp idxD (mVar 1) (mC (.int 0))) (aNil)))) (aCons (mCallD u__law_draw (aCons (mVar 0) (aCons (mC (.int 60)) (aNil)))) (aNil)))) (aNil))))) (sIf (tBor 3 (mT (mOp notInAD (mVar 5) (mOp addAll (mVar 2) (mVar 3))))) (sApp 3 (mVar 5)) (sNil)))) (sSeq (sOwn 6 (mLc [7] (rngI (aCons (mC (.int 60)) (aNil))) (cNm 7) (mT (mOp notInAD (mVar 7) (mVar 2))) (mVar 7))) (sSeq (sFrz 6 (sFrz 3 (sSet 3 (mIf (mT (mOp neD (mVar 3) (mLst (aNil)))) (mVar 3) (mSl slL (mVar 6) (oNone) (oSome (mC (.int 1)))))))) (sRet (mTup (aCons (mC (.str "n")) (aCons (mCallD u__law_pick (aCons (mVar 0) (aCons (mLst (aCons (mC (.str "r1")) (aCons (mC (.str "r2")) (aCons (mC (.str "r4")) (aNil))))) (aNil)))) (aCons (mCall tupleD (aCons (mCallD (fun ds s => lft (sortedD ds) s) (aCons (mVar 3) (aNil))) (aNil))) (aNil))))))))))
def u__law_join_right : MD := mkD 5 17 (sSeq (sPar [5, 6] (xVal (mCallD u_moves (aCons (mVar 3) (aCons (mVar 4) (aNil)))) (xVal (mLst (aCons (mCallD (fun ds s => lft (dictPD ds) s) (aCons (mCall listD (aCons (mCallD u_shares (aCons (mVar 3) (aNil))) (aNil))) (aNil))) (aCons (mCallD (fun ds s => lft (dictPD ds) s) (aCons (mCall listD (aCons (mCallD u_shares (aCons (mVar 4) (aNil))) (aNil))) (aNil))) (aNil)))) (xNil)))) (sSeq (sPar [7, 8] (xVal (mCall sumD (aCons (mLc [9] (seqI (mVar 5)) (cNm 9) (yesT) (mOp idxD (mVar 9) (mC (.int 1)))) (aNil))) (xVal (mCall sumD (aCons (mLc [9] (seqI (mVar 5)) (cNm 9) (yesT) (mOp idxD (mVar 9) (mC (.int 2)))) (aNil))) (xNil)))) (sSeq (sFor (seqI (mVar 5)) (gSeq (gsCons (gNm 10) (gsCons (gNm 11) (gsCons (gNm 12) (gsNil))))) (sSeq (sIf (tOrZ (tAndZ (mT (mOp neD (mVar 10) (mC (.str "n")))) (mT (mOp gtD (mVar 11) (mC (.int 0))))) (tAndZ (mT (mOp eqD (mVar 10) (mC (.str "n")))) (mT (mOp gtD (mVar 12) (mC (.int 0)))))) (sRet (mC (.bl false))) (sNil)) (sIf (mT (mOp neD (mOp subD (mGet (mOp idxD (mVar 6) (mC (.int 1))) (mVar 10) (mC (.int 0))) (mGet (mOp idxD (mVar 6) (mC (.int 0))) (mVar 10) (mC (.int 0)))) (mOp subD (mVar 11) (mVar 12)))) (sRet (mC (.bl false))) (sNil)))) (sSeq (sIf (tOrZ (tAndZ (mT (mOp geD (mCall lenD (aCons (mOp idxD (mVar 1) (mC (.int 6))) (aNil))) (mOp idxD (mVar 1) (mC (.int 1))))) (mT (mOp neD (mVar 7) (mVar 8)))) (mT (mOp gtD (mVar 8) (mVar 7)))) (sRet (mC (.bl false))) (sNil)) (sSeq (sFor (rngI (aCons (mC (.int 20)) (aNil))) (gNm 13) (sSeq (sSet 14 (mCallD u_P_law_far (aCons (mVar 0) (aCons (mOp idxD (mVar 1) (mC (.int 0))) (aNil))))) (sSeq (sPar [15, 16] (xVal (mCallD u__law_keepers (aCons (mVar 1) (aCons (mVar 14) (aNil)))) (xVal (mCallD u__law_keepers (aCons (mVar 2) (aCons (mVar 14) (aNil)))) (xNil)))) (sSeq (sIf (mT (mOp gtD (mCall lenD (aCons (mLc [10] (seqI (mVar 15)) (cNm 10) (mT (mOp notInAD (mVar 10) (mVar 16))) (mVar 10)) (aNil))) (mC (.int 1)))) (sRet (mC (.bl false))) (sNil)) (sIf (mT (mOp neD (mLc [10] (seqI (mVar 16)) (cNm 10) (mT (mOp notInAD (mVar 10) (mOp addD (mVar 15) (mTup (aCons (mC (.str "n")) (aNil)))))) (mVar 10)) (mLst (aNil)))) (sRet (mC (.bl false))) (sNil)))))) (sRet (mCallD u_alike (aCons (mMeth "Ring" "left" u_Ring_left (mVar 4) (aCons (mC (.str "n")) (aNil))) (aCons (mVar 3) (aNil))))))))))
end C
end Z

set_option Elab.async false
set_option linter.all false
set_option maxRecDepth 100000
namespace Z
/-! ### arcs, plainly -/
structure IsArc (z : Int) (U : Int → Bool) (p k : Int) : Prop where
  p0 : 0 ≤ p
  p1 : p < z
  here : U p = true
  ahead : U ((p - 1) % z) = false
  k0 : 1 ≤ k
  k1 : k < z
  all : ∀ i, 0 ≤ i → i < k → U ((p + i) % z) = true
  stop : U ((p + k) % z) = false
structure Cut (z : Int) (n st : Nat) (F M : Nat → Int) (mkd : Nat → Bool) (U : Int → Bool) : Prop where
  z0 : 0 < z
  s1 : st < n
  un : mkd st = false
  f0 : ∀ j, j < n → 0 ≤ F j ∧ F j < z
  m1 : ∀ j, j < n → 1 ≤ M j
  sum : ((List.range n).map M).sum = z
  next : ∀ j, j < n → (F j + M j) % z = F ((j + 1) % n)
  eq : ∀ j, j < n → ∀ i, 0 ≤ i → i < M j → U ((F j + i) % z) = mkd j
def ordC (n st t : Nat) : Nat := (st + t) % n
def offC (n st : Nat) (M : Nat → Int) : Nat → Int
  | 0 => 0
  | t + 1 => offC n st M t + M (ordC n st t)
section
variable {z : Int} {n st : Nat} {F M : Nat → Int} {mkd : Nat → Bool} {U : Int → Bool}
/-- the point behind so many -/
def atC' (z f x : Int) : Int := (f + x) % z
/-- runs up to X -/
structure Runs (V : Int → Bool) (X : Int) (R : List (Int × Int)) : Prop where
  up : R.Pairwise fun a b => a.1 + a.2 < b.1
  ok : ∀ r ∈ R, 0 ≤ r.1 ∧ 1 ≤ r.2 ∧ r.1 + r.2 ≤ X ∧ ∀ x, r.1 ≤ x → x < r.1 + r.2 → V x = true
  cov : ∀ x, 0 ≤ x → x < X → V x = true → ∃ r ∈ R, r.1 ≤ x ∧ x < r.1 + r.2
theorem Runs.nil (V : Int → Bool) : Runs V 0 [] := ⟨.nil, (fun r h => by cases h), fun x h0 h1 => by omega⟩
theorem Runs.skip {V : Int → Bool} {X Y : Int} {R : List (Int × Int)} (h : Runs V X R) (hxy : X ≤ Y) (no : ∀ x, X ≤ x → x < Y → V x = false) : Runs V Y R :=
  ⟨h.up, fun r hr => let ⟨a, b, c, d⟩ := h.ok r hr; ⟨a, b, by omega, d⟩, fun x h0 h1 hv => by
    by_cases hx : x < X
    · exact h.cov x h0 hx hv
    · rw [no x (by omega) h1] at hv; cases hv⟩
theorem Runs.more {V : Int → Bool} {X Y : Int} {R : List (Int × Int)} (h : Runs V X R) (hx : 0 ≤ X) (hxy : X < Y) (yes : ∀ x, X ≤ x → x < Y → V x = true) (no : X = 0 ∨ V (X - 1) = false) : Runs V Y (R ++ [(X, Y - X)]) := by
  have strict : ∀ r ∈ R, r.1 + r.2 < X := fun r hr => by
    obtain ⟨a, b, c, d⟩ := h.ok r hr
    rcases no with no | no
    · omega
    · refine Classical.byContradiction fun q => ?_
      have := d (X - 1) (by omega) (by omega)
      rw [no] at this; cases this
  refine ⟨?_, fun r hr => ?_, fun x h0 h1 hv => ?_⟩
  · rw [List.pairwise_append]
    exact ⟨h.up, by simp, fun a ha b hb => by rw [List.mem_singleton.mp hb]; exact strict a ha⟩
  · rcases List.mem_append.mp hr with q | q
    · obtain ⟨a, b, c, d⟩ := h.ok r q
      exact ⟨a, b, by omega, d⟩
    · rw [List.mem_singleton.mp q]
      exact ⟨hx, by show 1 ≤ Y - X; omega, by show X + (Y - X) ≤ Y; omega, fun x h1 h2 => yes x h1 (by have : x < X + (Y - X) := h2; omega)⟩
  · by_cases hxx : x < X
    · obtain ⟨r, hr, q⟩ := h.cov x h0 hxx hv
      exact ⟨r, List.mem_append_left _ hr, q⟩
    · exact ⟨(X, Y - X), by simp, by show X ≤ x; omega, by show x < X + (Y - X); omega⟩
/-- the arcs found behind t cells -/
def ArcsAt (z : Int) (n st : Nat) (F M : Nat → Int) (U : Int → Bool) (t : Nat) (fs : List (Int × Int)) : Prop :=
  ∃ R, fs = R.map (fun r => (atC' z (F st) r.1, r.2)) ∧ Runs (fun x => U (atC' z (F st) x)) (offC n st M t) R
def prevC (n j : Nat) : Nat := if j = 0 then n - 1 else j - 1
end
end Z

namespace Z
namespace C
open PySem PySem.Spec PyProof.Rows L2
/-! ### rings joined, left, ruled, compared -/
abbrev Frame.wh (f : Frame) (hs : List Host) : Frame := { f with hs := hs }
def less (hs : List Host) (x : Str) : List Host := hs.filter fun h => !decide (h.nm = x)
theorem eq_ok {f g : Frame} (s : S) (F : FrOk 12 16 f) (G : FrOk 12 16 g) : u_Ring___eq__ [ringD f, ringD g] s = some (.bl (decide (textOf f = textOf g)), s) := by
  have a := str_ok s F
  have b := str_ok s G
  refine eq_of_on ?_
  unfold u_Ring___eq__
  refine wp_mkD rfl ?_
  unfold ringD at *
  repeat bv_omega
  refine on_some a ⟨rfl, ?_⟩
  repeat bv_omega
  refine on_some b ⟨rfl, ?_⟩
  repeat bv_omega
  exact ⟨rfl, rfl⟩
abbrev Frame.wr (f : Frame) (a b : Int) (y : Str) : Frame := { f with a := a, b := b, y := y }
end C
end Z

namespace Z
namespace C
open PySem PySem.Spec PyProof.Rows L2
/-! ### marks in order -/
theorem lt_mark {p q : Int × Str} (h : p.1 < q.1) : ltS (markD q) (markD p) = false := by
  unfold ltS markD encD
  rw [decide_eq_false_iff_not]
  intro z
  simp only [List.flatMap_cons, List.flatMap_nil] at z
  rw [enc_int] at z
  omega
/-- names and marks, the marks ascending -/
structure Mk (hs : List Host) (mk : List (Int × Str)) : Prop where
  perm : mk.Perm (pairsOf hs)
  up : mk.Pairwise fun p q => p.1 < q.1
theorem pairs_fst (hs : List Host) : (pairsOf hs).map (·.1) = hs.flatMap (·.ms) := by
  unfold pairsOf
  rw [List.map_flatMap]
  congr 1
  funext h
  rw [List.map_map]
  exact List.map_id _
theorem mk_of {hs : List Host} (nd : (hs.flatMap (·.ms)).Nodup) : ∃ mk, Mk hs mk ∧ sortL ((pairsOf hs).map markD) = mk.map markD := by
  have p : ((pairsOf hs).mergeSort fun a b => decide (a.1 ≤ b.1)).Perm (pairsOf hs) := List.mergeSort_perm _ _
  have le := List.pairwise_mergeSort (le := fun a b : Int × Str => decide (a.1 ≤ b.1)) (fun a b c h1 h2 => by simp at h1 h2 ⊢; omega) (fun a b => by simp; omega) (pairsOf hs)
  have nd2 : (((pairsOf hs).mergeSort fun a b => decide (a.1 ≤ b.1)).map (·.1)).Nodup := ((p.map (·.1)).nodup_iff).mpr (by rw [pairs_fst]; exact nd)
  have up : ((pairsOf hs).mergeSort fun a b => decide (a.1 ≤ b.1)).Pairwise fun p q => p.1 < q.1 := by
    rw [List.nodup_iff_pairwise_ne, List.pairwise_map] at nd2
    exact (le.and nd2).imp fun {a b} h => by
      have h1 : a.1 ≤ b.1 := by simpa using h.1
      have := h.2
      omega
  refine ⟨_, ⟨p, up⟩, ?_⟩
  refine sortL_eq (p.map markD) ?_ ?_
  · show List.Pairwise _ _
    rw [List.pairwise_map]
    exact up.imp fun {a b} h => lt_mark h
  · exact (sameK_one (same_marks _)).inj
/-! ### first met -/
def addK (acc : List Str) (x : Str) : List Str := if x ∈ acc then acc else acc ++ [x]
def ded (l : List Str) : List Str := l.foldl addK []
theorem addK_mem {acc : List Str} {x y : Str} : y ∈ addK acc x ↔ y ∈ acc ∨ y = x := by
  unfold addK
  split
  · rename_i h
    exact ⟨.inl, fun e => e.elim id fun e => e ▸ h⟩
  · simp
theorem foldK_mem : ∀ (l acc : List Str) (y : Str), y ∈ l.foldl addK acc ↔ y ∈ acc ∨ y ∈ l
  | [], acc, y => by simp
  | x :: l, acc, y => by
    rw [List.foldl_cons, foldK_mem l, addK_mem]
    simp [or_assoc]
theorem addK_nd {acc : List Str} {x : Str} (h : acc.Nodup) : (addK acc x).Nodup := by
  unfold addK
  split
  · exact h
  · rename_i hx
    exact List.nodup_append.mpr ⟨h, by simp, fun a ha b hb e => hx (by rw [List.mem_singleton.mp hb] at e; exact e ▸ ha)⟩
theorem foldK_nd : ∀ (l acc : List Str), acc.Nodup → (l.foldl addK acc).Nodup
  | [], _, h => h
  | x :: l, acc, h => foldK_nd l _ (addK_nd h)
theorem ded_mem {l : List Str} {y : Str} : y ∈ ded l ↔ y ∈ l := by unfold ded; rw [foldK_mem]; simp
theorem ded_nd (l : List Str) : (ded l).Nodup := foldK_nd l [] (by simp)
theorem addK_len {acc : List Str} {x : Str} : (addK acc x).length ≤ acc.length + 1 := by
  unfold addK
  split
  · omega
  · simp
theorem foldK_len : ∀ (l acc : List Str), (l.foldl addK acc).length ≤ acc.length + l.length
  | [], _ => by simp
  | x :: l, acc => by
    have := foldK_len l (addK acc x)
    have := addK_len (acc := acc) (x := x)
    rw [List.foldl_cons, List.length_cons]
    omega
def keysD (l : List Str) : List (Key × D) := l.map fun x => (Sum.inr x, D.bl true)
theorem putD_key (acc : List Str) (x : Str) : putD (keysD acc) (Sum.inr x) (.bl true) = keysD (addK acc x) := by
  unfold putD addK
  by_cases h : x ∈ acc
  · rw [if_pos h, if_pos]
    · unfold keysD
      rw [List.map_map]
      refine List.map_congr_left fun y hy => ?_
      simp only [Function.comp]
      split <;> rfl
    · rw [List.any_eq_true]
      exact ⟨(Sum.inr x, .bl true), List.mem_map_of_mem (f := fun x => ((Sum.inr x : Key), D.bl true)) h, by simp⟩
  · rw [if_neg h, if_neg]
    · simp [keysD]
    · intro z
      obtain ⟨kv, h1, h2⟩ := List.any_eq_true.mp z
      obtain ⟨y, hy, rfl⟩ := List.mem_map.mp h1
      have := Sum.inr.inj (of_decide_eq_true h2)
      exact h (this ▸ hy)
/-- {name: True for name in names} -/
theorem dc_keys {mc : MC} {mk mv : ME} {e : EnvD} {s : S} (xs : List Str) (hl : xs.length ≤ 100000)
    (h : ∀ x ∈ xs, On1 (mc (.str x) e) fun e1 => On (mk e1 s) fun kd s1 => kd = .str x ∧ s1 = s ∧ On (mv e1 s) fun d s2 => d = .bl true ∧ s2 = s) :
    dcL mc yesT mk mv e (xs.map .str) [] s = some (keysD (ded xs), s) := by
  have key : ∀ (xs acc : List Str), acc.length + xs.length ≤ 100000 → (∀ x ∈ xs, On1 (mc (.str x) e) fun e1 => On (mk e1 s) fun kd s1 => kd = .str x ∧ s1 = s ∧ On (mv e1 s) fun d s2 => d = .bl true ∧ s2 = s) →
      dcL mc yesT mk mv e (xs.map .str) (keysD acc) s = some (keysD (xs.foldl addK acc), s) := by
    intro xs
    induction xs with
    | nil => intro acc _ _; rfl
    | cons x xs ih =>
      intro acc hl h
      obtain ⟨e1, h1, kd, s1, h2, rfl, rfl, d, s2, h4, rfl, rfl⟩ := h x (by simp)
      have hz : (keysD acc).length < sizeLine := by rw [sizeLine_eq, keysD, List.length_map]; simp at hl; omega
      have al := addK_len (acc := acc) (x := x)
      rw [List.map_cons]
      unfold dcL
      rw [h1]; dsimp only [yesT]
      rw [h2]; dsimp only
      rw [h4]; dsimp only [keyD]
      rw [if_pos hz, putD_key, ih _ (by simp at hl; omega) fun y hy => h y (by simp [hy])]
      rfl
  exact key xs [] (by simpa using hl) h
/-! ### the walk -/
def walkN (mk : List (Int × Str)) (p : Int) : List Str := ded ((mk.filter fun q => decide (p ≤ q.1)).map (·.2) ++ (mk.filter fun q => decide (q.1 < p)).map (·.2))
theorem kvd_keys (l : List Str) : (keysD l).map (fun p => kVD p.1) = l.map .str := by
  unfold keysD
  rw [List.map_map]
  rfl
theorem walkof_ok {f : Frame} {mk : List (Int × Str)} {p : Int} (s : S) (F : FrOk 12 16 f) (hm : Mk f.hs mk) (hs : sortL ((pairsOf f.hs).map markD) = mk.map markD) : u_walk_of [ringD f, .int p] s = some (.tup ((walkN mk p).map .str), s) := by
  have ml : mk.length ≤ 192 := by
    have := hm.perm.length_eq
    have e := congrArg List.length (pairs_fst f.hs)
    rw [List.length_map] at e
    have : (f.hs.flatMap (·.ms)).length ≤ f.hs.length * 16 := fm_len (k := 16) fun x hx => (F.hs.ne x hx).2
    have := F.h1
    omega
  have l1 := List.length_filter_le (fun q : Int × Str => decide (q.1 < p)) mk
  have l2 := List.length_filter_le (fun q : Int × Str => decide (p ≤ q.1)) mk
  refine eq_of_on ?_
  unfold u_walk_of
  refine wp_mkD rfl ?_
  unfold ringD ringF
  rw [hs]
  repeat bv_omega
  refine wp_lcF markD D.str (fun q => decide (q.1 < p)) (·.2) mk (fun q hq => ?_) ?_
  · unfold markD
    repeat bv_omega
    refine ⟨rfl, rfl, fun _ => ?_⟩
    repeat bv_omega
    exact ⟨rfl, rfl⟩
  refine wp_sz (by simp only [List.length_map]; omega) ?_
  repeat bv_omega
  refine wp_lcF markD D.str (fun q => decide (p ≤ q.1)) (·.2) mk (fun q hq => ?_) ?_
  · unfold markD
    repeat bv_omega
    refine ⟨rfl, rfl, fun _ => ?_⟩
    repeat bv_omega
    exact ⟨rfl, rfl⟩
  refine wp_sz (by simp only [List.length_map]; omega) ?_
  repeat bv_omega
  rw [List.append_nil, ← List.map_append]
  have dl : ((mk.filter fun q => decide (p ≤ q.1)).map (·.2) ++ (mk.filter fun q => decide (q.1 < p)).map (·.2)).length ≤ 100000 := by simp only [List.length_append, List.length_map]; omega
  refine on_some (dc_keys _ dl fun x hx => ?_) ?_
  · repeat bv_omega
    refine ⟨rfl, rfl, ?_⟩
    repeat bv_omega
    exact ⟨rfl, rfl⟩
  repeat bv_omega
  have kl : (keysD (walkN mk p)).length ≤ sizeLine := by
    have := foldK_len ((mk.filter fun q => decide (p ≤ q.1)).map (·.2) ++ (mk.filter fun q => decide (q.1 < p)).map (·.2)) []
    rw [sizeLine_eq, keysD, List.length_map, walkN, ded]
    simp only [List.length_nil] at this
    omega
  refine on1_some (show tupleDicD [.dic (keysD (walkN mk p))] = some (.tup ((walkN mk p).map .str)) from ?_) (cut_end zhP ⟨rfl, rfl⟩)
  unfold tupleDicD
  rw [← kvd_keys]
  exact if_pos kl
/-- what the rest takes of the marks -/
theorem mk_names {hs : List Host} {mk : List (Int × Str)} (hm : Mk hs mk) {q : Int × Str} : q ∈ mk ↔ ∃ h ∈ hs, q.2 = h.nm ∧ q.1 ∈ h.ms := by
  rw [hm.perm.mem_iff]
  unfold pairsOf
  rw [List.mem_flatMap]
  constructor
  · rintro ⟨h, hh, hq⟩
    obtain ⟨m, hm, rfl⟩ := List.mem_map.mp hq
    exact ⟨h, hh, rfl, hm⟩
  · rintro ⟨h, hh, h1, h2⟩
    exact ⟨h, hh, List.mem_map.mpr ⟨q.1, h2, by rw [← h1]⟩⟩
theorem walk_mem {hs : List Host} {mk : List (Int × Str)} (hm : Mk hs mk) (ne : ∀ h ∈ hs, h.ms ≠ []) {p : Int} {x : Str} : x ∈ walkN mk p ↔ x ∈ nmsOf hs := by
  unfold walkN nmsOf
  rw [ded_mem, List.mem_append, List.mem_map, List.mem_map, List.mem_map]
  constructor
  · rintro (⟨q, hq, rfl⟩ | ⟨q, hq, rfl⟩)
    · obtain ⟨h, hh, e, _⟩ := (mk_names hm).mp (List.mem_filter.mp hq).1
      exact ⟨h, hh, e.symm⟩
    · obtain ⟨h, hh, e, _⟩ := (mk_names hm).mp (List.mem_filter.mp hq).1
      exact ⟨h, hh, e.symm⟩
  · rintro ⟨h, hh, rfl⟩
    obtain ⟨m, hm'⟩ := List.exists_mem_of_ne_nil _ (ne h hh)
    have := (mk_names hm (q := (m, h.nm))).mpr ⟨h, hh, rfl, hm'⟩
    by_cases c : p ≤ m
    · exact .inl ⟨(m, h.nm), List.mem_filter.mpr ⟨this, by simpa using c⟩, rfl⟩
    · exact .inr ⟨(m, h.nm), List.mem_filter.mpr ⟨this, by simp; omega⟩, rfl⟩
theorem walk_perm {hs : List Host} {mk : List (Int × Str)} (hm : Mk hs mk) (ne : ∀ h ∈ hs, h.ms ≠ []) (nd : (hs.map (·.nm)).Nodup) (p : Int) : (walkN mk p).Perm (nmsOf hs) :=
  (List.perm_ext_iff_of_nodup (ded_nd _) nd).mpr fun x => walk_mem hm ne
end C
end Z

namespace Z
namespace C
open PySem PySem.Spec PyProof.Rows L2
/-! ### whose a point is -/
def ownN (mk : List (Int × Str)) (m : Int) : Option Str := (mk.find? fun q => decide (q.1 = m)).map (·.2)
def ownKV (ps : List (Int × Str)) : List (Key × D) := ps.map fun q => (Sum.inl q.1, D.str q.2)
/-! ### points in a row -/
end C
end Z

namespace Z
namespace C
open PySem PySem.Spec PyProof.Rows L2
/-! ### the first of each rack -/
def addF (rk : Str → Str) (acc : List Str) (x : Str) : List Str := if rk x ∈ acc.map rk then acc else acc ++ [x]
def firsts (rk : Str → Str) (w : List Str) : List Str := w.foldl (addF rk) []
theorem addF_mem {rk : Str → Str} {acc : List Str} {x y : Str} (h : y ∈ addF rk acc x) : y ∈ acc ∨ y = x := by
  unfold addF at h
  split at h
  · exact .inl h
  · simpa using h
theorem addF_rk {rk : Str → Str} {acc : List Str} {x : Str} {r : Str} : r ∈ (addF rk acc x).map rk ↔ r ∈ acc.map rk ∨ r = rk x := by
  unfold addF
  split
  · rename_i h
    constructor
    · exact .inl
    · rintro (a | rfl)
      · exact a
      · exact h
  · simp
theorem addF_len {rk : Str → Str} {acc : List Str} {x : Str} : (addF rk acc x).length ≤ acc.length + 1 := by
  unfold addF
  split <;> simp
theorem foldF_rk {rk : Str → Str} : ∀ (l acc : List Str) (r : Str), r ∈ (l.foldl (addF rk) acc).map rk ↔ r ∈ acc.map rk ∨ r ∈ l.map rk
  | [], acc, r => by simp
  | x :: l, acc, r => by
    rw [List.foldl_cons, foldF_rk l, addF_rk, List.map_cons, List.mem_cons, or_assoc]
theorem firsts_rk {rk : Str → Str} {l : List Str} {r : Str} : r ∈ (firsts rk l).map rk ↔ r ∈ l.map rk := by
  unfold firsts; rw [foldF_rk]; simp
theorem foldF_mem {rk : Str → Str} : ∀ (l acc : List Str) (y : Str), y ∈ l.foldl (addF rk) acc → y ∈ acc ∨ y ∈ l
  | [], _, _, h => .inl h
  | x :: l, acc, y, h => by
    rw [List.foldl_cons] at h
    rcases foldF_mem l _ y h with a | a
    · rcases addF_mem a with b | b
      · exact .inl b
      · exact .inr (b ▸ List.mem_cons_self)
    · exact .inr (List.mem_cons_of_mem _ a)
theorem firsts_mem {rk : Str → Str} {l : List Str} {y : Str} (h : y ∈ firsts rk l) : y ∈ l := by
  rcases foldF_mem l [] y h with a | a
  · cases a
  · exact a
theorem foldF_len {rk : Str → Str} : ∀ (l acc : List Str), (l.foldl (addF rk) acc).length ≤ acc.length + l.length
  | [], _ => by simp
  | x :: l, acc => by
    rw [List.foldl_cons]
    have h1 := foldF_len (rk := rk) l (addF rk acc x)
    have h2 := addF_len (rk := rk) (acc := acc) (x := x)
    simp only [List.length_cons]; omega
theorem firsts_len {rk : Str → Str} {l : List Str} : (firsts rk l).length ≤ l.length := by
  have := foldF_len (rk := rk) l []
  simpa [firsts] using this
theorem firsts_snoc {rk : Str → Str} (l : List Str) (x : Str) : firsts rk (l ++ [x]) = addF rk (firsts rk l) x := by unfold firsts; rw [List.foldl_append]; rfl
/-- who keeps, of a walk -/
def keepR (rk : Str → Str) (n : Nat) (w : List Str) : List Str := (((firsts rk w).take n) ++ w.filter fun x => decide (x ∉ (firsts rk w).take n)).take n
theorem keepR_eq {rk : Str → Str} {n : Nat} {w : List Str} : keepR rk n w = (firsts rk w).take n ++ (w.filter fun x => decide (x ∉ (firsts rk w).take n)).take (n - ((firsts rk w).take n).length) := by
  unfold keepR
  rw [List.take_append, List.take_take, Nat.min_self]
def firstKV (rk : Str → Str) (l : List Str) : List (Key × D) := l.map fun x => (Sum.inr (rk x), D.str x)
theorem firstKV_put {rk : Str → Str} (acc : List Str) (x : Str) : (if (lookD (firstKV rk acc) (Sum.inr (rk x))).isSome then firstKV rk acc else putD (firstKV rk acc) (Sum.inr (rk x)) (.str x)) = firstKV rk (addF rk acc x) := by
  have a : (lookD (firstKV rk acc) (Sum.inr (rk x))).isSome = true ↔ rk x ∈ acc.map rk := by
    unfold lookD firstKV
    rw [Option.isSome_map, List.find?_isSome]
    constructor
    · rintro ⟨kv, h1, h2⟩
      obtain ⟨y, hy, rfl⟩ := List.mem_map.mp h1
      have e : rk y = rk x := by simpa using h2
      exact e ▸ List.mem_map_of_mem hy
    · intro h
      obtain ⟨y, hy, e⟩ := List.mem_map.mp h
      exact ⟨_, List.mem_map_of_mem hy, by simp [e]⟩
  unfold addF
  by_cases h : rk x ∈ acc.map rk
  · rw [if_pos (a.mpr h), if_pos h]
  · rw [if_neg (fun q => h (a.mp q)), if_neg h]
    unfold putD
    rw [if_neg ?_]
    · unfold firstKV; simp
    · intro q
      apply h; apply a.mp
      obtain ⟨kv, h1, h2⟩ := List.any_eq_true.mp q
      unfold lookD; rw [Option.isSome_map, List.find?_isSome]; exact ⟨kv, h1, h2⟩
end C
end Z

namespace Z
namespace C
open PySem PySem.Spec PyProof.Rows L2
theorem wp_setd {e : EnvD} {s : S} {N B C : EnvD → S → Prop} {Rt T : D → S → Prop} {i : Nat} {kvs : List (Key × D)} {m1 m2 : ME} (hi : e[i]? = some (.own (.dic kvs)))
    (h : On (m1 e s) fun kd s1 => On (m2 e s1) fun d s2 => ∃ k, keyD kd = some k ∧ kvs.length < sizeLine ∧ N (e.set i (.own (.dic (if (lookD kvs k).isSome then kvs else putD kvs k d)))) s2) :
    OnS (sSetd i m1 m2 e s) N Rt B C T := ons_bndS (h.mono fun kd s1 h => ons_bndS (h.mono fun d s2 h => by
  obtain ⟨k, h1, h2, q⟩ := h
  refine ⟨.nx, _, _, ?_, q⟩
  rw [h1, hi]
  dsimp only
  rw [if_pos h2]))
def rkOf (hs : List Host) (x : Str) : Str := ((hs.find? fun h => decide (h.nm = x)).map (·.rk)).getD (Str.ofString "")
theorem look_rack {x : Str} : ∀ {hs : List Host}, x ∈ nmsOf hs → lookD (hs.map fun h => (Sum.inr h.nm, D.str h.rk)) (Sum.inr x) = some (.str (rkOf hs x))
  | [], h => by cases h
  | a :: hs, h => by
    by_cases e : a.nm = x
    · simp [lookD, rkOf, e]
    · have h2 : x ∈ nmsOf hs := by
        unfold nmsOf at h ⊢
        rw [List.map_cons, List.mem_cons] at h
        rcases h with h | h
        · exact absurd h.symm e
        · exact h
      have ih := look_rack h2
      unfold lookD at ih ⊢
      unfold rkOf at ih ⊢
      rw [List.map_cons, List.find?_cons_of_neg (by simpa using e), List.find?_cons_of_neg (by simpa using e)]
      exact ih
theorem idx_rack {x : Str} {hs : List Host} (h : x ∈ nmsOf hs) : idxDic (racksD hs) (.str x) = some (.str (rkOf hs x)) := look_rack h
def keepN (f : Frame) (w : List Str) : List Str := if f.x = Str.ofString "hosts" then w.take f.w.toNat else keepR (rkOf f.hs) f.w.toNat w
theorem vals_first (rk : Str → Str) (l : List Str) (h : l.length ≤ 1000) : tupleValsD (.dic (firstKV rk l)) = some (.tup (l.map .str)) := by
  unfold tupleValsD firstKV
  dsimp only
  rw [if_pos (by rw [List.length_map, sizeLine_eq]; omega), List.map_map]; rfl
theorem chosen_ok {f : Frame} {w : List Str} (s : S) (F : FrOk 12 16 f) (hw : ∀ x ∈ w, x ∈ nmsOf f.hs) (hl : w.length ≤ 12) : u_chosen [ringD f, .tup (w.map .str)] s = some (.tup ((keepN f w).map .str), s) := by
  obtain ⟨n, hn⟩ : ∃ n : Nat, f.w = n := ⟨f.w.toNat, by have := F.w0; omega⟩
  have n5 : n ≤ 5 := by have := F.w1; omega
  have rs : u_Ring_spread [ringD f] s = some (.str f.x, s) := spread_ok f s
  have rf : u_Ring_factor [ringD f] s = some (.int n, s) := by rw [← hn]; exact factor_ok f s
  have c1 : ∀ (ds : List D) (k : Nat), slD (.tup ds) none (some (k : Int)) = some (.tup (ds.take k)) := fun ds k => congrArg (fun l => some (D.tup l)) (cutL_take ds k)
  have c2 : ∀ (ds : List D) (k : Nat), slL (.lst ds) none (some (k : Int)) = some (.lst (ds.take k)) := fun ds k => congrArg (fun l => some (D.lst l)) (cutL_take ds k)
  refine eq_of_on ?_
  unfold u_chosen
  refine wp_mkD rfl ?_
  unfold ringD at *
  have fr : lookF (ringF f) "racks" = some (racksD f.hs) := rfl
  repeat fail
  refine br (fun hx => ?_) (fun hx => ?_)
  · have g := c1 (w.map .str) n
    repeat fail
    refine ⟨?_, rfl⟩
    unfold keepN
    rw [if_pos hx, hn, Int.toNat_natCast, List.map_take]
  repeat fail
  refine wp_forI (fun i e s1 => s1 = s ∧ ∃ a, e = [.val (.obj (Str.ofString "Ring") (ringF f)), .val (.tup (w.map .str)), .own (.dic (firstKV (rkOf f.hs) (firsts (rkOf f.hs) (w.take i)))), a, .unb, .unb]) ⟨rfl, _, rfl⟩ (fun j e s1 d hd hI => ?_) (fun e s1 hI => ?_)
  · obtain ⟨rfl, a, rfl⟩ := hI
    rw [List.getElem?_map] at hd
    obtain ⟨x, hx1, rfl⟩ := Option.map_eq_some_iff.mp hd
    have hj := (List.getElem?_eq_some_iff.mp hx1).1
    have ex : w[j] = x := by rw [List.getElem?_eq_getElem hj] at hx1; exact Option.some.inj hx1
    have r1 := idx_rack (hw x (List.mem_of_getElem? hx1))
    refine wp_gnm ?_
    refine wp_setd rfl ?_
    repeat fail
    refine ⟨?_, rfl, .val (.str x), ?_⟩
    · have h1 := firsts_len (rk := rkOf f.hs) (l := w.take j)
      rw [List.length_take] at h1
      unfold firstKV
      rw [List.length_map, sizeLine_eq]
      omega
    · rw [firstKV_put, ← firsts_snoc, ← ex, List.take_append_getElem]
      rfl
  obtain ⟨rfl, a, rfl⟩ := hI
  rw [List.length_map, List.take_length]
  have fl := firsts_len (rk := rkOf f.hs) (l := w)
  have v := vals_first (rkOf f.hs) (firsts (rkOf f.hs) w) (by omega)
  have v2 := c1 ((firsts (rkOf f.hs) w).map .str) n
  rw [← List.map_take] at v2
  repeat fail
  refine wp_lcF D.str D.str (fun x => decide (x ∉ (firsts (rkOf f.hs) w).take n)) id w (fun x hx => ?_) ?_
  · repeat fail
    refine ⟨by simp, rfl, fun _ => ?_⟩
    repeat fail
  rw [List.map_id]
  have wl := List.length_filter_le (fun x => decide (x ∉ (firsts (rkOf f.hs) w).take n)) w
  refine wp_sz (by rw [List.length_map]; omega) ?_
  obtain ⟨T, hT⟩ : ∃ T, T = (firsts (rkOf f.hs) w).take n := ⟨_, rfl⟩
  have tl : T.length ≤ n := by rw [hT, List.length_take]; omega
  have en : (n : Int) - ((T.map D.str).length : Int) = ((n - T.length : Nat) : Int) := by rw [List.length_map]; omega
  have v3 := c2 ((w.filter fun x => decide (x ∉ T)).map .str) (n - T.length)
  rw [← en] at v3
  try refine cut_end zhP ?_
  rw [← hT] at wl v2 ⊢
  repeat fail
  refine ⟨?_, cut_end zhP ⟨?_, rfl⟩⟩
  · rw [sizeLine_eq]; simp; omega
  · unfold keepN
    rw [if_neg (by simpa using hx), keepR_eq, hn, Int.toNat_natCast, ← hT]
    simp
end C
end Z

namespace Z
namespace C
open PySem PySem.Spec PyProof.Rows L2
theorem pairs_map (hs : List Host) : pairsD (hs.map fun h => D.tup [.str h.nm, .str h.rk]) = some (hs.map fun h => ((Sum.inr h.nm : Key), D.str h.rk)) := by
  induction hs with
  | nil => rfl
  | cons h hs ih =>
    rw [List.map_cons]
    unfold pairsD
    rw [ih]
    rfl
theorem merge_new {kvs : List (Key × D)} (nd : (kvs.map (·.1)).Nodup) : mergeD kvs = kvs := by
  have key : ∀ (l acc : List (Key × D)), ((acc ++ l).map (·.1)).Nodup → l.foldl (fun a p => putD a p.1 p.2) acc = acc ++ l := by
    intro l
    induction l with
    | nil => intro acc _; simp
    | cons p l ih =>
      intro acc h
      rw [List.foldl_cons, putD_new]
      · rw [ih _ (by rw [List.append_assoc]; exact h)]
        rw [List.append_assoc]; rfl
      · intro e
        rw [List.map_append] at h
        exact (List.nodup_append.mp h).2.2 _ e _ (by simp) rfl
  have := key kvs [] (by simpa using nd)
  simpa [mergeD] using this
theorem dict_crew {hs : List Host} (nd : (hs.map (·.nm)).Nodup) : dictPD [.lst (hs.map fun h => D.tup [.str h.nm, .str h.rk])] = some (racksD hs) := by
  unfold dictPD
  dsimp only
  rw [pairs_map, Option.map_some, merge_new]
  · rfl
  · rw [List.map_map]
    have := nodup_inr nd
    rw [List.map_map] at this
    exact this
theorem walk_nms {f : Frame} {mk : List (Int × Str)} (F : FrOk 12 16 f) (hm : Mk f.hs mk) (p : Int) : (∀ x ∈ walkN mk p, x ∈ nmsOf f.hs) ∧ (walkN mk p).length ≤ 12 := by
  have P := walk_perm hm (fun h hh => (F.hs.ne h hh).1) F.hs.nd p
  refine ⟨fun x hx => P.mem_iff.mp hx, ?_⟩
  have := P.length_eq
  rw [this, nmsOf, List.length_map]
  exact F.h1
theorem keepersof_ok {f : Frame} {mk : List (Int × Str)} {p : Int} (s : S) (F : FrOk 12 16 f) (hm : Mk f.hs mk) (hso : sortL ((pairsOf f.hs).map markD) = mk.map markD) : u_keepers_of [ringD f, .int p] s = some (.tup ((keepN f (walkN mk p)).map .str), s) := by
  have w := walkof_ok s F hm hso (p := p)
  obtain ⟨n1, n2⟩ := walk_nms F hm p
  have c := chosen_ok s F n1 n2
  refine eq_of_on ?_
  unfold u_keepers_of
  refine wp_mkD rfl ?_
  repeat fail
end C
end Z

namespace Z
namespace C
open PySem PySem.Spec PyProof.Rows L2
/-! ### walks point by point -/
def stepsN (mk : List (Int × Str)) (z p n : Nat) : List Str := (List.range n).filterMap fun k : Nat => ownN mk (((p : Int) + k) % z)
/-- laws whose cases are at most c -/
abbrev lawN (c : Int) (ur : MD) : MD := mkD 1 2 (sRet (mCall allD (aCons (mLc [1] (rngI (aCons (mCall max2D (aCons (mC (.int 2)) (aCons (mCall min2D (aCons (mCall lenD (aCons (mVar 0) (aNil))) (aCons (mC (.int c)) (aNil)))) (aNil)))) (aNil))) (cNm 1) (yesT) (mCallD ur (aCons (mCel (mCallD u__law_filled (aCons (mVar 0) (aCons (mVar 1) (aNil))))) (aNil)))) (aNil))))
end C
end Z

namespace Z
namespace C
open PySem PySem.Spec PyProof.Rows L2
/-- the walks of all keys of a small ring -/
def metsD (mk : List (Int × Str)) (z : Nat) : List D := (List.range z).map fun p : Nat => .lst ((walkN mk p).map .str)
end C
end Z

namespace Z
namespace C
open PySem PySem.Spec PyProof.Rows L2
/-! ### the least ways -/
theorem sort_marks {P W : List (Int × Str)} (p : W.Perm P) (up : W.Pairwise fun a b => a.1 < b.1) : sortL (P.map markD) = W.map markD := by
  refine sortL_eq (p.map markD) ?_ ?_
  · show List.Pairwise _ _
    rw [List.pairwise_map]
    exact up.imp fun {a b} h => lt_mark h
  · exact (sameK_one (same_marks _)).inj
def wayI (z p m : Int) : Int := (m - p) % z
def ordL (z p : Int) (mk : List (Int × Str)) : List (Int × Str) := ((mk.filter fun q => decide (p ≤ q.1)) ++ mk.filter fun q => decide (q.1 < p)).map fun q => (wayI z p q.1, q.2)
theorem ord_names (z p : Int) (mk : List (Int × Str)) : ded ((ordL z p mk).map (·.2)) = walkN mk p := by
  unfold ordL walkN
  rw [List.map_map, List.map_append]
  rfl
theorem ord_mem {z p k : Int} {x : Str} {mk : List (Int × Str)} : (k, x) ∈ ordL z p mk ↔ ∃ q ∈ mk, q.2 = x ∧ k = wayI z p q.1 := by
  unfold ordL
  rw [List.mem_map]
  constructor
  · rintro ⟨q, hq, e⟩
    injection e with e1 e2
    refine ⟨q, ?_, e2, e1.symm⟩
    rcases List.mem_append.mp hq with h | h
    · exact (List.mem_filter.mp h).1
    · exact (List.mem_filter.mp h).1
  · rintro ⟨q, hq, rfl, rfl⟩
    refine ⟨q, ?_, rfl⟩
    rw [List.mem_append, List.mem_filter, List.mem_filter]
    by_cases h : p ≤ q.1
    · exact .inl ⟨hq, by simpa using h⟩
    · exact .inr ⟨hq, by simp; omega⟩
theorem way_behind {z p m : Int} (h : p ≤ m) (h2 : m < z) (p0 : 0 ≤ p) : wayI z p m = m - p := Int.emod_eq_of_lt (by omega) (by omega)
theorem way_ahead {z p m : Int} (h : m < p) (h2 : 0 ≤ m) (p1 : p < z) : wayI z p m = m - p + z := by
  unfold wayI
  rw [← Int.add_emod_right, Int.emod_eq_of_lt (by omega) (by omega)]
theorem ord_up {z p : Int} {mk : List (Int × Str)} (up : mk.Pairwise fun a b => a.1 < b.1) (hin : ∀ q ∈ mk, 0 ≤ q.1 ∧ q.1 < z) (p0 : 0 ≤ p) (p1 : p < z) : (ordL z p mk).Pairwise fun a b => a.1 < b.1 := by
  unfold ordL
  rw [List.pairwise_map, List.pairwise_append]
  refine ⟨?_, ?_, fun a ha b hb => ?_⟩
  · refine (up.filter _).imp_of_mem fun {a b} ha hb h => ?_
    obtain ⟨a1, a2⟩ := List.mem_filter.mp ha
    obtain ⟨b1, b2⟩ := List.mem_filter.mp hb
    have i := hin a a1; have j := hin b b1
    rw [way_behind (by simpa using a2) i.2 p0, way_behind (by simpa using b2) j.2 p0]
    omega
  · refine (up.filter _).imp_of_mem fun {a b} ha hb h => ?_
    obtain ⟨a1, a2⟩ := List.mem_filter.mp ha
    obtain ⟨b1, b2⟩ := List.mem_filter.mp hb
    have i := hin a a1; have j := hin b b1
    rw [way_ahead (by simpa using a2) i.1 p1, way_ahead (by simpa using b2) j.1 p1]
    omega
  · obtain ⟨a1, a2⟩ := List.mem_filter.mp ha
    obtain ⟨b1, b2⟩ := List.mem_filter.mp hb
    have i := hin a a1; have j := hin b b1
    rw [way_behind (by simpa using a2) i.2 p0, way_ahead (by simpa using b2) j.1 p1]
    omega
theorem fold_first {L : List (Int × Str)} : ∀ (L2 L1 : List (Int × Str)) (acc : List Str), L = L1 ++ L2 → L.Pairwise (fun a b => a.1 < b.1) → (∀ y, y ∈ acc ↔ y ∈ L1.map (·.2)) →
    acc.Pairwise (fun x y => ∃ k, (k, x) ∈ L ∧ ∀ k', (k', y) ∈ L → k < k') → ((L2.map (·.2)).foldl addK acc).Pairwise (fun x y => ∃ k, (k, x) ∈ L ∧ ∀ k', (k', y) ∈ L → k < k')
  | [], L1, acc, e, up, hm, hp => hp
  | (k, y) :: L2, L1, acc, e, up, hm, hp => by
    rw [List.map_cons, List.foldl_cons]
    refine fold_first L2 (L1 ++ [(k, y)]) (addK acc y) (by rw [e]; simp) up (fun w => ?_) ?_
    · rw [addK_mem, hm]; simp
    · unfold addK
      split
      · exact hp
      · rename_i hy
        rw [List.pairwise_append]
        refine ⟨hp, by simp, fun x hx w hw => ?_⟩
        rw [List.mem_singleton] at hw
        obtain ⟨q, hq, rfl⟩ := List.mem_map.mp ((hm x).mp hx)
        refine ⟨q.1, by rw [e]; exact List.mem_append_left _ hq, fun k' hk' => ?_⟩
        rw [hw] at hk'
        rw [e] at hk' up
        rcases List.mem_append.mp hk' with h | h
        · exact absurd ((hm y).mpr (List.mem_map.mpr ⟨_, h, rfl⟩)) hy
        · exact (List.pairwise_append.mp up).2.2 q hq _ h
theorem walk_first {z p : Int} {mk : List (Int × Str)} (up : mk.Pairwise fun a b => a.1 < b.1) (hin : ∀ q ∈ mk, 0 ≤ q.1 ∧ q.1 < z) (p0 : 0 ≤ p) (p1 : p < z) :
    (walkN mk p).Pairwise (fun x y => ∃ k, (k, x) ∈ ordL z p mk ∧ ∀ k', (k', y) ∈ ordL z p mk → k < k') := by
  rw [← ord_names z p mk]
  exact fold_first _ [] [] rfl (ord_up up hin p0 p1) (by simp) (by simp)
def wayH (z p : Int) (h : Host) : Int := match h.ms with
  | [] => 0
  | m :: ms => leastI (wayI z p m) (ms.map (wayI z p))
theorem wayH_min {z p : Int} {h : Host} (ne : h.ms ≠ []) : minLD [.lst ((h.ms.map (wayI z p)).map .int)] = some (.int (wayH z p h)) := by
  have e : ∀ ns : List Int, intsD (ns.map D.int) = some ns := fun ns => by
    induction ns with
    | nil => rfl
    | cons n ns ih => simp [intsD, ih]
  unfold minLD wayH
  cases hm : h.ms with
  | nil => exact absurd hm ne
  | cons m ms => dsimp only; rw [e]; rfl
theorem wayH_le {z p : Int} {h : Host} {m : Int} (hm : m ∈ h.ms) : wayH z p h ≤ wayI z p m := by
  unfold wayH
  cases e : h.ms with
  | nil => rw [e] at hm; cases hm
  | cons a ms =>
    rw [e] at hm
    have := leastI_le (ms.map (wayI z p)) (wayI z p a)
    rcases List.mem_cons.mp hm with rfl | h
    · exact this.1
    · exact this.2 _ (List.mem_map_of_mem h)
theorem wayH_mem {z p : Int} {h : Host} (ne : h.ms ≠ []) : ∃ m ∈ h.ms, wayH z p h = wayI z p m := by
  unfold wayH
  cases e : h.ms with
  | nil => exact absurd e ne
  | cons a ms =>
    have := leastI_mem (ms.map (wayI z p)) (wayI z p a)
    rcases List.mem_cons.mp this with h | h
    · exact ⟨a, by simp, h⟩
    · obtain ⟨m, hm, q⟩ := List.mem_map.mp h
      exact ⟨m, by simp [hm], q.symm⟩
def wayN (z p : Int) (hs : List Host) (x : Str) : Int := ((hs.find? fun h => decide (h.nm = x)).map (wayH z p)).getD 0
theorem wayN_of {z p : Int} : ∀ {hs : List Host} {h : Host}, (hs.map (·.nm)).Nodup → h ∈ hs → wayN z p hs h.nm = wayH z p h
  | a :: hs, h, nd, hh => by
    rw [List.map_cons, List.nodup_cons] at nd
    unfold wayN
    rcases List.mem_cons.mp hh with rfl | h2
    · rw [List.find?_cons_of_pos (by simp)]; rfl
    · have : a.nm ≠ h.nm := fun e => nd.1 (e ▸ List.mem_map_of_mem h2)
      rw [List.find?_cons_of_neg (by simpa using this)]
      exact wayN_of nd.2 h2
theorem far_pairs {f : Frame} {mk : List (Int × Str)} {p : Int} (F : FrOk 12 16 f) (hm : Mk f.hs mk) (p0 : 0 ≤ p) (p1 : p < f.z) :
    sortL ((f.hs.map fun h => (wayH f.z p h, h.nm)).map markD) = ((walkN mk p).map fun x => (wayN f.z p f.hs x, x)).map markD := by
  have hin : ∀ q ∈ mk, 0 ≤ q.1 ∧ q.1 < f.z := fun q hq => by
    obtain ⟨h, hh, _, e⟩ := (mk_names hm).mp hq
    exact F.hs.inz h hh _ e
  refine sort_marks ?_ ?_
  · have P := (walk_perm hm (fun h hh => (F.hs.ne h hh).1) F.hs.nd p).map fun x => (wayN f.z p f.hs x, x)
    refine P.trans ?_
    unfold nmsOf
    rw [List.map_map]
    refine (List.Perm.of_eq ?_)
    refine List.map_congr_left fun h hh => ?_
    simp only [Function.comp]
    rw [wayN_of F.hs.nd hh]
  · rw [List.pairwise_map]
    refine (walk_first hm.up hin p0 p1).imp_of_mem fun {x y} hx hy h => ?_
    obtain ⟨k, h1, h2⟩ := h
    obtain ⟨q, hq, e, rfl⟩ := ord_mem.mp h1
    obtain ⟨a, ha, ea, ma⟩ := (mk_names hm).mp hq
    obtain ⟨n1, _⟩ := walk_nms F hm p
    obtain ⟨b, hb, rfl⟩ := List.mem_map.mp (n1 y hy)
    have ex : x = a.nm := by rw [← e, ea]
    subst ex
    show wayN f.z p f.hs a.nm < wayN f.z p f.hs b.nm
    rw [wayN_of F.hs.nd ha, wayN_of F.hs.nd hb]
    obtain ⟨m, m1, m2⟩ := wayH_mem (z := f.z) (p := p) (F.hs.ne b hb).1
    have l1 := wayH_le (z := f.z) (p := p) ma
    have l2 := h2 (wayH f.z p b) (ord_mem.mpr ⟨(m, b.nm), (mk_names hm).mpr ⟨b, hb, rfl, m1⟩, rfl, m2⟩)
    omega
end C
end Z

namespace Z
namespace C
open PySem PySem.Spec PyProof.Rows L2
theorem far_ok {f : Frame} {mk : List (Int × Str)} {p : Int} (s : S) (F : FrOk 12 16 f) (hm : Mk f.hs mk) (p0 : 0 ≤ p) (p1 : p < f.z) : u__law_far [f.D, .int p] s = some (.lst ((walkN mk p).map .str), s) := by
  have f0 : idxD f.D (.int 0) = some (.int f.z) := rfl
  have f6 : idxD f.D (.int 6) = some (.tup (f.hs.map Host.D)) := rfl
  have z0 : 0 < f.z := by have := F.z0; omega
  have hl := F.h1
  obtain ⟨n1, n2⟩ := walk_nms F hm p
  refine eq_of_on ?_
  unfold u__law_far
  refine wp_mkD rfl ?_
  repeat fail
  refine wp_forI (fun i e s1 => s1 = s ∧ ∃ a b c d, e = [.val f.D, .val (.int p), .own (.lst (((f.hs.take i).map fun h => (wayH f.z p h, h.nm)).map markD)), a, b, c, d, .unb]) ⟨rfl, _, _, _, _, rfl⟩ (fun j e s1 d hd hI => ?_) (fun e s1 hI => ?_)
  · obtain ⟨rfl, a, b, c, d', rfl⟩ := hI
    rw [List.getElem?_map] at hd
    obtain ⟨h, hx, rfl⟩ := Option.map_eq_some_iff.mp hd
    have hj := (List.getElem?_eq_some_iff.mp hx).1
    have eh : f.hs[j] = h := by rw [List.getElem?_eq_getElem hj] at hx; exact Option.some.inj hx
    have hh : h ∈ f.hs := List.mem_of_getElem? hx
    have ne := F.hs.ne h hh
    have mn := wayH_min (z := f.z) (p := p) ne.1
    unfold Host.D
    repeat fail
    refine wp_lcM D.int D.int (wayI f.z p) h.ms (fun m hm => ?_) ?_
    · repeat fail
    refine wp_sz (by simp; omega) ?_
    repeat fail
    refine ⟨by simp [sizeLine_eq]; omega, rfl, .val (.str h.nm), .val (.str h.rk), .val (.tup (h.ms.map .int)), d', ?_⟩
    have nxt : (f.hs.take (j + 1)).map (fun h => (wayH f.z p h, h.nm)) = (f.hs.take j).map (fun h => (wayH f.z p h, h.nm)) ++ [(wayH f.z p h, h.nm)] := by
      rw [← List.take_append_getElem hj, List.map_append, eh]; rfl
    rw [nxt, List.map_append]
    rfl
  obtain ⟨rfl, a, b, c, d, rfl⟩ := hI
  rw [List.length_map, List.take_length]
  have so : sortedD [.lst ((f.hs.map fun h => (wayH f.z p h, h.nm)).map markD)] = some (.lst (((walkN mk p).map fun x => (wayN f.z p f.hs x, x)).map markD)) := by
    rw [← far_pairs F hm p0 p1]
    unfold sortedD
    exact if_pos (same_marks _)
  repeat fail
  have e2 : ((walkN mk p).map fun x => (wayN f.z p f.hs x, x)).map (·.2) = walkN mk p := by rw [List.map_map]; exact List.map_id _
  refine wp_lcM markD D.str (·.2) _ (fun q hq => ?_) ?_
  · unfold markD
    repeat fail
  rw [e2]
  refine wp_sz (by rw [List.length_map]; omega) ?_
  repeat fail
/-- the marks, ascending -/
def edgesN (mk : List (Int × Str)) : List Int := mk.map (·.1)
end C
end Z

namespace Z
namespace C
open PySem PySem.Spec PyProof.Rows L2
theorem ne_nil_ok (tk : List Int) : ∃ b, neD (.lst (tk.map .int)) (.lst []) = some (.bl b) ∧ (b = true ↔ tk ≠ []) := by
  obtain ⟨b, h1, h2⟩ := eqB_lst (as := tk.map .int) (bs := []) (k := 1) (pl_lst (pll_map fun i hi => pl_int i)) (pl_lst pll_nil) (by omega)
  refine ⟨!b, by unfold neD; rw [h1]; rfl, ?_⟩
  cases b with
  | true =>
    have := h2.mp rfl
    simp at this
    simp [this]
  | false =>
    have : ¬ tk = [] := fun e => by
      have := h2.mpr (by simp [e])
      cases this
    simpa using this
theorem all_ints {P : Int → Prop} : ∀ {ys : List D}, (∀ y ∈ ys, ∃ w : Int, y = .int w ∧ P w) → ∃ as : List Int, ys = as.map .int ∧ ∀ a ∈ as, P a
  | [], _ => ⟨[], rfl, fun a h => by cases h⟩
  | y :: ys, all => by
    obtain ⟨w, rfl, hw⟩ := all y (by simp)
    obtain ⟨as, rfl, h2⟩ := all_ints fun y hy => all y (List.mem_cons_of_mem _ hy)
    exact ⟨w :: as, rfl, fun a ha => by
      rcases List.mem_cons.mp ha with rfl | h
      · exact hw
      · exact h2 a h⟩
end C
end Z

namespace Z
namespace C
open PySem PySem.Spec PyProof.Rows L2
/-! ### cells -/
def atN (es : List Int) (j : Nat) : Int := es.getD j 0
def prevE (es : List Int) (j : Nat) : Int := if j = 0 then atN es (es.length - 1) else atN es (j - 1)
def manyE (z : Int) (es : List Int) (j : Nat) : Int := (atN es j - prevE es j - 1) % z + 1
def firstE (z : Int) (es : List Int) (j : Nat) : Int := (prevE es j + 1) % z
theorem atN_eq {es : List Int} {j : Nat} (h : j < es.length) : atN es j = es[j] := by
  unfold atN
  rw [List.getD_eq_getElem?_getD, List.getElem?_eq_getElem h]; rfl
theorem idx_at {es : List Int} {j : Nat} (h : j < es.length) : idxD (.lst (es.map .int)) (.int (j : Int)) = some (.int (atN es j)) := by
  refine atI_nat ?_
  rw [List.getElem?_map, List.getElem?_eq_getElem h, atN_eq h]; rfl
theorem idx_prev {es : List Int} {j : Nat} (h : j < es.length) : idxD (.lst (es.map .int)) (.int ((j : Int) - 1)) = some (.int (prevE es j)) := by
  unfold prevE
  by_cases h0 : j = 0
  · subst h0
    rw [if_pos rfl]
    show atI (es.map D.int) _ = _
    have e : ixN (es.map D.int).length (((0 : Nat) : Int) - 1) = some (es.length - 1) := by
      unfold ixN
      rw [List.length_map]
      rw [if_neg (by omega), if_pos (by omega)]
      congr 1
      omega
    unfold atI
    rw [e, Option.bind_some, List.getElem?_map, List.getElem?_eq_getElem (by omega), atN_eq (by omega)]; rfl
  · rw [if_neg h0]
    have := idx_at (es := es) (j := j - 1) (by omega)
    rwa [show ((j - 1 : Nat) : Int) = (j : Int) - 1 by omega] at this
/-- so many are below -/
def cntE (es : List Int) (p : Int) : Nat := es.countP fun e => decide (e < p)
theorem cnt_le (es : List Int) (p : Int) : cntE es p ≤ es.length := List.countP_le_length
theorem lt_cnt {p : Int} : ∀ {es : List Int}, es.Pairwise (· < ·) → ∀ i (h : i < es.length), es[i] < p ↔ i < cntE es p
  | a :: es, up, i, h => by
    obtain ⟨h1, h2⟩ := List.pairwise_cons.mp up
    have ih := lt_cnt (p := p) h2
    by_cases ha : a < p
    · have e : cntE (a :: es) p = cntE es p + 1 := by unfold cntE; rw [List.countP_cons_of_pos (by simpa using ha)]
      rw [e]
      cases i with
      | zero => simp [ha]
      | succ i =>
        have := ih i (by simpa using h)
        simp only [List.getElem_cons_succ]
        omega
    · have z : cntE es p = 0 := by
        unfold cntE
        rw [List.countP_eq_zero]
        intro x hx
        have := h1 x hx
        simp; omega
      have e : cntE (a :: es) p = 0 := by unfold cntE; rw [List.countP_cons_of_neg (by simpa using ha)]; exact z
      rw [e]
      cases i with
      | zero => simp; omega
      | succ i =>
        simp only [List.getElem_cons_succ]
        have := h1 (es[i]'(by simpa using h)) (List.getElem_mem _)
        omega
theorem mod_near {a z : Int} (h0 : -z ≤ a) (h1 : a < 0) : a % z = a + z := by
  rw [← Int.add_emod_right, Int.emod_eq_of_lt (by omega) (by omega)]
/-- in just one cell -/
theorem in_cell {z p : Int} {es : List Int} {j : Nat} (up : es.Pairwise (· < ·)) (hin : ∀ e ∈ es, 0 ≤ e ∧ e < z) (p0 : 0 ≤ p) (p1 : p < z) (hj : j < es.length) :
    (p - firstE z es j) % z < manyE z es j ↔ j = cntE es p % es.length := by
  have n0 : 0 < es.length := by omega
  have ej := hin es[j] (List.getElem_mem hj)
  have cj := lt_cnt (p := p) up j hj
  have cl := cnt_le es p
  unfold firstE manyE
  rw [atN_eq hj]
  by_cases h0 : j = 0
  · subst h0
    have ll : es.length - 1 < es.length := by omega
    have el := hin es[es.length - 1] (List.getElem_mem ll)
    have cl1 := lt_cnt (p := p) up (es.length - 1) ll
    have le : es[0] ≤ es[es.length - 1] := by
      by_cases h1 : es.length - 1 = 0
      · simp only [h1]; omega
      · have := List.pairwise_iff_getElem.mp up 0 (es.length - 1) n0 ll (by omega)
        omega
    have pe : prevE es 0 = es[es.length - 1] := by unfold prevE; rw [if_pos rfl, atN_eq ll]
    rw [pe, mod_near (a := es[0] - es[es.length - 1] - 1) (z := z) (by omega) (by omega)]
    have m0 : (0 = cntE es p % es.length) ↔ cntE es p = 0 ∨ cntE es p = es.length := by
      constructor
      · intro e
        by_cases hc : cntE es p = es.length
        · exact .inr hc
        · rw [Nat.mod_eq_of_lt (by omega)] at e
          exact .inl e.symm
      · rintro (e | e) <;> rw [e] <;> simp
    rw [m0]
    by_cases hz : es[es.length - 1] + 1 = z
    · rw [hz, Int.emod_self, Int.sub_zero, Int.emod_eq_of_lt p0 p1]
      omega
    · rw [Int.emod_eq_of_lt (a := es[es.length - 1] + 1) (by omega) (by omega)]
      by_cases hp : es[es.length - 1] + 1 ≤ p
      · rw [Int.emod_eq_of_lt (by omega) (by omega)]
        omega
      · rw [mod_near (by omega) (by omega)]
        omega
  · have hl : j - 1 < es.length := by omega
    have ep := hin es[j - 1] (List.getElem_mem hl)
    have cp := lt_cnt (p := p) up (j - 1) hl
    have lt := List.pairwise_iff_getElem.mp up (j - 1) j hl hj (by omega)
    have pe : prevE es j = es[j - 1] := by unfold prevE; rw [if_neg h0, atN_eq hl]
    rw [pe, Int.emod_eq_of_lt (a := es[j - 1] + 1) (by omega) (by omega), Int.emod_eq_of_lt (a := es[j] - es[j - 1] - 1) (by omega) (by omega)]
    have m0 : (j = cntE es p % es.length) ↔ cntE es p = j := by
      constructor
      · intro e
        by_cases hc : cntE es p = es.length
        · rw [hc, Nat.mod_self] at e; omega
        · rw [Nat.mod_eq_of_lt (by omega)] at e
          exact e.symm
      · intro e; rw [e, Nat.mod_eq_of_lt hj]
    rw [m0]
    by_cases hp : es[j - 1] + 1 ≤ p
    · rw [Int.emod_eq_of_lt (by omega) (by omega)]
      omega
    · rw [mod_near (by omega) (by omega)]
      omega
theorem filter_one {n c : Nat} (h : c < n) : (List.range n).filter (fun j => decide (j = c)) = [c] := by
  induction n with
  | zero => omega
  | succ n ih =>
    rw [List.range_succ, List.filter_append]
    by_cases hc : c = n
    · subst hc
      rw [List.filter_eq_nil_iff.mpr fun j hj => by have := List.mem_range.mp hj; simp; omega]
      simp
    · rw [ih (by omega)]
      simp; omega
end C
end Z

namespace Z
namespace C
open PySem PySem.Spec PyProof.Rows L2
theorem sorted_up {es : List Int} (up : es.Pairwise (· < ·)) : sameK (es.map .int) = true ∧ sortL (es.map .int) = es.map D.int := by
  have nd : es.Nodup := by rw [List.nodup_iff_pairwise_ne]; exact up.imp fun h => by omega
  obtain ⟨ms, e, p, u⟩ := sort_ints nd
  have : ms = es := List.Perm.eq_of_pairwise (fun a b _ _ h1 h2 => by omega) u up p
  subst this
  unfold sortedD at e
  dsimp only at e
  split at e
  · rename_i h
    injection e with e
    injection e with e
    exact ⟨h, e⟩
  · cases e
theorem edges_in {f : Frame} {mk : List (Int × Str)} (F : FrOk 12 16 f) (hm : Mk f.hs mk) : ∀ m ∈ edgesN mk, 0 ≤ m ∧ m < f.z := fun m hm2 => by
  obtain ⟨q, hq, rfl⟩ := List.mem_map.mp hm2
  obtain ⟨h, hh, _, e⟩ := (mk_names hm).mp hq
  exact F.hs.inz h hh _ e
theorem edges_len {f : Frame} {mk : List (Int × Str)} (F : FrOk 12 16 f) (hm : Mk f.hs mk) : 1 ≤ mk.length ∧ (edgesN mk).length = mk.length ∧ mk.length ≤ 192 := by
  have := hm.perm.length_eq
  have l1 : (f.hs.flatMap Host.ms).length ≤ f.hs.length * 16 := fm_len (xs := f.hs) (k := 16) fun x hx => (F.hs.ne x hx).2
  have l2 := F.h1
  have l3 : (pairsOf f.hs).length = (f.hs.flatMap Host.ms).length := by rw [← pairs_fst, List.length_map]
  have l4 : (edgesN mk).length = mk.length := by unfold edgesN; rw [List.length_map]
  refine ⟨?_, l4, by omega⟩
  have h0 := F.h0
  obtain ⟨h, hh⟩ := List.exists_mem_of_length_pos (l := f.hs) (by omega)
  have ne := (F.hs.ne h hh).1
  obtain ⟨m, hm2⟩ := List.exists_mem_of_length_pos (l := h.ms) (List.length_pos_iff.mpr ne)
  have : (m, h.nm) ∈ mk := (mk_names hm).mpr ⟨h, hh, rfl, hm2⟩
  exact List.length_pos_of_mem this
theorem isring (f : Frame) : isiD isiC isiT [.obj "Ring" (ringF f), .ty "Ring"] = some (.bl true) := by simp [isiD, isiC]
theorem chkring_ok (f : Frame) (s : S) : u_check_ring [ringD f] s = some (.non, s) := by
  have i := isring f
  refine eq_of_on ?_
  unfold u_check_ring
  refine wp_mkD rfl ?_
  unfold ringD at *
  repeat fail
theorem ring_marks {f : Frame} {mk : List (Int × Str)} (hso : sortL ((pairsOf f.hs).map markD) = mk.map markD) : lookF (ringF f) "marks" = some (.lst (mk.map markD)) := by rw [← hso]; rfl
def cellFs (a b c : D) : List (Str × D) := [("first", a), ("many", b), ("last", c)]
def cellD (z : Int) (es : List Int) (j : Nat) : D := .obj "Cell" (cellFs (.int (firstE z es j)) (.int (manyE z es j)) (.int (atN es j)))
theorem cellinit_ok (a b c : D) (s : S) : u_Cell___init__ [a, b, c] s = some (cellFs a b c, s) := by
  refine eq_of_on ?_
  unfold u_Cell___init__
  refine wp_mkI rfl ?_
  repeat fail
theorem cut_ok {z : Int} {es : List Int} (s : S) (hz : 0 < z) (hl : es.length ≤ 900) : u_cut [.int z, .lst (es.map .int)] s = some (.lst ((List.range es.length).map (cellD z es)), s) := by
  have ci := fun a b c => cellinit_ok a b c s
  refine eq_of_on ?_
  unfold u_cut
  refine wp_mkD rfl ?_
  repeat fail
  refine wp_forI (fun i e s1 => s1 = s ∧ ∃ a b c, e = [.val (.int z), .val (.lst (es.map .int)), .own (.lst ((List.range i).map (cellD z es))), a, b, c]) ⟨rfl, _, _, _, rfl⟩ (fun j e s1 d hd hI => ?_) (fun e s1 hI => ?_)
  · obtain ⟨rfl, a, b, c, rfl⟩ := hI
    obtain ⟨x, hx, rfl⟩ := enumD_get hd
    rw [List.getElem?_map] at hx
    obtain ⟨m, hx2, rfl⟩ := Option.map_eq_some_iff.mp hx
    have hj := (List.getElem?_eq_some_iff.mp hx2).1
    have em : m = atN es j := by rw [atN_eq hj]; rw [List.getElem?_eq_getElem hj] at hx2; exact (Option.some.inj hx2).symm
    have ip := idx_prev hj
    have c1 := ci (.int ((prevE es j + 1) % z)) (.int ((m - prevE es j - 1) % z + 1)) (.int m)
    repeat fail
    refine ⟨by rw [List.length_map, List.length_range, sizeLine_eq]; omega, rfl, .val (.int j), .val (.int m), .val (.int (prevE es j)), ?_⟩
    rw [List.range_succ, List.map_append, em]
    rfl
  · obtain ⟨rfl, a, b, c, rfl⟩ := hI
    rw [show (enumD (es.map D.int)).length = es.length by simp [enumD]]
    repeat fail
/-- a cell with its keepers -/
def partD (f : Frame) (mk : List (Int × Str)) (j : Nat) : D := .tup [.int (firstE f.z (edgesN mk) j), .int (manyE f.z (edgesN mk) j), .tup ((keepN f (walkN mk (atN (edgesN mk) j))).map .str)]
def partsD (f : Frame) (mk : List (Int × Str)) : List D := (List.range mk.length).map (partD f mk)
end C
end Z

namespace Z
namespace C
open PySem PySem.Spec PyProof.Rows L2
end C
end Z

namespace Z
namespace C
open PySem PySem.Spec PyProof.Rows L2
/-! ### keys counted cell by cell -/
theorem sum_zero (n : Nat) (g : Nat → Int) (h : ∀ j, j < n → g j = 0) : ((List.range n).map g).sum = 0 := by
  induction n with
  | zero => rfl
  | succ n ih =>
    rw [List.range_succ, List.map_append, List.sum_append, ih fun j hj => h j (by omega)]
    simp [h n (by omega)]
theorem sum_at (n k : Nat) (v : Int) (h : k < n) : ((List.range n).map fun j => if j = k then v else 0).sum = v := by
  induction n with
  | zero => omega
  | succ n ih =>
    rw [List.range_succ, List.map_append, List.sum_append]
    by_cases hk : k = n
    · subst hk
      rw [sum_zero _ _ fun j hj => if_neg (by omega)]
      simp
    · rw [ih (by omega)]
      simp [show ¬ n = k by omega]
theorem sum_add2 (n : Nat) (g h : Nat → Int) : ((List.range n).map fun j => g j + h j).sum = ((List.range n).map g).sum + ((List.range n).map h).sum := by
  induction n with
  | zero => rfl
  | succ n ih => simp only [List.range_succ, List.map_append, List.sum_append, ih, List.map_cons, List.map_nil, List.sum_cons, List.sum_nil]; omega
theorem sum_congr (n : Nat) (g h : Nat → Int) (e : ∀ j, j < n → g j = h j) : ((List.range n).map g).sum = ((List.range n).map h).sum := by
  congr 1
  exact List.map_congr_left fun j hj => e j (List.mem_range.mp hj)
/-- the values of a list, by what it is taken from -/
theorem sum_by {c : Nat → Nat} {n : Nat} (g : Nat → Int) : ∀ L : List Nat, (∀ p ∈ L, c p < n) → (L.map fun p => g (c p)).sum = ((List.range n).map fun j => ((L.countP fun p => decide (c p = j) : Nat) : Int) * g j).sum
  | [], _ => (sum_zero _ _ fun j _ => by simp).symm
  | p :: L, h => by
    rw [List.map_cons, List.sum_cons, sum_by g L fun q hq => h q (List.mem_cons_of_mem _ hq)]
    rw [← sum_at n (c p) (g (c p)) (h p List.mem_cons_self), ← sum_add2]
    refine sum_congr _ _ _ fun j _ => ?_
    by_cases e : c p = j
    · subst e
      rw [if_pos rfl, List.countP_cons_of_pos (by simp)]
      rw [Int.natCast_add, Int.add_mul]
      simp; omega
    · rw [if_neg (fun q => e q.symm), List.countP_cons_of_neg (by simpa using e)]
      omega
theorem turn_eq {z : Nat} {a : Int} {m p : Nat} (hm : m < z) (hp : p < z) : ((p : Int) - a) % z = m ↔ p = ((a + m) % z).toNat := by
  have zp : (0 : Int) < z := by omega
  constructor
  · intro e
    have : (p : Int) = (a + m) % z := by
      rw [← e, Int.add_emod_emod]
      rw [show a + ((p : Int) - a) = p by omega, Int.emod_eq_of_lt (by omega) (by omega)]
    omega
  · intro e
    have b0 := Int.emod_nonneg (a + (m : Int)) (b := z) (by omega)
    have : (p : Int) = (a + m) % z := by omega
    rw [this, Int.emod_sub_emod, show a + (m : Int) - a = m by omega, Int.emod_eq_of_lt (by omega) (by omega)]
theorem count_one {z k : Nat} (h : k < z) : (List.range z).countP (fun p => decide (p = k)) = 1 := by
  rw [List.countP_eq_length_filter, filter_one h]; rfl
/-- so many points from a point on -/
theorem rot_count {z : Nat} {a : Int} : ∀ m : Nat, m ≤ z → (List.range z).countP (fun p : Nat => decide (((p : Int) - a) % z < m)) = m
  | 0, _ => by
    rw [List.countP_eq_zero]
    intro p hp
    have := List.mem_range.mp hp
    have b0 := Int.emod_nonneg ((p : Int) - a) (b := z) (by omega)
    simp; omega
  | m + 1, hm => by
    have ih := rot_count (z := z) (a := a) m (by omega)
    have b0 := Int.emod_nonneg (a + (m : Int)) (b := z) (by omega)
    have b1 := Int.emod_lt_of_pos (a + (m : Int)) (b := z) (by omega)
    have one := count_one (z := z) (k := ((a + m) % z).toNat) (by omega)
    have e : (List.range z).countP (fun p : Nat => decide (((p : Int) - a) % z < (m + 1 : Nat))) = (List.range z).countP (fun p : Nat => decide (((p : Int) - a) % z < m)) + (List.range z).countP (fun p => decide (p = ((a + m) % z).toNat)) := by
      have key : ∀ L : List Nat, (∀ p ∈ L, p < z) → L.countP (fun p : Nat => decide (((p : Int) - a) % z < (m + 1 : Nat))) = L.countP (fun p : Nat => decide (((p : Int) - a) % z < m)) + L.countP (fun p => decide (p = ((a + m) % z).toNat)) := by
        intro L
        induction L with
        | nil => intro _; rfl
        | cons p L ih =>
          intro hL
          have hp := hL p List.mem_cons_self
          have t := turn_eq (a := a) (m := m) (by omega) hp
          rw [List.countP_cons, List.countP_cons, List.countP_cons, ih fun q hq => hL q (List.mem_cons_of_mem _ hq)]
          by_cases h1 : ((p : Int) - a) % z = m
          · have h2 := t.mp h1
            rw [if_pos (by simp; omega), if_neg (by simp; omega), if_pos (by simpa using h2)]
            omega
          · have h2 : ¬ p = ((a + m) % z).toNat := fun q => h1 (t.mpr q)
            rw [if_neg (c := decide (p = ((a + m) % z).toNat) = true) (by simpa using h2)]
            by_cases h3 : ((p : Int) - a) % z < m
            · rw [if_pos (by simp; omega), if_pos (by simpa using h3)]; omega
            · rw [if_neg (by simp; omega), if_neg (by simpa using h3)]; omega
      exact key _ fun p hp => List.mem_range.mp hp
    rw [e, ih, one]
/-- a cell has so many points -/
theorem many_count {z : Nat} {es : List Int} {j : Nat} (up : es.Pairwise (· < ·)) (hin : ∀ e ∈ es, 0 ≤ e ∧ e < z) (hj : j < es.length) :
    (((List.range z).countP fun p : Nat => decide (cntE es p % es.length = j) : Nat) : Int) = manyE z es j := by
  have ej := hin es[j] (List.getElem_mem hj)
  have m0 : 1 ≤ manyE z es j ∧ manyE z es j ≤ z := by
    unfold manyE
    have := Int.emod_nonneg (atN es j - prevE es j - 1) (b := z) (by omega)
    have := Int.emod_lt_of_pos (atN es j - prevE es j - 1) (b := z) (by omega)
    omega
  obtain ⟨m, hm⟩ : ∃ m : Nat, manyE z es j = m := ⟨(manyE z es j).toNat, by omega⟩
  have r := rot_count (z := z) (a := firstE z es j) m (by omega)
  rw [hm]
  congr 1
  refine Eq.trans (List.countP_congr fun p hp => ?_) r
  have hp := List.mem_range.mp hp
  have c := in_cell (z := z) (p := p) up hin (by omega) (by omega) hj
  rw [hm] at c
  simp only [decide_eq_true_iff]
  constructor
  · intro e; exact c.mpr e.symm
  · intro e; exact (c.mp e).symm
/-- cell by cell is key by key -/
theorem sum_cells {z : Nat} {es : List Int} (up : es.Pairwise (· < ·)) (hin : ∀ e ∈ es, 0 ≤ e ∧ e < z) (ne : es ≠ []) (g : Nat → Int) :
    ((List.range es.length).map fun j => manyE z es j * g j).sum = ((List.range z).map fun p : Nat => g (cntE es p % es.length)).sum := by
  have n0 : 0 < es.length := List.length_pos_iff.mpr ne
  rw [sum_by (c := fun p : Nat => cntE es p % es.length) (n := es.length) g (List.range z) fun p _ => Nat.mod_lt _ n0]
  exact sum_congr _ _ _ fun j hj => by rw [many_count up hin hj]
/-! ### counts by name -/
def cntKV (ns : List Str) (c : Str → Int) : List (Key × D) := ns.map fun n => (Sum.inr n, D.int (c n))
theorem cnt_look {c : Str → Int} {x : Str} : ∀ {ns : List Str}, x ∈ ns → lookD (cntKV ns c) (.inr x) = some (.int (c x))
  | a :: ns, h => by
    by_cases e : a = x
    · subst e; simp [lookD, cntKV]
    · have h2 : x ∈ ns := by
        rcases List.mem_cons.mp h with h | h
        · exact absurd h.symm e
        · exact h
      have ih := cnt_look (c := c) h2
      unfold lookD cntKV at ih ⊢
      rw [List.map_cons, List.find?_cons_of_neg (by simpa using e)]
      exact ih
theorem cnt_put {c : Str → Int} {x : Str} {v : Int} {ns : List Str} (h : x ∈ ns) : putD (cntKV ns c) (.inr x) (.int v) = cntKV ns fun n => if n = x then v else c n := by
  unfold putD cntKV
  rw [if_pos ?_, List.map_map]
  · refine List.map_congr_left fun n _ => ?_
    simp only [Function.comp]
    by_cases e : n = x
    · subst e; simp
    · rw [if_neg (by simpa using e), if_neg e]
  · rw [List.any_eq_true]
    exact ⟨_, List.mem_map_of_mem h, by simp⟩
/-- so often on a list, with a weight -/
def addC (c : Str → Int) (m : Int) (l : List Str) : Str → Int := fun n => c n + m * (l.count n : Nat)
theorem addC_snoc {c : Str → Int} {m : Int} {l : List Str} {x : Str} : (fun n => if n = x then addC c m l x + m else addC c m l n) = addC c m (l ++ [x]) := by
  funext n
  unfold addC
  rw [List.count_append]
  by_cases e : n = x
  · subst e
    rw [if_pos rfl, List.count_cons_self, List.count_nil, Int.natCast_add, Int.mul_add]
    simp; omega
  · rw [if_neg e, List.count_cons_of_ne (fun q => e q.symm), List.count_nil]; rfl
theorem addC_nil {c : Str → Int} {m : Int} : addC c m [] = c := by funext n; simp [addC]
end C
end Z

namespace Z
namespace C
open PySem PySem.Spec PyProof.Rows L2
/-! ### counts of a ring -/
def unS : D → Str
  | .str x => x
  | _ => Str.ofString ""
def tgs (hs : List Host) : List Str := (tagsD hs).map unS
/-- who keeps the keys of a cell -/
def keepJ (f : Frame) (mk : List (Int × Str)) (j : Nat) : List Str := keepN f (walkN mk (atN (edgesN mk) j))
/-- how many keys behind the first cells -/
def keysJ (f : Frame) (mk : List (Int × Str)) : Nat → Str → Int
  | 0 => fun _ => 0
  | j + 1 => addC (keysJ f mk j) (manyE f.z (edgesN mk) j) (keepJ f mk j)
def keysN (f : Frame) (mk : List (Int × Str)) : Str → Int := keysJ f mk mk.length
/-- the first keeper -/
def headS (l : List Str) : Str := l.headD (Str.ofString "")
def leadsN (f : Frame) (mk : List (Int × Str)) (n : Str) : Int := ((List.range mk.length).map fun j => manyE f.z (edgesN mk) j * (if headS (keepJ f mk j) = n then 1 else 0)).sum
theorem keepN_sub {f : Frame} {w : List Str} : ∀ x ∈ keepN f w, x ∈ w := fun x hx => by
  unfold keepN at hx
  split at hx
  · exact List.mem_of_mem_take hx
  · unfold keepR at hx
    rcases List.mem_append.mp (List.mem_of_mem_take hx) with h | h
    · exact firsts_mem (List.mem_of_mem_take h)
    · exact (List.mem_filter.mp h).1
theorem wp_augK {e : EnvD} {s : S} {N B C : EnvD → S → Prop} {Rt T : D → S → Prop} {i : Nat} {kvs : List (Key × D)} {m1 m2 : ME} (hi : e[i]? = some (.own (.dic kvs)))
    (h : On (m1 e s) fun kd s1 => ∃ k a, keyD kd = some k ∧ lookD kvs k = some (.int a) ∧ On (m2 e s1) fun d s2 => ∃ b, d = .int b ∧ kvs.length < sizeLine ∧ N (e.set i (.own (.dic (putD kvs k (.int (a + b)))))) s2) :
    OnS (sAugK i m1 m2 e s) N Rt B C T := ons_bndS (h.mono fun kd s1 h => by
  obtain ⟨k, a, h1, h2, h3⟩ := h
  rw [h1, hi]
  dsimp only
  rw [h2]
  dsimp only
  refine ons_bndS (h3.mono fun d s2 h => ?_)
  obtain ⟨b, rfl, h4, h5⟩ := h
  dsimp only
  rw [if_pos h4]
  exact ⟨_, _, _, rfl, h5⟩)
theorem keepJ_mem {f : Frame} {mk : List (Int × Str)} (F : FrOk 12 16 f) (hm : Mk f.hs mk) {p : Int} {x : Str} (h : x ∈ keepN f (walkN mk p)) : x ∈ nmsOf f.hs := (walk_nms F hm p).1 x (keepN_sub x h)
theorem cnt_len {ns : List Str} {c : Str → Int} : (cntKV ns c).length = ns.length := List.length_map _
end C
end Z

namespace Z
namespace C
open PySem PySem.Spec PyProof.Rows L2
/-! ### kept, leads, shares, greatest -/
theorem intsD_maps : ∀ ns : List Int, intsD (ns.map D.int) = some ns
  | [] => rfl
  | n :: ns => by simp [intsD, intsD_maps ns]
def sharesD (f : Frame) (mk : List (Int × Str)) : D := .tup ((tgs f.hs).map fun n => .tup [.str n, .int (keysN f mk n)])
def mostL : List Int → Int
  | [] => 0
  | n :: ns => mostI n ns
def greatN (f : Frame) (mk : List (Int × Str)) : Int := mostL ((tgs f.hs).map (keysN f mk))
end C
end Z

namespace Z
namespace C
open PySem PySem.Spec PyProof.Rows L2
/-! ### rings alike -/
end C
end Z

namespace Z
namespace C
open PySem PySem.Spec PyProof.Rows L2
/-! ### a name more in a walk -/
def extF (rk : Str → Str) : List Str → List Str → List Str
  | _, [] => []
  | R, z :: v => if rk z ∈ R then extF rk R v else z :: extF rk (R ++ [rk z]) v
/-- all names in the order in which they are wanted -/
def wantL (rk : Str → Str) (w : List Str) : List Str := firsts rk w ++ w.filter fun x => decide (x ∉ firsts rk w)
/-- l' is l with x more, and at most one name put back -/
def More (x : Str) (l l' : List Str) : Prop := (∃ A B, l = A ++ B ∧ l' = A ++ x :: B) ∨ ∃ A B y C D, l = A ++ (B ++ y :: (C ++ D)) ∧ l' = A ++ x :: (B ++ (C ++ y :: D))
theorem mem_take_app {a b : List Str} {n : Nat} {z : Str} : z ∈ (a ++ b).take n ↔ z ∈ a.take n ∨ z ∈ b.take (n - a.length) := by
  rw [List.take_append, List.mem_append]
theorem mem_take_le {a : List Str} {n m : Nat} {z : Str} (h : z ∈ a.take n) (hm : n ≤ m) : z ∈ a.take m := by
  obtain ⟨i, hi, e⟩ := List.mem_iff_getElem.mp h
  rw [List.getElem_take] at e
  have : i < n ∧ i < a.length := by rw [List.length_take] at hi; omega
  exact List.mem_iff_getElem.mpr ⟨i, by rw [List.length_take]; omega, by rw [List.getElem_take]; exact e⟩
theorem mem_take_cons {y : Str} {a : List Str} {n : Nat} {z : Str} : z ∈ (y :: a).take n ↔ 0 < n ∧ (z = y ∨ z ∈ a.take (n - 1)) := by
  cases n with
  | zero => simp
  | succ n => simp
theorem more_sub {x : Str} {l l' : List Str} (h : More x l l') (n : Nat) : ∀ z ∈ l'.take n, z ≠ x → z ∈ l.take n := by
  intro z hz hne
  rcases h with ⟨A, B, rfl, rfl⟩ | ⟨A, B, y, C, D, rfl, rfl⟩
  · rw [mem_take_app] at hz ⊢
    rcases hz with h | h
    · exact .inl h
    · obtain ⟨h0, h | h⟩ := mem_take_cons.mp h
      · exact absurd h hne
      · exact .inr (mem_take_le h (by omega))
  · rw [mem_take_app] at hz ⊢
    rcases hz with h | h
    · exact .inl h
    · obtain ⟨h0, h | h⟩ := mem_take_cons.mp h
      · exact absurd h hne
      · right
        rw [mem_take_app] at h ⊢
        rcases h with h | h
        · exact .inl (mem_take_le h (by omega))
        · right
          rw [mem_take_cons]
          rw [mem_take_app] at h
          rcases h with h | h
          · have p : 0 < n - A.length - 1 - B.length := by
              rcases Nat.eq_zero_or_pos (n - A.length - 1 - B.length) with q | q
              · rw [q] at h; simp at h
              · exact q
            refine ⟨by omega, .inr ?_⟩
            rw [mem_take_app]
            exact .inl (mem_take_le h (by omega))
          · obtain ⟨p, h | h⟩ := mem_take_cons.mp h
            · exact ⟨by omega, .inl h⟩
            · refine ⟨by omega, .inr ?_⟩
              rw [mem_take_app]
              exact .inr (mem_take_le h (by omega))
end C
end Z

namespace Z
namespace C
open PySem PySem.Spec PyProof.Rows L2
end C
end Z

namespace Z
open PySem PySem.Spec PyProof.Rows L2
/-! ### what repr writes is a text of code points -/
def lowS (x : Str) : Prop := ∀ c ∈ x.cps.toList, c < 1114112
end Z

namespace Z
namespace C
open PySem PySem.Spec PyProof.Rows L2
/-! ### keys summed over the hosts -/
def leadsJ (f : Frame) (mk : List (Int × Str)) : Nat → Str → Int
  | 0 => fun _ => 0
  | j + 1 => addC (leadsJ f mk j) (manyE f.z (edgesN mk) j) [headS (keepJ f mk j)]
theorem nms_nm {f : Frame} (F : FrOk 12 16 f) {x : Str} (hx : x ∈ nmsOf f.hs) : Nm x := by
  obtain ⟨h, hh, rfl⟩ := List.mem_map.mp hx
  exact (F.hs.nm h hh).1
theorem dict_gen {α : Type} {k : α → Str} {v : α → D} {l : List α} (nd : (l.map k).Nodup) : dictPD [.lst (l.map fun a => D.tup [.str (k a), v a])] = some (.dic (l.map fun a => ((Sum.inr (k a) : Key), v a))) := by
  have a : ∀ l : List α, pairsD (l.map fun p => D.tup [.str (k p), v p]) = some (l.map fun p => ((Sum.inr (k p) : Key), v p)) := by
    intro l
    induction l with
    | nil => rfl
    | cons p l ih => simp [pairsD, pairD, keyD, ih]
  have m : ∀ (l : List (Key × D)) (acc : List (Key × D)), ((acc ++ l).map (·.1)).Nodup → l.foldl (fun a p => putD a p.1 p.2) acc = acc ++ l := by
    intro l
    induction l with
    | nil => intro acc _; simp
    | cons p l ih =>
      intro acc nd
      rw [List.foldl_cons]
      have : putD acc p.1 p.2 = acc ++ [p] := by
        refine putD_new fun h => ?_
        rw [List.map_append, List.nodup_append] at nd
        exact nd.2.2 _ h _ (by simp) rfl
      rw [this, ih _ (by rw [List.append_assoc]; exact nd), List.append_assoc]; rfl
  unfold dictPD
  dsimp only
  rw [a, Option.map_some]
  unfold mergeD
  rw [m _ [] ?_]
  · rfl
  · rw [List.nil_append, List.map_map]
    have e : l.map ((fun p : Key × D => p.1) ∘ fun p : α => ((Sum.inr (k p) : Key), v p)) = (l.map k).map (Sum.inr : Str → Key) := by rw [List.map_map]; rfl
    rw [e, List.nodup_iff_pairwise_ne, List.pairwise_map]
    exact (List.nodup_iff_pairwise_ne.mp nd).imp fun h q => h (Sum.inr.inj q)
end C
end Z

namespace Z
namespace C
open PySem PySem.Spec PyProof.Rows L2
/-! ### the law's own cutting -/
theorem parts_at {α : Type} {g : Nat → α} {n j : Nat} {d : α} (h : ((List.range n).map g)[j]? = some d) : j < n ∧ d = g j := by
  rw [List.getElem?_map] at h
  obtain ⟨i, hi, rfl⟩ := Option.map_eq_some_iff.mp h
  have hj := (List.getElem?_eq_some_iff.mp hi).1
  rw [List.length_range] at hj
  rw [List.getElem?_range hj] at hi
  exact ⟨hj, by rw [← Option.some.inj hi]⟩
theorem take_at {l : List Str} {k : Nat} {d : D} (h : (l.map D.str)[k]? = some d) : ∃ x, d = .str x ∧ x ∈ l ∧ l.take k ++ [x] = l.take (k + 1) := by
  rw [List.getElem?_map] at h
  obtain ⟨x, hx, rfl⟩ := Option.map_eq_some_iff.mp h
  obtain ⟨hk, rfl⟩ := List.getElem?_eq_some_iff.mp hx
  exact ⟨_, rfl, List.getElem_mem hk, List.take_append_getElem _⟩
end C
end Z

namespace Z
namespace C
open PySem PySem.Spec PyProof.Rows L2
/-! ### dicts of keys that come again -/
theorem putD_le (kvs : List (Key × D)) (k : Key) (d : D) : (putD kvs k d).length ≤ kvs.length + 1 := by
  unfold putD
  split
  · rw [List.length_map]; omega
  · simp
theorem dcP_eq {α : Type} {e : EnvD} {s : S} {mc : MC} {mk mv : ME} (ea : α → D) (kf : α → Key) (vf : α → D) (xs : List α) (acc : List (Key × D))
    (h : ∀ x ∈ xs, On1 (mc (ea x) e) fun e1 => On (mk e1 s) fun kd s1 => keyD kd = some (kf x) ∧ s1 = s ∧ On (mv e1 s) fun d s2 => d = vf x ∧ s2 = s)
    (hl : acc.length + xs.length ≤ 1000000) : dcL mc yesT mk mv e (xs.map ea) acc s = some (xs.foldl (fun acc x => putD acc (kf x) (vf x)) acc, s) ∧ (xs.foldl (fun acc x => putD acc (kf x) (vf x)) acc).length ≤ acc.length + xs.length := by
  induction xs generalizing acc with
  | nil => exact ⟨rfl, by simp⟩
  | cons x xs ih =>
    obtain ⟨e1, h1, kd, s1, h2, h3, rfl, d, s2, h4, rfl, rfl⟩ := h x (by simp)
    have pl := putD_le acc (kf x) (vf x)
    obtain ⟨i1, i2⟩ := ih (putD acc (kf x) (vf x)) (fun y hy => h y (by simp [hy])) (by simp at hl ⊢; omega)
    have hz : acc.length < sizeLine := by rw [sizeLine_eq]; simp at hl; omega
    rw [List.map_cons, List.foldl_cons]
    refine ⟨?_, by simp only [List.length_cons]; omega⟩
    unfold dcL
    rw [h1]; dsimp only [yesT]
    rw [h2]; dsimp only
    rw [h4]; dsimp only
    rw [h3]; dsimp only
    rw [if_pos hz, i1]
theorem wp_dc2P {α β : Type} {e : EnvD} {s : S} {mc mc1 : MC} {mi1 : MI} {vs1 : List Nat} {mk mv : ME} (ea : α → D) (eb : β → D) (g : α → List β) (kf : α → β → Key) (vf : α → β → D) (xs : List α) {Q : List (Key × D) → S → Prop}
    (h : ∀ x ∈ xs, On1 (mc (ea x) e) fun e1 => On (mi1 e1 s) fun ds s1 => ds = (g x).map eb ∧ s1 = s ∧ ∀ y ∈ g x, On1 (mc1 (eb y) (wipeE e1 vs1)) fun e2 => On (mk e2 s) fun kd s1 => keyD kd = some (kf x y) ∧ s1 = s ∧ On (mv e2 s) fun d s2 => d = vf x y ∧ s2 = s)
    (hl : (xs.flatMap fun x => (g x).map (kf x)).length ≤ 1000000) (q : Q ((xs.flatMap fun x => (g x).map fun y => (kf x y, vf x y)).foldl (fun acc p => putD acc p.1 p.2) []) s) :
    On (dcL2 mc yesT mi1 vs1 mc1 yesT mk mv e (xs.map ea) [] s) Q := by
  have key : ∀ (xs : List α) (acc : List (Key × D)), (∀ x ∈ xs, On1 (mc (ea x) e) fun e1 => On (mi1 e1 s) fun ds s1 => ds = (g x).map eb ∧ s1 = s ∧ ∀ y ∈ g x, On1 (mc1 (eb y) (wipeE e1 vs1)) fun e2 => On (mk e2 s) fun kd s1 => keyD kd = some (kf x y) ∧ s1 = s ∧ On (mv e2 s) fun d s2 => d = vf x y ∧ s2 = s) →
      acc.length + (xs.flatMap fun x => (g x).map (kf x)).length ≤ 1000000 →
      dcL2 mc yesT mi1 vs1 mc1 yesT mk mv e (xs.map ea) acc s = some ((xs.flatMap fun x => (g x).map fun y => (kf x y, vf x y)).foldl (fun acc p => putD acc p.1 p.2) acc, s) := by
    intro xs
    induction xs with
    | nil => intro acc _ _; rfl
    | cons x xs ih =>
      intro acc h hl
      obtain ⟨e1, h1, ds, s1, h2, rfl, rfl, h3⟩ := h x (by simp)
      rw [List.flatMap_cons, List.length_append, List.length_map] at hl
      obtain ⟨h4, h5⟩ := dcP_eq (mc := mc1) (mk := mk) (mv := mv) (e := wipeE e1 vs1) (s := s1) eb (kf x) (vf x) (g x) acc h3 (by omega)
      have ih := ih ((g x).foldl (fun acc y => putD acc (kf x y) (vf x y)) acc) (fun y hy => h y (by simp [hy])) (by omega)
      rw [List.map_cons]
      unfold dcL2
      rw [h1]; dsimp only [yesT]
      rw [h2]; dsimp only
      rw [h4]; dsimp only
      rw [ih, List.flatMap_cons, List.foldl_append, List.foldl_map]
  exact on_some (key xs [] h (by simpa using hl)) (by simpa using q)
def addI (acc : List Int) (x : Int) : List Int := if x ∈ acc then acc else acc ++ [x]
def keysI (l : List Int) : List (Key × D) := l.map fun x => (Sum.inl x, D.bl true)
theorem putD_keyI (acc : List Int) (x : Int) : putD (keysI acc) (Sum.inl x) (.bl true) = keysI (addI acc x) := by
  unfold putD addI keysI
  by_cases h : x ∈ acc
  · rw [if_pos (by rw [List.any_map, List.any_eq_true]; exact ⟨x, h, by simp⟩), if_pos h, List.map_map]
    refine List.map_congr_left fun y hy => ?_
    simp only [Function.comp]
    split <;> rfl
  · rw [if_neg (by rw [List.any_map, List.any_eq_true]; rintro ⟨y, hy, e⟩; simp at e; exact h (e ▸ hy)), if_neg h, List.map_append]
    rfl
theorem foldI_keys : ∀ (l acc : List Int), l.foldl (fun acc x => putD acc (Sum.inl x) (.bl true)) (keysI acc) = keysI (l.foldl addI acc)
  | [], _ => rfl
  | x :: l, acc => by rw [List.foldl_cons, List.foldl_cons, putD_keyI, foldI_keys l]
theorem foldI_mem : ∀ (l acc : List Int) (y : Int), y ∈ l.foldl addI acc ↔ y ∈ acc ∨ y ∈ l
  | [], acc, y => by simp
  | x :: l, acc, y => by
    rw [List.foldl_cons, foldI_mem l]
    unfold addI
    split
    · rename_i h
      constructor
      · rintro (a | a)
        · exact .inl a
        · exact .inr (List.mem_cons_of_mem _ a)
      · rintro (a | a)
        · exact .inl a
        · rcases List.mem_cons.mp a with rfl | b
          · exact .inl h
          · exact .inr b
    · simp [or_assoc]
theorem foldI_nd : ∀ (l acc : List Int), acc.Nodup → (l.foldl addI acc).Nodup
  | [], _, h => h
  | x :: l, acc, h => by
    rw [List.foldl_cons]
    refine foldI_nd l _ ?_
    unfold addI
    split
    · exact h
    · rename_i c
      exact List.nodup_append.mpr ⟨h, by simp, fun a ha b hb e => c (by rw [← List.mem_singleton.mp hb, ← e]; exact ha)⟩
theorem foldI_len : ∀ (l acc : List Int), (l.foldl addI acc).length ≤ acc.length + l.length
  | [], _ => by simp
  | x :: l, acc => by
    rw [List.foldl_cons]
    have := foldI_len l (addI acc x)
    have : (addI acc x).length ≤ acc.length + 1 := by unfold addI; split <;> simp
    simp only [List.length_cons]
    omega
theorem sort_keysI {l : List Int} (hl : l.length ≤ 1000) : sortedDicA [.dic (keysI (l.foldl addI []))] = some (.lst ((sdI l).map .int)) := by
  have nd := foldI_nd l [] (by simp)
  obtain ⟨ms, e, p, u⟩ := sort_ints nd
  have em : ms = sdI l := up_eq u (sdI_up l) fun k => by
    rw [p.mem_iff, foldI_mem, sdI_mem]; simp
  subst em
  have ll := foldI_len l []
  have ek : keysVD (keysI (l.foldl addI [])) = (l.foldl addI []).map .int := by
    unfold keysVD keysI
    rw [List.map_map]
    rfl
  unfold sortedD at e
  dsimp only at e
  unfold sortedDicA
  dsimp only
  rw [ek]
  split at e
  · rename_i h
    rw [if_pos ⟨by first | exact h | exact h.1, by unfold keysI; rw [List.length_map, sizeLine_eq]; simp at ll; omega⟩]
    exact e
  · cases e
/-! ### the cells of two rings -/
theorem walk_cell2 {mk : List (Int × Str)} {es : List Int} {p : Int} (ue : es.Pairwise (· < ·)) (sub : ∀ q ∈ mk, q.1 ∈ es) (ne : es ≠ []) : walkN mk p = walkN mk (atN es (cntE es p % es.length)) := by
  have n0 : 0 < es.length := List.length_pos_iff.mpr ne
  have cl := cnt_le es p
  have at_ : ∀ q ∈ mk, ∃ i, ∃ h : i < es.length, es[i] = q.1 := fun q hq => List.mem_iff_getElem.mp (sub q hq)
  by_cases hc : cntE es p = es.length
  · have e0 : cntE es p % es.length = 0 := by rw [hc, Nat.mod_self]
    rw [e0, atN_eq n0]
    have b1 : ∀ q ∈ mk, q.1 < p := fun q hq => by
      obtain ⟨i, hi, e⟩ := at_ q hq
      have := (lt_cnt (p := p) ue i hi).mpr (by omega)
      omega
    have b2 : ∀ q ∈ mk, es[0] ≤ q.1 := fun q hq => by
      obtain ⟨i, hi, e⟩ := at_ q hq
      by_cases h0 : i = 0
      · subst h0; omega
      · have := List.pairwise_iff_getElem.mp ue 0 i n0 hi (by omega)
        omega
    unfold walkN
    have f1 : (mk.filter fun q => decide (p ≤ q.1)) = [] := List.filter_eq_nil_iff.mpr fun q hq => by have := b1 q hq; simp; omega
    have f2 : (mk.filter fun q => decide (q.1 < p)) = mk := List.filter_eq_self.mpr fun q hq => by simpa using b1 q hq
    have f3 : (mk.filter fun q => decide (es[0] ≤ q.1)) = mk := List.filter_eq_self.mpr fun q hq => by simpa using b2 q hq
    have f4 : (mk.filter fun q => decide (q.1 < es[0])) = [] := List.filter_eq_nil_iff.mpr fun q hq => by have := b2 q hq; simp; omega
    rw [f1, f2, f3, f4]
    simp
  · have hlt : cntE es p < es.length := by omega
    rw [Nat.mod_eq_of_lt hlt, atN_eq hlt]
    have key : ∀ q ∈ mk, q.1 < p ↔ q.1 < es[cntE es p] := fun q hq => by
      obtain ⟨i, hi, e⟩ := at_ q hq
      have a := lt_cnt (p := p) ue i hi
      rw [← e, a]
      constructor
      · intro h
        exact List.pairwise_iff_getElem.mp ue i _ hi hlt h
      · intro h
        refine Nat.lt_of_not_le fun h2 => ?_
        rcases Nat.lt_or_eq_of_le h2 with h3 | h3
        · have := List.pairwise_iff_getElem.mp ue _ i hlt hi h3
          omega
        · subst h3
          omega
    unfold walkN
    have f1 : (mk.filter fun q => decide (p ≤ q.1)) = mk.filter fun q => decide (es[cntE es p] ≤ q.1) := List.filter_congr fun q hq => by
      have := key q hq
      rw [Bool.eq_iff_iff, decide_eq_true_iff, decide_eq_true_iff]
      omega
    have f2 : (mk.filter fun q => decide (q.1 < p)) = mk.filter fun q => decide (q.1 < es[cntE es p]) := List.filter_congr fun q hq => by
      rw [Bool.eq_iff_iff, decide_eq_true_iff, decide_eq_true_iff]
      exact key q hq
    rw [f1, f2]
/-- the marks of two rings -/
def comE (mf mg : List (Int × Str)) : List Int := sdI (edgesN mf ++ edgesN mg)
theorem comE_mem {mf mg : List (Int × Str)} {m : Int} : m ∈ comE mf mg ↔ m ∈ edgesN mf ∨ m ∈ edgesN mg := by unfold comE; rw [sdI_mem, List.mem_append]
theorem comE_up (mf mg : List (Int × Str)) : (comE mf mg).Pairwise (· < ·) := sdI_up _
theorem comE_swap (mf mg : List (Int × Str)) : comE mf mg = comE mg mf := up_eq (comE_up _ _) (comE_up _ _) fun k => by rw [comE_mem, comE_mem, or_comm]
theorem insI_len {x : Int} : ∀ l : List Int, (insI x l).length ≤ l.length + 1
  | [] => by simp [insI]
  | y :: l => by
    have := insI_len (x := x) l
    unfold insI
    split
    · simp
    · split
      · simp
      · simp only [List.length_cons]; omega
theorem sdI_len : ∀ l : List Int, (sdI l).length ≤ l.length
  | [] => by simp [sdI]
  | x :: l => by
    have := sdI_len l
    have := insI_len (x := x) (sdI l)
    show (insI x (sdI l)).length ≤ _
    simp only [List.length_cons]; omega
theorem comE_len {f g : Frame} {mf mg : List (Int × Str)} (F : FrOk 12 16 f) (G : FrOk 12 16 g) (hf : Mk f.hs mf) (hg : Mk g.hs mg) : 1 ≤ (comE mf mg).length ∧ (comE mf mg).length ≤ 384 := by
  obtain ⟨a1, a2, a3⟩ := edges_len F hf
  obtain ⟨b1, b2, b3⟩ := edges_len G hg
  have l := sdI_len (edgesN mf ++ edgesN mg)
  rw [List.length_append] at l
  refine ⟨?_, by unfold comE; omega⟩
  obtain ⟨m, hm2⟩ := List.exists_mem_of_length_pos (l := edgesN mf) (by omega)
  exact List.length_pos_of_mem (comE_mem.mpr (.inl hm2))
theorem comE_in {f g : Frame} {mf mg : List (Int × Str)} (F : FrOk 12 16 f) (G : FrOk 12 16 g) (hf : Mk f.hs mf) (hg : Mk g.hs mg) (hz : g.z = f.z) : ∀ m ∈ comE mf mg, 0 ≤ m ∧ m < f.z := fun m hm => by
  rcases comE_mem.mp hm with h | h
  · exact edges_in F hf m h
  · rw [← hz]; exact edges_in G hg m h
end C
end Z

namespace Z
namespace C
open PySem PySem.Spec PyProof.Rows L2
theorem marksof2_ok {f g : Frame} {mf mg : List (Int × Str)} (s : S) (F : FrOk 12 16 f) (G : FrOk 12 16 g) (hf : Mk f.hs mf) (hg : Mk g.hs mg) (sf : sortL ((pairsOf f.hs).map markD) = mf.map markD) (sg : sortL ((pairsOf g.hs).map markD) = mg.map markD) :
    u_marks_of [.lst [ringD f, ringD g]] s = some (.lst ((comE mf mg).map .int), s) := by
  have rf := ring_marks sf
  have rg := ring_marks sg
  obtain ⟨l1, l2, l3⟩ := edges_len F hf
  obtain ⟨m1, m2, m3⟩ := edges_len G hg
  have so := sort_keysI (l := edgesN mf ++ edgesN mg) (by rw [List.length_append]; omega)
  refine eq_of_on ?_
  unfold u_marks_of
  refine wp_mkD rfl ?_
  repeat fail
  refine wp_dc2P (fun x : Frame × List (Int × Str) => ringD x.1) markD (fun x => x.2) (fun _ q => Sum.inl q.1) (fun _ _ => D.bl true) [(f, mf), (g, mg)] (fun x hx => ?_) ?_ ?_
  · have rx : lookF (ringF x.1) "marks" = some (.lst (x.2.map markD)) := by
      simp only [List.mem_cons, List.not_mem_nil, or_false] at hx
      rcases hx with rfl | rfl
      · exact rf
      · exact rg
    unfold ringD
    repeat fail
    intro q hq
    unfold markD
    repeat fail
  · simp; omega
  · have e : ([(f, mf), (g, mg)].flatMap fun x => x.2.map fun y => ((Sum.inl y.1 : Key), D.bl true)).foldl (fun acc p => putD acc p.1 p.2) [] = keysI ((edgesN mf ++ edgesN mg).foldl addI []) := by
      rw [← foldI_keys]
      unfold edgesN
      rw [← List.map_append, List.foldl_map]
      simp only [List.flatMap_cons, List.flatMap_nil, List.append_nil]
      rw [← List.map_append, List.foldl_map]
      rfl
    rw [e]
    repeat fail
theorem checkboth_ok {f g : Frame} (s : S) (hz : g.z = f.z) : u_check_both [ringD f, ringD g] s = some (.non, s) := by
  have e1 := chkring_ok f s
  have e2 := chkring_ok g s
  have e3 := rpoints_ok f s
  have e4 := rpoints_ok g s
  rw [hz] at e4
  refine eq_of_on ?_
  unfold u_check_both
  refine wp_mkD rfl ?_
  unfold ringD at *
  repeat fail
/-- a common cell with both keepers -/
def comD (f g : Frame) (mf mg : List (Int × Str)) (j : Nat) : D := .tup [.int (firstE f.z (comE mf mg) j), .int (manyE f.z (comE mf mg) j), .tup ((keepN f (walkN mf (atN (comE mf mg) j))).map .str), .tup ((keepN g (walkN mg (atN (comE mf mg) j))).map .str)]
def comsD (f g : Frame) (mf mg : List (Int × Str)) : List D := (List.range (comE mf mg).length).map (comD f g mf mg)
theorem commonof_ok {f g : Frame} {mf mg : List (Int × Str)} (s : S) (F : FrOk 12 16 f) (G : FrOk 12 16 g) (hf : Mk f.hs mf) (hg : Mk g.hs mg) (sf : sortL ((pairsOf f.hs).map markD) = mf.map markD) (sg : sortL ((pairsOf g.hs).map markD) = mg.map markD) :
    u_common_of [ringD f, ringD g] s = some (.tup (comsD f g mf mg), s) := by
  obtain ⟨l1, l2⟩ := comE_len F G hf hg
  have e1 := rpoints_ok f s
  have e2 := marksof2_ok s F G hf hg sf sg
  have e3 := cut_ok (z := f.z) (es := comE mf mg) s (by have := F.z0; omega) (by omega)
  refine eq_of_on ?_
  unfold u_common_of
  refine wp_mkD rfl ?_
  unfold ringD at *
  repeat fail
  refine wp_lcM (cellD f.z (comE mf mg)) id (comD f g mf mg) (List.range (comE mf mg).length) (fun j hj => ?_) ?_
  · have e4 := keepersof_ok s F hf sf (p := atN (comE mf mg) j)
    have e5 := keepersof_ok s G hg sg (p := atN (comE mf mg) j)
    have l1 : lookF (cellFs (.int (firstE f.z (comE mf mg) j)) (.int (manyE f.z (comE mf mg) j)) (.int (atN (comE mf mg) j))) "first" = some (.int (firstE f.z (comE mf mg) j)) := rfl
    have l2 : lookF (cellFs (.int (firstE f.z (comE mf mg) j)) (.int (manyE f.z (comE mf mg) j)) (.int (atN (comE mf mg) j))) "many" = some (.int (manyE f.z (comE mf mg) j)) := rfl
    have l3 : lookF (cellFs (.int (firstE f.z (comE mf mg) j)) (.int (manyE f.z (comE mf mg) j)) (.int (atN (comE mf mg) j))) "last" = some (.int (atN (comE mf mg) j)) := rfl
    unfold cellD
    unfold ringD at *
    repeat fail
  rw [List.map_id]
  refine wp_sz (by rw [List.length_map, List.length_range]; omega) ?_
  repeat fail
end C
end Z

namespace Z
namespace C
open PySem PySem.Spec PyProof.Rows L2
/-! ### texts in order -/
def srtS (l : List Str) : List Str := (sortL (l.map .str)).map unS
theorem srtS_ok (l : List Str) : sortL (l.map .str) = (srtS l).map .str ∧ (srtS l).Perm l := by
  have p : (sortL (l.map .str)).Perm (l.map .str) := List.mergeSort_perm _ _
  have a : ∀ d ∈ sortL (l.map .str), D.str (unS d) = d := fun d hd => by
    obtain ⟨x, _, rfl⟩ := List.mem_map.mp (p.mem_iff.mp hd)
    rfl
  refine ⟨?_, ?_⟩
  · unfold srtS
    rw [List.map_map]
    exact (List.map_id' _).symm.trans (List.map_congr_left fun d hd => (a d hd).symm)
  · have q := p.map unS
    rwa [List.map_map, show (unS ∘ D.str) = id from rfl, List.map_id] at q
theorem srtS_eq {l l' : List Str} (p : l.Perm l') : srtS l = srtS l' := by
  unfold srtS
  congr 1
  refine sortL_eq ((List.mergeSort_perm _ _).trans (p.symm.map _)) (sortL_srtd _) (sameK_one (same_strs _)).inj
theorem srtS_mem {l : List Str} {x : Str} : x ∈ srtS l ↔ x ∈ l := (srtS_ok l).2.mem_iff
theorem srtS_nd {l : List Str} (h : l.Nodup) : (srtS l).Nodup := ((srtS_ok l).2.nodup_iff).mpr h
theorem srtS_len {l : List Str} : (srtS l).length = l.length := (srtS_ok l).2.length_eq
/-! ### the names of two rings -/
theorem strKs_put {kvs : List (Key × D)} {ks : List Str} {x : Str} {d : D} (h : strKs kvs = some ks) : strKs (putD kvs (.inr x) d) = some (addK ks x) := by
  have mem : ∀ {kvs : List (Key × D)} {ks : List Str}, strKs kvs = some ks → ((kvs.any fun kv => decide (kv.1 = Sum.inr x)) = true ↔ x ∈ ks) := by
    intro kvs
    induction kvs with
    | nil => intro ks h; simp [strKs] at h; subst h; simp
    | cons p kvs ih =>
      intro ks h
      obtain ⟨k, v⟩ := p
      cases k with
      | inl i => simp [strKs] at h
      | inr y =>
        simp only [strKs] at h
        obtain ⟨ys, h1, rfl⟩ := Option.map_eq_some_iff.mp h
        rw [List.any_cons, Bool.or_eq_true, ih h1, List.mem_cons]
        simp only [decide_eq_true_eq, Sum.inr.injEq]
        constructor
        · rintro (e | e)
          · exact .inl e.symm
          · exact .inr e
        · rintro (e | e)
          · exact .inl e.symm
          · exact .inr e
  have app : ∀ {kvs : List (Key × D)} {ks : List Str}, strKs kvs = some ks → strKs (kvs ++ [(Sum.inr x, d)]) = some (ks ++ [x]) := by
    intro kvs
    induction kvs with
    | nil => intro ks h; simp [strKs] at h; subst h; rfl
    | cons p kvs ih =>
      intro ks h
      obtain ⟨k, v⟩ := p
      cases k with
      | inl i => simp [strKs] at h
      | inr y =>
        simp only [strKs, List.cons_append] at h ⊢
        obtain ⟨ys, h1, rfl⟩ := Option.map_eq_some_iff.mp h
        rw [ih h1]; rfl
  have rep : ∀ {kvs : List (Key × D)} {ks : List Str}, strKs kvs = some ks → strKs (kvs.map fun kv => if kv.1 = Sum.inr x then (kv.1, d) else kv) = some ks := by
    intro kvs
    induction kvs with
    | nil => intro ks h; exact h
    | cons p kvs ih =>
      intro ks h
      obtain ⟨k, v⟩ := p
      cases k with
      | inl i => simp [strKs] at h
      | inr y =>
        simp only [strKs] at h
        obtain ⟨ys, h1, rfl⟩ := Option.map_eq_some_iff.mp h
        rw [List.map_cons]
        by_cases e : (Sum.inr y : Key) = Sum.inr x
        · simp only [e, if_true, strKs]
          rw [ih h1, ← Sum.inr.inj e]; rfl
        · simp only [e, if_false, strKs]
          rw [ih h1]; rfl
  unfold putD addK
  by_cases hx : x ∈ ks
  · rw [if_pos ((mem h).mpr hx), if_pos hx, rep h]
  · rw [if_neg (fun q => hx ((mem h).mp q)), if_neg hx, app h]
theorem strKs_fold : ∀ {ps : List (Key × D)} {xs : List Str} {kvs : List (Key × D)} {ks : List Str}, strKs ps = some xs → strKs kvs = some ks → strKs (ps.foldl (fun a p => putD a p.1 p.2) kvs) = some (xs.foldl addK ks)
  | [], xs, kvs, ks, h, h2 => by simp [strKs] at h; subst h; exact h2
  | (k, v) :: ps, xs, kvs, ks, h, h2 => by
    cases k with
    | inl i => simp [strKs] at h
    | inr y =>
      simp only [strKs] at h
      obtain ⟨ys, h1, rfl⟩ := Option.map_eq_some_iff.mp h
      rw [List.foldl_cons, List.foldl_cons]
      exact strKs_fold h1 (strKs_put h2)
theorem strKs_app : ∀ {ps qs : List (Key × D)} {xs ys : List Str}, strKs ps = some xs → strKs qs = some ys → strKs (ps ++ qs) = some (xs ++ ys)
  | [], qs, xs, ys, h, h2 => by simp [strKs] at h; subst h; exact h2
  | (k, v) :: ps, qs, xs, ys, h, h2 => by
    cases k with
    | inl i => simp [strKs] at h
    | inr y =>
      simp only [strKs, List.cons_append] at h ⊢
      obtain ⟨zs, h1, rfl⟩ := Option.map_eq_some_iff.mp h
      rw [strKs_app h1 h2]; rfl
/-- the names of both, in order -/
def bothN (f g : Frame) : List Str := srtS (ded (nmsOf f.hs ++ nmsOf g.hs))
theorem both_mem {f g : Frame} {x : Str} : x ∈ bothN f g ↔ x ∈ nmsOf f.hs ∨ x ∈ nmsOf g.hs := by unfold bothN; rw [srtS_mem, ded_mem, List.mem_append]
theorem both_nd (f g : Frame) : (bothN f g).Nodup := srtS_nd (ded_nd _)
theorem ded_len (l : List Str) : (ded l).length ≤ l.length := by
  have key : ∀ (l acc : List Str), (l.foldl addK acc).length ≤ acc.length + l.length := by
    intro l
    induction l with
    | nil => intro acc; simp
    | cons x l ih =>
      intro acc
      rw [List.foldl_cons]
      have := ih (addK acc x)
      have : (addK acc x).length ≤ acc.length + 1 := by unfold addK; split <;> simp
      simp only [List.length_cons]; omega
  have := key l []
  simpa [ded] using this
theorem both_len {f g : Frame} (h1 : f.hs.length ≤ 12) (h2 : g.hs.length ≤ 12) : (bothN f g).length ≤ 24 := by
  unfold bothN
  rw [srtS_len]
  have := ded_len (nmsOf f.hs ++ nmsOf g.hs)
  rw [List.length_append] at this
  unfold nmsOf at this ⊢
  rw [List.length_map, List.length_map] at this
  omega
theorem both_swap (f g : Frame) : bothN f g = bothN g f := srtS_eq ((List.perm_ext_iff_of_nodup (ded_nd _) (ded_nd _)).mpr fun x => by rw [ded_mem, ded_mem, List.mem_append, List.mem_append, or_comm])
theorem racks_strs (hs : List Host) : strKs (hs.map fun h => ((Sum.inr h.nm : Key), D.str h.rk)) = some (nmsOf hs) := strKs_racks hs
theorem both_sorted {f g : Frame} (h1 : f.hs.length ≤ 12) (h2 : g.hs.length ≤ 12) : mrgD (racksD f.hs) (racksD g.hs) = some (.dic (mergeD (f.hs.map (fun h => ((Sum.inr h.nm : Key), D.str h.rk)) ++ g.hs.map (fun h => ((Sum.inr h.nm : Key), D.str h.rk))))) ∧
    sortedDicD [.dic (mergeD (f.hs.map (fun h => ((Sum.inr h.nm : Key), D.str h.rk)) ++ g.hs.map (fun h => ((Sum.inr h.nm : Key), D.str h.rk))))] = some (.lst ((bothN f g).map .str)) := by
  constructor
  · unfold mrgD racksD
    dsimp only
    rw [if_pos (by rw [List.length_map, List.length_map, sizeLine_eq]; omega)]
  · have e : strKs (mergeD (f.hs.map (fun h => ((Sum.inr h.nm : Key), D.str h.rk)) ++ g.hs.map (fun h => ((Sum.inr h.nm : Key), D.str h.rk)))) = some (ded (nmsOf f.hs ++ nmsOf g.hs)) :=
      strKs_fold (strKs_app (racks_strs f.hs) (racks_strs g.hs)) (kvs := []) (ks := []) rfl
    unfold sortedDicD
    dsimp only
    have l := both_len h1 h2
    unfold bothN at l
    rw [srtS_len] at l
    rw [e, Option.bind_some, if_pos (by omega), (srtS_ok _).1]; rfl
/-! ### what moves -/
def gnB (KF KG : List Str) (n : Str) : Bool := decide (n ∈ KG) && !decide (n ∈ KF)
def mvJ (z : Int) (es : List Int) (us : List Str) (K1 K2 : Nat → List Str) : Nat → Str → Int
  | 0 => fun _ => 0
  | j + 1 => addC (mvJ z es us K1 K2 j) (manyE z es j) (us.filter (gnB (K1 j) (K2 j)))
def comK (f : Frame) (mk : List (Int × Str)) (es : List Int) (j : Nat) : List Str := keepN f (walkN mk (atN es j))
def gainN (f g : Frame) (mf mg : List (Int × Str)) : Str → Int := mvJ f.z (comE mf mg) (bothN f g) (comK f mf (comE mf mg)) (comK g mg (comE mf mg)) (comE mf mg).length
theorem gainN_swap {f g : Frame} {mf mg : List (Int × Str)} (gz : g.z = f.z) : gainN g f mg mf = mvJ f.z (comE mf mg) (bothN f g) (comK g mg (comE mf mg)) (comK f mf (comE mf mg)) (comE mf mg).length := by
  unfold gainN
  rw [gz, comE_swap mg mf, both_swap g f]
theorem mvJ_sum (z : Int) (es : List Int) (us : List Str) (K1 K2 : Nat → List Str) (n : Str) : ∀ k, mvJ z es us K1 K2 k n = ((List.range k).map fun j => manyE z es j * ((us.filter (gnB (K1 j) (K2 j))).count n : Nat)).sum
  | 0 => rfl
  | k + 1 => by
    rw [List.range_succ, List.map_append, List.sum_append, ← mvJ_sum z es us K1 K2 n k]
    simp [mvJ, addC]
theorem filter_count {l : List Str} (nd : l.Nodup) (P : Str → Bool) (n : Str) : (l.filter P).count n = if n ∈ l ∧ P n = true then 1 else 0 := by
  have nd2 : (l.filter P).Nodup := List.Pairwise.filter _ nd
  rw [List.Nodup.count nd2]
  simp only [List.mem_filter]
theorem gainN_keys {f g : Frame} {mf mg : List (Int × Str)} {z : Nat} (F : FrOk 12 16 f) (G : FrOk 12 16 g) (hf : Mk f.hs mf) (hg : Mk g.hs mg) (gz : g.z = f.z) (hz : f.z = z) (n : Str) :
    gainN f g mf mg n = ((List.range z).map fun p : Nat => if n ∈ bothN f g ∧ gnB (keepN f (walkN mf p)) (keepN g (walkN mg p)) n = true then (1 : Int) else 0).sum := by
  have hin := comE_in F G hf hg gz
  have up := comE_up mf mg
  have ln := comE_len F G hf hg
  have ne : comE mf mg ≠ [] := List.length_pos_iff.mp (by omega)
  have sf : ∀ q ∈ mf, q.1 ∈ comE mf mg := fun q hq => comE_mem.mpr (.inl (List.mem_map_of_mem hq))
  have sg : ∀ q ∈ mg, q.1 ∈ comE mf mg := fun q hq => comE_mem.mpr (.inr (List.mem_map_of_mem hq))
  rw [hz] at hin
  unfold gainN
  rw [mvJ_sum, hz, sum_cells up hin ne fun j => (((bothN f g).filter (gnB (comK f mf (comE mf mg) j) (comK g mg (comE mf mg) j))).count n : Nat)]
  refine sum_congr _ _ _ fun p _ => ?_
  unfold comK
  rw [← walk_cell2 up sf ne, ← walk_cell2 up sg ne, filter_count (both_nd f g)]
  split <;> rfl
def movesD (f g : Frame) (mf mg : List (Int × Str)) : D := .tup ((bothN f g).map fun n => .tup [.str n, .int (gainN f g mf mg n), .int (gainN g f mg mf n)])
theorem addC_filter {c : Str → Int} {m : Int} {P : Str → Bool} {l : List Str} {x : Str} : addC c m ((l ++ [x]).filter P) = if P x = true then (fun n => if n = x then addC c m (l.filter P) x + m else addC c m (l.filter P) n) else addC c m (l.filter P) := by
  rw [List.filter_append]
  cases h : P x with
  | true => rw [List.filter_cons_of_pos h, List.filter_nil, if_pos rfl, addC_snoc]
  | false => rw [List.filter_cons_of_neg (by simp [h]), List.filter_nil, List.append_nil, if_neg (by simp)]
theorem in_tup (x : Str) (l : List Str) : inAD (.str x) (.tup (l.map .str)) = some (.bl (decide (x ∈ l))) := eq_of_on1 (wp_inST rfl)
theorem nin_tup (x : Str) (l : List Str) : notInAD (.str x) (.tup (l.map .str)) = some (.bl (!decide (x ∈ l))) := eq_of_on1 (wp_ninST rfl)
theorem wp_mrg {e : EnvD} {s : S} {Q : D → S → Prop} {ma mb : ME} (h : On (ma e s) fun a s1 => On (mb e s1) fun b s2 => On1 (mrgD a b) fun d => Q d s2) : On (mMrg ma mb e s) Q := on_bnd (h.mono fun _ _ h => on_bnd (h.mono fun _ _ h => on_lft h))
theorem moves_ok {f g : Frame} {mf mg : List (Int × Str)} (s : S) (F : FrOk 12 16 f) (G : FrOk 12 16 g) (hf : Mk f.hs mf) (hg : Mk g.hs mg) (sf : sortL ((pairsOf f.hs).map markD) = mf.map markD) (sg : sortL ((pairsOf g.hs).map markD) = mg.map markD) (gz : g.z = f.z) :
    u_moves [ringD f, ringD g] s = some (movesD f g mf mg, s) := by
  have h1 := F.h1
  have h2 := G.h1
  obtain ⟨b1, b2⟩ := both_sorted h1 h2
  have bl := both_len h1 h2
  have e1 := checkboth_ok (f := f) (g := g) s gz
  have e2 := commonof_ok s F G hf hg sf sg
  have fr : lookF (ringF f) "racks" = some (racksD f.hs) := rfl
  have gr : lookF (ringF g) "racks" = some (racksD g.hs) := rfl
  refine eq_of_on ?_
  unfold u_moves
  refine wp_mkD rfl ?_
  unfold ringD at *
  repeat fail
  refine wp_mrg ?_
  repeat fail
  have nd : ((bothN f g).map (Sum.inr : Str → Key)).Nodup := by
    rw [List.nodup_iff_pairwise_ne, List.pairwise_map]
    exact (List.nodup_iff_pairwise_ne.mp (both_nd f g)).imp fun h q => h (Sum.inr.inj q)
  refine wp_dcM D.str (fun x => Sum.inr x) (fun _ => D.int 0) (bothN f g) (fun x hx => ?_) nd (by omega) ?_
  · repeat fail
  repeat fail
  refine wp_dcM D.str (fun x => Sum.inr x) (fun _ => D.int 0) (bothN f g) (fun x hx => ?_) nd (by omega) ?_
  · repeat fail
  repeat fail
  have ln := comE_len F G hf hg
  refine wp_forI (fun i e s1 => s1 = s ∧ ∃ a1 a2 a3 a4 a5, e = [.val (.obj (Str.ofString "Ring") (ringF f)), .val (.obj (Str.ofString "Ring") (ringF g)), .val (.lst ((bothN f g).map .str)),
      .own (.dic (cntKV (bothN f g) (mvJ f.z (comE mf mg) (bothN f g) (comK f mf (comE mf mg)) (comK g mg (comE mf mg)) i))), .own (.dic (cntKV (bothN f g) (mvJ f.z (comE mf mg) (bothN f g) (comK g mg (comE mf mg)) (comK f mf (comE mf mg)) i))), a1, a2, a3, a4, a5]) ⟨rfl, _, _, _, _, _, rfl⟩ (fun j e s1 d hd hI => ?_) (fun e s1 hI => ?_)
  · obtain ⟨rfl, a1, a2, a3, a4, a5, rfl⟩ := hI
    obtain ⟨hj, rfl⟩ := parts_at hd
    unfold comD
    repeat fail
    generalize hm : manyE f.z (comE mf mg) j = m
    obtain ⟨KF, hKF⟩ : ∃ KF, KF = keepN f (walkN mf (atN (comE mf mg) j)) := ⟨_, rfl⟩
    obtain ⟨KG, hKG⟩ : ∃ KG, KG = keepN g (walkN mg (atN (comE mf mg) j)) := ⟨_, rfl⟩
    have cF : comK f mf (comE mf mg) j = KF := hKF.symm
    have cG : comK g mg (comE mf mg) j = KG := hKG.symm
    rw [← hKF, ← hKG]
    generalize hc1 : mvJ f.z (comE mf mg) (bothN f g) (comK f mf (comE mf mg)) (comK g mg (comE mf mg)) j = c1
    generalize hc2 : mvJ f.z (comE mf mg) (bothN f g) (comK g mg (comE mf mg)) (comK f mf (comE mf mg)) j = c2
    have st1 : mvJ f.z (comE mf mg) (bothN f g) (comK f mf (comE mf mg)) (comK g mg (comE mf mg)) (j + 1) = addC c1 m ((bothN f g).filter (gnB KF KG)) := by
      show addC _ _ _ = _
      rw [hc1, hm, cF, cG]
    have st2 : mvJ f.z (comE mf mg) (bothN f g) (comK g mg (comE mf mg)) (comK f mf (comE mf mg)) (j + 1) = addC c2 m ((bothN f g).filter (gnB KG KF)) := by
      show addC _ _ _ = _
      rw [hc2, hm, cF, cG]
    rw [st1, st2]
    refine wp_forI (fun k e s2 => s2 = s1 ∧ ∃ a, e = [.val (.obj (Str.ofString "Ring") (ringF f)), .val (.obj (Str.ofString "Ring") (ringF g)), .val (.lst ((bothN f g).map .str)),
      .own (.dic (cntKV (bothN f g) (addC c1 m (((bothN f g).take k).filter (gnB KF KG))))), .own (.dic (cntKV (bothN f g) (addC c2 m (((bothN f g).take k).filter (gnB KG KF))))), a, .val (.int (firstE f.z (comE mf mg) j)), .val (.int m), .val (.tup (KF.map .str)), .val (.tup (KG.map .str))]) ?_ (fun k e s2 d hd hI => ?_) (fun e s2 hI => ?_)
    · rw [List.take_zero, List.filter_nil, List.filter_nil, addC_nil, addC_nil]
      exact ⟨rfl, _, rfl⟩
    · obtain ⟨rfl, a, rfl⟩ := hI
      obtain ⟨x, rfl, hx, tk⟩ := take_at hd
      rw [← tk, addC_filter, addC_filter]
      refine wp_gnm ?_
      have fin : ∀ (b : Str → Int) (k1 : List Str), (cntKV (bothN f g) b).length < sizeLine := fun b _ => by rw [cnt_len, sizeLine_eq]; omega
      have t1 := in_tup x KG
      have t2 := in_tup x KF
      have t3 := nin_tup x KG
      have t4 := nin_tup x KF
      by_cases hG : x ∈ KG <;> by_cases hF : x ∈ KF
      · rw [decide_eq_true hG] at t1 t3
        rw [decide_eq_true hF] at t2 t4
        have g1 : gnB KF KG x = false := by unfold gnB; simp [hG, hF]
        have g2 : gnB KG KF x = false := by unfold gnB; simp [hG, hF]
        rw [g1, g2, if_neg (by simp), if_neg (by simp)]
        repeat fail
        exact ⟨_, rfl⟩
      · rw [decide_eq_true hG] at t1 t3
        rw [decide_eq_false hF] at t2 t4
        have g1 : gnB KF KG x = true := by unfold gnB; simp [hG, hF]
        have g2 : gnB KG KF x = false := by unfold gnB; simp [hG, hF]
        rw [g1, g2, if_pos rfl, if_neg (by simp)]
        repeat fail
        refine wp_augK rfl ?_
        repeat fail
        refine ⟨Sum.inr x, _, rfl, cnt_look hx, ?_⟩
        repeat fail
        refine ⟨fin _ [], ?_⟩
        repeat fail
        refine ⟨.val (.str x), ?_⟩
        rw [cnt_put hx]
      · rw [decide_eq_false hG] at t1 t3
        rw [decide_eq_true hF] at t2 t4
        have g1 : gnB KF KG x = false := by unfold gnB; simp [hG, hF]
        have g2 : gnB KG KF x = true := by unfold gnB; simp [hG, hF]
        rw [g1, g2, if_neg (by simp), if_pos rfl]
        repeat fail
        refine wp_augK rfl ?_
        repeat fail
        refine ⟨Sum.inr x, _, rfl, cnt_look hx, ?_⟩
        repeat fail
        refine ⟨fin _ [], rfl, .val (.str x), ?_⟩
        rw [cnt_put hx]
        rfl
      · rw [decide_eq_false hG] at t1 t3
        rw [decide_eq_false hF] at t2 t4
        have g1 : gnB KF KG x = false := by unfold gnB; simp [hG, hF]
        have g2 : gnB KG KF x = false := by unfold gnB; simp [hG, hF]
        rw [g1, g2, if_neg (by simp), if_neg (by simp)]
        repeat fail
        exact ⟨_, rfl⟩
    · obtain ⟨rfl, a, rfl⟩ := hI
      rw [List.length_map, List.take_length]
      exact ⟨rfl, _, _, _, _, _, rfl⟩
  · obtain ⟨rfl, a1, a2, a3, a4, a5, rfl⟩ := hI
    have lc : (comsD f g mf mg).length = (comE mf mg).length := by unfold comsD; rw [List.length_map, List.length_range]
    rw [lc]
    repeat fail
    refine wp_lcM D.str (fun n => D.tup [.str n, .int (gainN f g mf mg n), .int (gainN g f mg mf n)]) id (bothN f g) (fun x hx => ?_) ?_
    · have i1 : idxDic (.dic (cntKV (bothN f g) (mvJ f.z (comE mf mg) (bothN f g) (comK f mf (comE mf mg)) (comK g mg (comE mf mg)) (comE mf mg).length))) (.str x) = some (.int (gainN f g mf mg x)) := cnt_look hx
      have i2 : idxDic (.dic (cntKV (bothN f g) (mvJ f.z (comE mf mg) (bothN f g) (comK g mg (comE mf mg)) (comK f mf (comE mf mg)) (comE mf mg).length))) (.str x) = some (.int (gainN g f mg mf x)) := by
        rw [gainN_swap gz]; exact cnt_look hx
      repeat fail
    rw [List.map_id]
    refine wp_sz (by rw [List.length_map]; omega) ?_
    repeat fail
end C
end Z

namespace Z
namespace C
open PySem PySem.Spec PyProof.Rows L2
/-! ### a host that can join -/
def nkL : List Str := (List.range 12).map fun k : Nat => ("n" : Str) ++ numS k
def hostOfD (h : Host) : D := h.D
end C
end Z

namespace Z
namespace C
open PySem PySem.Spec PyProof.Rows L2
end C
end Z

namespace Z
namespace C
open PySem PySem.Spec PyProof.Rows L2
theorem FrOk.other {f : Frame} {hs : List Host} (F : FrOk 12 16 f) (H : HsOk f.z 16 hs) (h0 : 1 ≤ hs.length) (h1 : hs.length ≤ 12) : FrOk 12 16 (f.wh hs) := ⟨F.z0, F.z1, F.w0, F.w1, F.a0, F.a1, F.b0, F.b1, F.x, F.y, H, h0, h1⟩
def sortI (l : List Int) : List Int := l.mergeSort fun a b => decide (a ≤ b)
theorem sortI_ok {l : List Int} (nd : l.Nodup) : (sortI l).Perm l ∧ (sortI l).Pairwise (· < ·) ∧ sortedD [.lst (l.map .int)] = some (.lst ((sortI l).map .int)) := by
  have p : (sortI l).Perm l := List.mergeSort_perm _ _
  have le := List.pairwise_mergeSort (le := fun a b : Int => decide (a ≤ b)) (fun a b c h1 h2 => by simp at h1 h2 ⊢; omega) (fun a b => by simp; omega) l
  have nd2 : (sortI l).Nodup := p.nodup_iff.mpr nd
  rw [List.nodup_iff_pairwise_ne] at nd2
  have up : (sortI l).Pairwise (· < ·) := (le.and nd2).imp fun {a b} h => by
    have h1 : a ≤ b := by simpa using h.1
    have := h.2
    omega
  obtain ⟨ms, e, p2, u2⟩ := sort_ints nd
  have : ms = sortI l := List.Perm.eq_of_pairwise (fun a b _ _ h1 h2 => by omega) u2 up (p2.trans p.symm)
  exact ⟨p, up, by rw [e, this]⟩
/-! moved on -/
def moveM (z t m : Int) : Int := (m + t) % z
def moveH (z t : Int) (h : Host) : Host := ⟨h.nm, h.rk, sortI (h.ms.map (moveM z t))⟩
theorem move_inj {z t a b : Int} (ha : 0 ≤ a ∧ a < z) (hb : 0 ≤ b ∧ b < z) (e : moveM z t a = moveM z t b) : a = b := by
  unfold moveM at e
  have h1 : (a - b) % z = 0 := by
    have : ((a + t) - (b + t)) % z = 0 := by rw [Int.sub_emod, e, Int.sub_self, Int.zero_emod]
    rwa [show (a + t) - (b + t) = a - b by omega] at this
  by_cases h : 0 ≤ a - b
  · rw [Int.emod_eq_of_lt h (by omega)] at h1; omega
  · rw [mod_near (by omega) (by omega)] at h1; omega
theorem nodup_map {α β : Type} {g : α → β} {l : List α} (nd : l.Nodup) (h : ∀ a ∈ l, ∀ b ∈ l, g a = g b → a = b) : (l.map g).Nodup := by
  rw [List.nodup_iff_pairwise_ne, List.pairwise_map]
  exact (List.nodup_iff_pairwise_ne.mp nd).imp_of_mem fun {a b} ha hb hne e => hne (h a ha b hb e)
theorem ms_nd {z : Int} {k : Nat} {hs : List Host} (H : HsOk z k hs) {h : Host} (hh : h ∈ hs) : h.ms.Nodup := by
  rw [List.nodup_iff_pairwise_ne]
  exact (H.up h hh).imp fun h => by omega
theorem move_nd {z t : Int} {k : Nat} {hs : List Host} (H : HsOk z k hs) {h : Host} (hh : h ∈ hs) : (h.ms.map (moveM z t)).Nodup :=
  nodup_map (ms_nd H hh) fun a ha b hb e => move_inj (H.inz h hh a ha) (H.inz h hh b hb) e
theorem cut6F (f : Frame) : slL f.D none (some 6) = some (.lst [.int f.z, .int f.w, .str f.x, .int f.a, .int f.b, .str f.y]) := by
  unfold Frame.D; exact congrArg (fun l => some (D.lst l)) (zcut6 _ _ _ _ _ _ _)
theorem add6F (f : Frame) (hs : List Host) : addAll (.lst [.int f.z, .int f.w, .str f.x, .int f.a, .int f.b, .str f.y]) (.lst [.tup (hs.map Host.D)]) = some (f.wh hs).D := by
  simp [addAll, addD, catD, Frame.D, crewD, sizeLine_eq]
theorem moved_ok {f : Frame} {t : Int} (s : S) (F : FrOk 12 16 f) : u__law_moved [f.D, .int t] s = some ((f.wh (f.hs.map (moveH f.z t))).D, s) := by
  have f0 : idxD f.D (.int 0) = some (.int f.z) := rfl
  have f6 : idxD f.D (.int 6) = some (.tup (f.hs.map Host.D)) := rfl
  have zp : 0 < f.z := by have := F.z0; omega
  have hl := F.h1
  have c1 := cut6F f
  have c2 := add6F f (f.hs.map (moveH f.z t))
  rw [List.map_map] at c2
  refine eq_of_on ?_
  unfold u__law_moved
  refine wp_mkD rfl ?_
  repeat fail
  refine wp_lcM Host.D id (Host.D ∘ moveH f.z t) f.hs (fun h hh => ?_) ?_
  · have so := (sortI_ok (move_nd (t := t) F.hs hh)).2.2
    have ne := F.hs.ne h hh
    unfold Host.D
    repeat fail
    refine wp_lcM D.int D.int (moveM f.z t) h.ms (fun m hm => ?_) ?_
    · repeat fail
    refine wp_sz (by rw [List.length_map, List.length_map]; omega) ?_
    repeat fail
  rw [List.map_id]
  refine wp_sz (by rw [List.length_map]; omega) ?_
  repeat fail
/-! stretched -/
def strM (t m : Int) : Int := m * t + t - 1
def strH (t : Int) (h : Host) : Host := ⟨h.nm, h.rk, h.ms.map (strM t)⟩
abbrev Frame.str (f : Frame) (t : Int) : Frame := { f with z := f.z * t, hs := f.hs.map (strH t) }
end C
end Z

namespace Z
namespace C
open PySem PySem.Spec PyProof.Rows L2
/-! ### a host more -/
structure Join (f g : Frame) (mf mg : List (Int × Str)) (h : Host) : Prop where
  F : FrOk 12 16 f
  G : FrOk 12 16 g
  hf : Mk f.hs mf
  hg : Mk g.hs mg
  z : g.z = f.z
  w : g.w = f.w
  len : g.hs.length = f.hs.length + 1
  mem : ∀ x, x ∈ nmsOf g.hs ↔ x ∈ nmsOf f.hs ∨ x = h.nm
  new : h.nm ∉ nmsOf f.hs
  key : ∀ p, 0 ≤ p → p < f.z → ∃ l l', keepN f (walkN mf p) = l.take f.w.toNat ∧ keepN g (walkN mg p) = l'.take f.w.toNat ∧ More h.nm l l' ∧ l.Nodup ∧ l'.Nodup ∧ l.length = f.hs.length ∧ l'.length = f.hs.length + 1 ∧ h.nm ∉ l
section
variable {f g : Frame} {mf mg : List (Int × Str)} {h : Host} (J : Join f g mf mg h)
include J
theorem Join.sub {p : Int} (p0 : 0 ≤ p) (p1 : p < f.z) {x : Str} (hx : x ∈ keepN g (walkN mg p)) (ne : x ≠ h.nm) : x ∈ keepN f (walkN mf p) := by
  obtain ⟨l, l', e1, e2, M, _⟩ := J.key p p0 p1
  rw [e1]
  rw [e2] at hx
  exact more_sub M _ x hx ne
theorem Join.no {p : Int} : h.nm ∉ keepN f (walkN mf p) := fun q => J.new (keepJ_mem J.F J.hf q)
end
theorem gain_nonneg {f g : Frame} {mf mg : List (Int × Str)} (F : FrOk 12 16 f) (G : FrOk 12 16 g) (hf : Mk f.hs mf) (hg : Mk g.hs mg) (gz : g.z = f.z) (n : Str) : 0 ≤ gainN f g mf mg n := by
  have z0 := F.z0
  obtain ⟨z, hz⟩ : ∃ z : Nat, f.z = z := ⟨f.z.toNat, by omega⟩
  rw [gainN_keys F G hf hg gz hz]
  have key : ∀ k : Nat, 0 ≤ ((List.range k).map fun p : Nat => if n ∈ bothN f g ∧ gnB (keepN f (walkN mf p)) (keepN g (walkN mg p)) n = true then (1 : Int) else 0).sum := by
    intro k
    induction k with
    | zero => exact Int.le_refl _
    | succ k ih =>
      rw [List.range_succ, List.map_append, List.sum_append]
      simp only [List.map_cons, List.map_nil, List.sum_cons, List.sum_nil]
      split <;> omega
  exact key z
end C
end Z

namespace Z
namespace C
open PySem PySem.Spec PyProof.Rows L2
/-! ### the purse -/
theorem draw_ok {s : S} {n B : Nat} {m : Int} (h : KG s n B) (hB : B < 2 ^ 40) (h0 : 0 < m) (h1 : m < 1073741824) : Dr u__law_draw [.cel n, .int m] s n B 1 fun r => ∃ i : Int, r = .int i ∧ 0 ≤ i ∧ i < m := by
  obtain ⟨ha, a, b, c, hs, b0, b1, c0, c1⟩ := h
  have hn : n < s.length := (List.getElem?_eq_some_iff.mp hs).1
  have hg : ∀ X : D, (s.set n X)[n]? = some X := fun X => List.getElem?_set_self hn
  have r0 := Int.emod_nonneg b (b := 40009) (by decide)
  have r1 := Int.emod_lt_of_pos b (b := 40009) (by decide)
  have e1 : CMulZ b (b % 40009 + 20021) := cmul_ok (by omega) (by omega)
  have e2 : CMulZ 60013 (c + 1) := cmul_ok (by omega) (by omega)
  have e6 : Nat.log2 89 < 9000 := by decide
  generalize hy : (b * (b % 40009 + 20021) + 60013 * (c + 1) + 11) % 2147483629 = y
  have y0 : 0 ≤ y := by rw [← hy]; exact Int.emod_nonneg _ (by decide)
  have y1 : y < 2147483629 := by rw [← hy]; exact Int.emod_lt_of_pos _ (by decide)
  have k1 := kg_set (a := a) (b := b) (c := c + 1) (B := B + 1) ha hn b0 b1 (by omega) (by omega)
  have k2 := kg_set (n := n) (s := s.set n (.lst [.int a, .int b, .int (c + 1)])) (a := a) (b := y) (c := c + 1) (B := B + 1) k1.all (by simpa using hn) y0 (by omega) (by omega) (by omega)
  unfold Dr u__law_draw
  by_cases hpos : 0 < a
  · have k3 := kg_set (n := n) (s := (s.set n (.lst [.int a, .int b, .int (c + 1)])).set n (.lst [.int a, .int y, .int (c + 1)])) (a := a / m) (b := y) (c := c + 1) (B := B + 1) k2.all (by simpa using hn) y0 (by omega) (by omega) (by omega)
    refine ⟨.int (a % m), _, ?_, k3, by simp, _, rfl, Int.emod_nonneg _ (by omega), Int.emod_lt_of_pos _ h0⟩
    simp [mkD, startE, outM, sSeq, seqK, sIf, bndS, bnd, lft, mT, mOp, mOpM, mVar, mC, idxCel, hs, gtD, truD, hpos, sAsg, mCall, aCons, aNil, divmodD, h0, h1, gSeq, gsCons, gsNil, gCel, gNm, sRet, ixN, atI, seqIndex?, sPar, xVal, xNil, setX, setD, addD, mulD, modD, fdivD, intD, hg, e1, e2, e6, hy]
  · refine ⟨.int (y / 89 % m), _, ?_, k2, by simp, _, rfl, Int.emod_nonneg _ (by omega), Int.emod_lt_of_pos _ h0⟩
    simp [mkD, startE, outM, sSeq, seqK, sNil, sIf, bndS, bnd, lft, mT, mOp, mOpM, mVar, mC, idxCel, hs, gtD, truD, hpos, sAsg, mCall, aCons, aNil, h0, h1, gCel, sRet, sSet, ixN, atI, seqIndex?, sPar, xVal, xNil, setX, setD, addD, mulD, modD, fdivD, intD, hg, e1, e2, e6, hy]
theorem pick_ok {s : S} {n B : Nat} {ds : List D} (h : KG s n B) (hB : B < 2 ^ 40) (h0 : 0 < ds.length) (h1 : ds.length < 1073741824) : Dr u__law_pick [.cel n, .lst ds] s n B 1 fun r => r ∈ ds := by
  obtain ⟨r, s', e, hk, hl, i, rfl, i0, i1⟩ := draw_ok (m := ds.length) h hB (by omega) (by omega)
  obtain ⟨d, e2, hd⟩ := at_mem i0 i1
  exact ⟨d, s', by simp [u__law_pick, mkD, startE, outM, sRet, bndS, bnd, lft, mOp, mVar, mCallD, mCall, aCons, aNil, lenD, e, idxD, e2], hk, hl, hd⟩
theorem pur18 : powD (.int 10) (.int 18) = some (.int 1000000000000000000) := by simp [powD]
theorem purse_ok {ns : List Int} (hb : ∀ z ∈ ns, Builtin.Int.intBits z ≤ 1048576) {t : Nat} (ht : t < 1000) (s : S) :
    ∃ a b : Int, u__law_purse [.lst (ns.map .int), .int t] s = some (.lst [.int a, .int b, .int 0], s) ∧ 0 ≤ b ∧ b < 2147483648 := by
  have q18 := pur18
  have key : On (u__law_purse [.lst (ns.map .int), .int t] s) fun d s' => s' = s ∧ ∃ a b : Int, d = .lst [.int a, .int b, .int 0] ∧ 0 ≤ b ∧ b < 2147483648 := by
    unfold u__law_purse
    refine wp_mkF rfl ?_
    repeat fail
    rw [List.length_map]
    refine br (fun h => ?_) (fun h => ?_)
    · have h' : t < ns.length := by omega
      have ob : ns[t].natAbs.log2 ≤ 1048576 := bits_log (hb _ (List.getElem_mem _))
      have ix : idxD (.lst (ns.map .int)) (.int t) = some (.int ns[t]) := by
        refine eq_of_on1 (wp_idxL (d := .int ns[t]) ?_ rfl)
        rw [List.getElem?_map, List.getElem?_eq_getElem h']
        rfl
      generalize ns[t] = o at *
      have m1 : CMulZ o 39373 := cmul_log ob (log_100 (by omega))
      have m2 : CMulZ 104723 (t : Int) := cmul_log (log_100 (by omega)) (log_100 (by omega))
      have fin : ∀ x : Int, s = s ∧ ∃ a b : Int, D.lst [.int x, .int ((o * 39373 + 104723 * t + 17) % 2147483629), .int 0] = .lst [.int a, .int b, .int 0] ∧ 0 ≤ b ∧ b < 2147483648 := fun x =>
        ⟨rfl, x, _, rfl, Int.emod_nonneg _ (by decide), by have := Int.emod_lt_of_pos (o * 39373 + 104723 * t + 17) (b := 2147483629) (by decide); omega⟩
      repeat fail
      refine br (fun hn => ?_) (fun hn => ?_)
      · repeat fail
        exact (fin _).2
      · repeat fail
        refine br (fun hn2 => ?_) (fun hn2 => ?_)
        · repeat fail
          exact (fin _).2
        · repeat fail
          exact (fin _).2
    · have m2 : CMulZ 86243 (t : Int) := cmul_log (log_100 (by omega)) (log_100 (by omega))
      repeat fail
      rw [show (some (4 : Int)) = some ((4 : Nat) : Int) from rfl, cutL_take, ← List.map_take]
      refine wp_forI (fun i e s1 => s1 = s ∧ ∃ m : Int, ∃ c, e = [.val (.lst (ns.map .int)), .val (.int t), c, .unb, .val (.int m)] ∧ 0 ≤ m ∧ m < 2147483648) ⟨rfl, _, _, rfl, by omega, by omega⟩ (fun j e s1 d hd hI => ?_) (fun e s1 hI => ?_)
      · obtain ⟨rfl, m, c, rfl, m0, m1⟩ := hI
        rw [List.getElem?_map] at hd
        obtain ⟨z, hz, rfl⟩ := Option.map_eq_some_iff.mp hd
        have m3 : CMulZ m 48271 := cmul_log (log_100 (by omega)) (log_100 (by omega))
        repeat fail
        exact ⟨_, _, rfl, Int.emod_nonneg _ (by decide), by have := Int.emod_lt_of_pos (m * 48271 + z) (b := 2147483587) (by decide); omega⟩
      · obtain ⟨rfl, m, c, rfl, m0, m1⟩ := hI
        repeat fail
        exact ⟨_, _, rfl, m0, m1⟩
  obtain ⟨d, s', h1, rfl, a, b, rfl, h2, h3⟩ := key
  exact ⟨a, b, h1, h2, h3⟩
abbrev lawP (c : Int) (ur : MD) : MD := mkD 1 2 (sSeq (sFor (rngI (aCons (mCall max2D (aCons (mC (.int 2)) (aCons (mCall min2D (aCons (mCall lenD (aCons (mVar 0) (aNil))) (aCons (mC (.int c)) (aNil)))) (aNil)))) (aNil))) (gNm 1) (sIf (tNotZ (mT (mCallD ur (aCons (mCel (mCallD u__law_purse (aCons (mVar 0) (aCons (mVar 1) (aNil))))) (aNil))))) (sRet (mC (.bl false))) (sNil))) (sRet (mC (.bl true))))
theorem plainP {c : Int} {ur : MD} {k : Nat} (c0 : 2 ≤ c) (c6 : c ≤ 6) (hr : ∀ (s : S) (n : Nat), KG s n 0 → Dr ur [.cel n] s n 0 k fun r => r = .bl true) (ns : List Int) (hb : ∀ z ∈ ns, Builtin.Int.intBits z ≤ 1048576) : ∃ s', lawP c ur [.lst (ns.map .int)] [] = some (.bl true, s') := by
  have key : On (lawP c ur [.lst (ns.map .int)] []) fun d _ => d = .bl true := by
    refine wp_mkD rfl ?_
    repeat bv_omega
    rw [List.length_map]
    generalize hK : (if (if c < (ns.length : Int) then c else (ns.length : Int)) > 2 then (if c < (ns.length : Int) then c else (ns.length : Int)) else 2).toNat = K
    have K6 : K ≤ 6 := by subst hK; split <;> split <;> omega
    refine wp_forI (fun j e s => Ks s ∧ ∃ a, e = [.val (.lst (ns.map .int)), a]) ⟨fun d hd => (by cases hd), _, rfl⟩ (fun j e s d hd hI => ?_) (fun e s hI => ?_)
    · obtain ⟨hI, a0, rfl⟩ := hI
      obtain ⟨hj, rfl⟩ := rng_at hd
      obtain ⟨a, b, e, b0, b1⟩ := purse_ok hb (t := j) (by omega) s
      repeat bv_omega
      refine on_some e ?_
      repeat bv_omega
      have kg : KG (s ++ [.lst [.int a, .int b, .int 0]]) s.length 0 := ⟨fun d hd => by
        rcases List.mem_append.mp hd with h | h
        · exact hI d h
        · rw [List.mem_singleton.mp h]; rfl, a, b, 0, by simp, b0, by omega, by omega, by omega⟩
      refine (hr _ _ kg).on fun r s1 hr k1 l1 => ?_
      subst hr
      repeat bv_omega
      exact ⟨k1.all, _, rfl⟩
    · obtain ⟨hI, a0, rfl⟩ := hI
      repeat bv_omega
  obtain ⟨d, s', h1, rfl⟩ := key
  exact ⟨s', h1⟩
end C
end Z

namespace Z
namespace C
open PySem PySem.Spec PyProof.Rows L2
end C
end Z

namespace Z
namespace C
open PySem PySem.Spec PyProof.Rows L2
/-! ### the drawn ring of the purse family -/
theorem wp_rngq' {a : Int} {A : Prop} (h0 : 0 ≤ a) (h1 : a < 4611686018427387904) (q : A) : 0 ≤ a ∧ a < 4611686018427387904 ∧ A := ⟨h0, h1, q⟩
theorem spare_first {tk : List Int} (hl : tk.length ≤ 1000) : ∃ w : Int, ∃ r : List Int, ((List.range (tk.length + 1)).filter fun i : Nat => !decide ((i : Int) ∈ tk)).map (fun i : Nat => (i : Int)) = w :: r ∧ 0 ≤ w ∧ w ≤ tk.length ∧ w ∉ tk := by
  have hne : ((List.range (tk.length + 1)).filter fun i : Nat => !decide ((i : Int) ∈ tk)) ≠ [] := fun e => by
    have all : ∀ i : Nat, i < tk.length + 1 → (i : Int) ∈ tk := fun i hi => by
      refine Classical.byContradiction fun q => ?_
      have : i ∈ (List.range (tk.length + 1)).filter fun i : Nat => !decide ((i : Int) ∈ tk) := List.mem_filter.mpr ⟨List.mem_range.mpr hi, by simp [q]⟩
      rw [e] at this
      cases this
    have sub : ∀ x ∈ (List.range (tk.length + 1)).map fun i : Nat => (i : Int), x ∈ tk := fun x hx => by
      obtain ⟨i, hi, rfl⟩ := List.mem_map.mp hx
      exact all i (List.mem_range.mp hi)
    have nd : ((List.range (tk.length + 1)).map fun i : Nat => (i : Int)).Nodup := by
      rw [List.Nodup, List.pairwise_map]
      exact List.nodup_range.imp fun h q => h (by omega)
    have := nd.length_le_of_subset sub
    rw [List.length_map, List.length_range] at this
    omega
  obtain ⟨i, r, e⟩ := List.exists_cons_of_ne_nil hne
  have hi : i ∈ (List.range (tk.length + 1)).filter fun i : Nat => !decide ((i : Int) ∈ tk) := by rw [e]; exact List.mem_cons_self
  obtain ⟨h1, h2⟩ := List.mem_filter.mp hi
  have h3 := List.mem_range.mp h1
  refine ⟨i, r.map fun i : Nat => (i : Int), by rw [e, List.map_cons], by omega, by omega, by simpa using h2⟩
theorem pmarks_ok {s : S} {n B m : Nat} {z : Int} {tk : List Int} (h : KG s n B) (hB : B + 1000 < 2 ^ 40) (hz : 1 ≤ z) (hz1 : z < 1073741824) (hl : tk.length ≤ 500) (hlz : (tk.length : Int) < z) (hm : m ≤ 8) :
    Dr u__law_marks [.cel n, .int z, .lst (tk.map .int), .int m] s n B m fun r => ∃ ms : List Int, r = .tup (ms.map .int) ∧ ms ≠ [] ∧ ms.length ≤ max 1 m ∧ ms.Pairwise (· < ·) ∧ ∀ x ∈ ms, 0 ≤ x ∧ x < z ∧ x ∉ tk := by
  refine Dr.of ?_
  unfold u__law_marks
  refine wp_mkD rfl ?_
  repeat fail
  refine wp_forI (fun j e s1 => ∃ (fs : List Int) (v5 v6 : Sl), e = [.val (.cel n), .val (.int z), .val (.lst (tk.map .int)), .val (.int m), .own (.lst (fs.map .int)), v5, v6, .unb, .unb] ∧ fs.Nodup ∧ (∀ x ∈ fs, 0 ≤ x ∧ x < z ∧ x ∉ tk) ∧ fs.length ≤ j ∧ KG s1 n (B + j) ∧ s1.length = s.length)
    ⟨[], .unb, .unb, rfl, by simp, by simp, by simp, h, rfl⟩ (fun j e s1 d hd hI => ?_) (fun e s1 hI => ?_)
  · obtain ⟨fs, v5, v6, rfl, nd, hin, hlen, k1, l1⟩ := hI
    obtain ⟨hj, rfl⟩ := rng_at hd
    repeat fail
    refine (draw_ok (m := z) k1 (by omega) (by omega) hz1).on fun r s2 ⟨x, hr, x0, x1⟩ k2 l2 => ?_
    subst hr
    have c2 := ks_noC k2.all
    have ad : addAll (.lst (tk.map .int)) (.lst (fs.map .int)) = some (.lst ((tk ++ fs).map .int)) := by
      rw [List.map_append]
      exact eq_of_on1 (wp_addL (by rw [List.length_map, List.length_map]; omega) rfl)
    repeat fail
    refine brN (fun hx => ?_) (fun hx => ?_)
    · repeat fail
      refine ⟨by rw [List.length_map, sizeLine_eq]; omega, fs ++ [x], _, _, by rw [List.map_append]; rfl, ?_, ?_, by simp; omega, k2.le (by omega), by omega⟩
      · rw [List.nodup_append]
        refine ⟨nd, by simp, fun a ha b hb e => hx ?_⟩
        rw [List.mem_singleton.mp hb] at e
        rw [← e]
        exact List.mem_append_right _ ha
      · intro y hy
        rcases List.mem_append.mp hy with hy | hy
        · exact hin y hy
        · rw [List.mem_singleton.mp hy]
          exact ⟨x0, x1, fun q => hx (List.mem_append_left _ q)⟩
    · repeat fail
      exact ⟨fs, _, _, rfl, nd, hin, by omega, k2.le (by omega), by omega⟩
  · obtain ⟨fs, v5, v6, rfl, nd, hin, hlen, k1, l1⟩ := hI
    have e0 : (rngD 0 m).length = m := by simp [rngD]
    rw [show ((m : Int).toNat) = m from rfl, e0] at hlen k1
    obtain ⟨w, r, hw, w0, w1, w2⟩ := spare_first (tk := tk) (by omega)
    have c1 := ks_noC k1.all
    repeat fail
    rw [List.length_map]
    refine wp_rngq' (by omega) (by omega) ?_
    rw [show ((tk.length : Int) + 1).toNat = tk.length + 1 by omega, rng_nat]
    refine wp_lcF (fun i : Nat => D.int i) D.int (fun i : Nat => !decide ((i : Int) ∈ tk)) (fun i : Nat => (i : Int)) _ (fun i hi => ?_) ?_
    · repeat fail
      refine fun _ => ?_
      repeat fail
    have hrl : (w :: r).length ≤ tk.length + 1 := by
      rw [← hw, List.length_map]
      exact Nat.le_trans (List.length_filter_le _ _) (by rw [List.length_range]; omega)
    rw [hw]
    refine wp_sz (by rw [List.length_map]; omega) ?_
    obtain ⟨b, hb, hbt⟩ := ne_nil_ok fs
    repeat fail
    cases b with
    | true =>
      have fn := hbt.mp rfl
      obtain ⟨ms, so, pe, up⟩ := sort_ints nd
      repeat fail
      refine ⟨fun e => fn ?_, ?_, up, fun x hx => hin x (pe.mem_iff.mp hx)⟩
      · subst e; exact List.nil_perm.mp pe
      · rw [pe.length_eq]; omega
    | false =>
      have sl : cutL ((w :: r).map D.int) none (some 1) = [w].map .int := cutL_take _ 1
      have so := sorted_up (es := [w]) (by simp)
      repeat fail
      rw [sl, so.2]
      exact ⟨[w], rfl, by simp, by simp; omega, by simp, fun x hx => by rw [List.mem_singleton.mp hx]; exact ⟨w0, by omega, w2⟩⟩
end C
end Z

namespace Z
namespace C
open PySem PySem.Spec PyProof.Rows L2
def nmK (k : Nat) : Str := ⟨#[97 + k]⟩
theorem nmK_nm : ∀ k, k < 8 → Nm (nmK k) := by decide +kernel
theorem nmK_inj {i j : Nat} (h : nmK i = nmK j) : i = j := by
  unfold nmK at h
  have := congrArg (fun x : Str => x.cps.toList) h
  simp at this
  omega
theorem idx_abc {k : Nat} (h : k < 8) : idxD (.str "abcdefgh") (.int k) = some (.str (nmK k)) := by
  have : ∀ k, k < 8 → (if (("abcdefgh" : Str)).length ≤ sizeLine then (atI (("abcdefgh" : Str)).cps.toList (k : Nat)).map fun c => (⟨#[c]⟩ : Str) else none) = some (nmK k) := by decide +kernel
  have := this k h
  unfold idxD
  dsimp only
  split at this
  · rename_i hl
    rw [if_pos hl]
    obtain ⟨c, h1, h2⟩ := Option.map_eq_some_iff.mp this
    rw [h1, ← h2]; rfl
  · cases this
theorem r_nm : ∀ x ∈ (["r1", "r1", "r2", "r3"] : List Str), Nm x := by decide +kernel
/-- a crew that is drawn by the purse -/
structure PHs (z : Int) (k : Nat) (hs : List Host) : Prop where
  ok : HsOk z k hs
  nms : hs.map (·.nm) = (List.range hs.length).map nmK
  rks : ∀ h ∈ hs, h.rk ∈ (["r1", "r1", "r2", "r3"] : List Str)
theorem phs_add {z : Int} {k : Nat} {hs : List Host} {ms : List Int} {rk : Str} (H : PHs z k hs) (h8 : hs.length < 8) (hr : rk ∈ (["r1", "r1", "r2", "r3"] : List Str)) (h3 : ms ≠ [] ∧ ms.length ≤ k) (h4 : ms.Pairwise (· < ·)) (h5 : ∀ m ∈ ms, 0 ≤ m ∧ m < z ∧ m ∉ hs.flatMap (·.ms)) : PHs z k (hs ++ [(⟨nmK hs.length, rk, ms⟩ : Host)]) where
  ok := hsok_add H.ok (by
      rw [H.nms]
      intro q
      obtain ⟨i, hi, e⟩ := List.mem_map.mp q
      have := nmK_inj e
      have := List.mem_range.mp hi
      omega) ⟨nmK_nm _ h8, r_nm _ hr⟩ h3 h4 (fun m hm => ⟨(h5 m hm).1, (h5 m hm).2.1⟩) (by
      rw [List.nodup_append]
      exact ⟨H.ok.apart, h4.imp fun q e => by omega, fun a ha b hb e => (h5 b hb).2.2 (e ▸ ha)⟩)
  nms := by
    rw [List.map_append, H.nms, List.length_append, List.length_singleton, List.range_succ, List.map_append]
    rfl
  rks := fun h hh => by
    rcases List.mem_append.mp hh with q | q
    · exact H.rks h q
    · rw [List.mem_singleton.mp q]; exact hr
/-- a loop that may break off -/
theorem wp_forB {e : EnvD} {s : S} {ds : List D} {mg : MG} {mb : MS} {N : EnvD → S → Prop} {Rt B C T} (J : EnvD → S → Prop) (I : Nat → EnvD → S → Prop) (h0 : I 0 e s)
    (h : ∀ j e s d, ds[j]? = some d → I j e s → On (mg d e s) fun e1 s1 => OnS (mb e1 s1) (I (j + 1)) Rt J (I (j + 1)) T)
    (q1 : ∀ e s, I ds.length e s → J e s) (q : ∀ e s, J e s → N e s) : OnS (forL mg mb ds e s) N Rt B C T :=
  (wp_forI (N := J) I h0 h q1).mono q (fun _ _ h => h) (fun _ _ h => h) (fun _ _ h => h) (fun _ _ h => h)
theorem pring_ok {s : S} {n B mo : Nat} {z : Int} (h : KG s n B) (hB : B + 3000 < 2 ^ 40) (hz : 1 ≤ z) (hz1 : z ≤ 100000) (hm : 1 ≤ mo) (hm4 : mo ≤ 4) :
    Dr u__law_ring [.cel n, .int z, .int mo] s n B 100 fun r => ∃ f : Frame, r = f.D ∧ f.z = z ∧ FrOk 5 mo f ∧ PHs z mo f.hs := by
  refine Dr.of ?_
  unfold u__law_ring
  refine wp_mkD rfl ?_
  repeat fail
  refine (draw_ok (m := 5) h (by omega) (by omega) (by omega)).on fun r s1 ⟨w, hr, w0, w1⟩ k1 l1 => ?_
  subst hr
  repeat fail
  obtain ⟨K, hK⟩ : ∃ K : Nat, (if z < 1 + w then z else 1 + w).toNat = K := ⟨_, rfl⟩
  have K1 : 1 ≤ K ∧ K ≤ 5 := by subst hK; split <;> omega
  rw [hK]
  refine wp_forB (fun e s2 => ∃ (hs : List Host) (v6 v7 : Sl), e = [.val (.cel n), .val (.int z), .val (.int mo), .val (.int (1 + w)), .val (.lst ((hs.flatMap (·.ms)).map .int)), .own (.lst (hs.map Host.D)), v6, v7, .unb, .unb] ∧ PHs z mo hs ∧ 1 ≤ hs.length ∧ hs.length ≤ 5 ∧ KG s2 n (B + 61) ∧ s2.length = s.length)
    (fun j e s2 => ∃ (hs : List Host) (v6 v7 : Sl), e = [.val (.cel n), .val (.int z), .val (.int mo), .val (.int (1 + w)), .val (.lst ((hs.flatMap (·.ms)).map .int)), .own (.lst (hs.map Host.D)), v6, v7, .unb, .unb] ∧ PHs z mo hs ∧ hs.length = j ∧ ((hs.flatMap (·.ms)).length : Int) < z ∧ KG s2 n (B + 1 + j * 12) ∧ s2.length = s.length)
    ⟨[], .unb, .unb, rfl, ⟨hsok_nil _ _, rfl, by simp⟩, rfl, by simp; omega, k1, l1⟩ (fun j e s2 d hd hI => ?_) (fun e s2 hI => ?_) (fun e s2 hI => ?_)
  · obtain ⟨hs, v6, v7, rfl, H, hj, hlz, k2, l2⟩ := hI
    obtain ⟨hjK, rfl⟩ := rng_at hd
    have lf : (hs.flatMap (·.ms)).length ≤ hs.length * mo := fm_len fun x hx => (H.ok.ne x hx).2
    have lf2 : (hs.flatMap (·.ms)).length ≤ 40 := by
      have : hs.length * mo ≤ 5 * 4 := Nat.mul_le_mul (by omega) hm4
      omega
    repeat fail
    refine (draw_ok (m := mo) k2 (by omega) (by omega) (by omega)).on fun r s3 ⟨c, hr, c0, c1⟩ k3 l3 => ?_
    subst hr
    obtain ⟨cn, rfl⟩ : ∃ cn : Nat, c = cn := ⟨c.toNat, by omega⟩
    repeat fail
    rw [show (1 : Int) + cn = ((1 + cn : Nat) : Int) by omega]
    refine (pmarks_ok (m := 1 + cn) k3 (by omega) hz (by omega) (by omega) hlz (by omega)).on fun r s4 ⟨ms, hr, m1, m2, m3, m4⟩ k4 l4 => ?_
    subst hr
    have ab := idx_abc (k := j) (by omega)
    have e1 : listD [.tup (ms.map .int)] = some (.lst (ms.map .int)) := rfl
    have ad : addAll (.lst ((hs.flatMap (·.ms)).map .int)) (.lst (ms.map .int)) = some (.lst ((hs.flatMap (·.ms) ++ ms).map .int)) := by
      rw [List.map_append]
      exact eq_of_on1 (wp_addL (by rw [List.length_map, List.length_map]; omega) rfl)
    repeat fail
    refine (pick_ok (ds := [.str "r1", .str "r1", .str "r2", .str "r3"]) k4 (by omega) (by simp) (by simp)).on fun r s5 hr k5 l5 => ?_
    obtain ⟨rk, hrk, rfl⟩ : ∃ rk : Str, rk ∈ (["r1", "r1", "r2", "r3"] : List Str) ∧ r = .str rk := by
      rcases List.mem_cons.mp hr with rfl | hr
      · exact ⟨_, by simp, rfl⟩
      rcases List.mem_cons.mp hr with rfl | hr
      · exact ⟨_, by simp, rfl⟩
      rcases List.mem_cons.mp hr with rfl | hr
      · exact ⟨_, by simp, rfl⟩
      rcases List.mem_cons.mp hr with rfl | hr
      · exact ⟨_, by simp, rfl⟩
      · cases hr
    have H2 := phs_add (ms := ms) (rk := rk) H (by omega) hrk ⟨m1, by omega⟩ m3 m4
    have gD : ∀ i : Int, geD (.int i) (.int z) = some (.bl (decide (i ≥ z))) := fun i => rfl
    repeat fail
    refine ⟨by rw [List.length_map, sizeLine_eq]; omega, ?_⟩
    have eh : hs.map Host.D ++ [D.tup [.str (nmK j), .str rk, .tup (ms.map .int)]] = (hs ++ [(⟨nmK hs.length, rk, ms⟩ : Host)]).map Host.D := by rw [List.map_append, hj]; rfl
    have ef : hs.flatMap (·.ms) ++ ms = (hs ++ [(⟨nmK hs.length, rk, ms⟩ : Host)]).flatMap (·.ms) := by rw [List.flatMap_append]; simp
    rw [eh, ef]
    have hl2 : (hs ++ [(⟨nmK hs.length, rk, ms⟩ : Host)]).length = j + 1 := by simp [hj]
    have lf3 : ((hs ++ [(⟨nmK hs.length, rk, ms⟩ : Host)]).flatMap (·.ms)).length ≤ 40 + 8 := by rw [← ef, List.length_append]; omega
    generalize hs ++ [(⟨nmK hs.length, rk, ms⟩ : Host)] = hs2 at *
    repeat fail
    rw [List.length_map]
    refine br (fun hb => ?_) (fun hb => ?_)
    · repeat fail
      exact ⟨hs2, _, _, rfl, H2, by omega, by omega, k5.le (by omega), by omega⟩
    · repeat fail
      exact ⟨hs2, _, _, rfl, H2, hl2, by omega, k5.le (by omega), by omega⟩
  · obtain ⟨hs, v6, v7, rfl, H, hj, hlz, k2, l2⟩ := hI
    have e0 : (rngD 0 K).length = K := by simp [rngD]
    rw [e0] at hj k2
    exact ⟨hs, _, _, rfl, H, by omega, by omega, k2.le (by omega), by omega⟩
  · obtain ⟨hs, v6, v7, rfl, H, h1, h5, k2, l2⟩ := hI
    have c2 := ks_noC k2.all
    repeat fail
    refine (draw_ok (m := 4) k2 (by omega) (by omega) (by omega)).on fun r s3 ⟨a, hr, a0, a1⟩ k3 l3 => ?_
    subst hr
    repeat fail
    refine wp_lcI (fun j s4 => KG s4 n (B + 62 + j) ∧ s4.length = s.length) (fun j d => ∃ x : Int, d = .int x ∧ 1 ≤ x ∧ x ≤ 1 + a) ⟨k3.le (by omega), by omega⟩ (fun j s4 d hd hI => ?_) (fun ys s4 hI hlen hP => ?_)
    · obtain ⟨k4, l4⟩ := hI
      obtain ⟨hj, rfl⟩ := rng_at hd
      repeat fail
      refine (draw_ok (m := 1 + a) k4 (by omega) (by omega) (by omega)).on fun r s5 ⟨x, hr, x0, x1⟩ k5 l5 => ?_
      subst hr
      repeat fail
      exact ⟨⟨_, rfl, by omega, by omega⟩, k5.le (by omega), by omega⟩
    · obtain ⟨k4, l4⟩ := hI
      have c4 := ks_noC k4.all
      rw [show (rngD 0 (Int.toNat 2)).length = 2 from rfl] at hlen k4
      obtain ⟨y0, y1, rfl⟩ : ∃ y0 y1, ys = [y0, y1] := by
        match ys, hlen with
        | [y0, y1], _ => exact ⟨_, _, rfl⟩
      obtain ⟨p, rfl, p0, p1⟩ := hP 0 y0 rfl
      obtain ⟨q, rfl, q0, q1⟩ := hP 1 y1 rfl
      repeat fail
      refine (pick_ok (ds := [.str "hosts", .str "racks"]) k4 (by omega) (by simp) (by simp)).on fun r s5 hr k5 l5 => ?_
      obtain ⟨x, hx, rfl⟩ : ∃ x : Str, x ∈ (["hosts", "racks"] : List Str) ∧ r = .str x := by
        rcases List.mem_cons.mp hr with rfl | hr
        · exact ⟨_, by simp, rfl⟩
        rcases List.mem_cons.mp hr with rfl | hr
        · exact ⟨_, by simp, rfl⟩
        · cases hr
      repeat fail
      refine (pick_ok (ds := [.str "plain", .str "with"]) k5 (by omega) (by simp) (by simp)).on fun r s6 hr k6 l6 => ?_
      obtain ⟨y, hy, rfl⟩ : ∃ x : Str, x ∈ (["plain", "with"] : List Str) ∧ r = .str x := by
        rcases List.mem_cons.mp hr with rfl | hr
        · exact ⟨_, by simp, rfl⟩
        rcases List.mem_cons.mp hr with rfl | hr
        · exact ⟨_, by simp, rfl⟩
        · cases hr
      have c6 := ks_noC k6.all
      have tl : tupleD [.lst (hs.map Host.D)] = some (.tup (hs.map Host.D)) := rfl
      repeat fail
      refine ⟨k6.le (by omega), by omega, ⟨z, 1 + a, x, p, q, y, hs⟩, rfl, rfl, ?_, H⟩
      have b1 : (1 : Int) ≤ 1 + a := by omega
      have b2 : 1 + a ≤ 5 := by omega
      have b3 : z ≤ 1000000000000000000 := by omega
      exact ⟨hz, b3, b1, b2, p0, p1, q0, q1, hx, hy, H.ok, h1, h5⟩
end C
end Z

namespace Z
namespace C
open PySem PySem.Spec PyProof.Rows L2
def arcD (a : Int × Int) : D := .tup [.int a.1, .int a.2]
end C
end Z

namespace Z
namespace C
open PySem PySem.Spec PyProof.Rows L2
theorem pwalk_ok {f : Frame} {mk : List (Int × Str)} {p : Int} (s : S) (F : FrOk 12 16 f) (hm : Mk f.hs mk) (p0 : 0 ≤ p) (p1 : p < f.z) : u__law_walk [f.D, .int p] s = some (.lst ((walkN mk p).map .str), s) := far_ok s F hm p0 p1
theorem pmade_ok {f : Frame} (s : S) (F : FrOk 12 16 f) : u_P_law_made [f.D] s = some (ringD f, s) := by
  have e1 := init_ok s F
  refine eq_of_on ?_
  unfold u_P_law_made
  refine wp_mkD rfl ?_
  unfold Frame.D
  repeat fail
theorem take_addF {rk : Str → Str} {acc : List Str} {x : Str} {n : Nat} : (addF rk acc x).take n = if rk x ∉ acc.map rk ∧ (acc.take n).length < n then acc.take n ++ [x] else acc.take n := by
  unfold addF
  by_cases h : rk x ∈ acc.map rk
  · rw [if_pos h, if_neg (fun q => q.1 h)]
  · rw [if_neg h]
    by_cases h2 : (acc.take n).length < n
    · rw [if_pos ⟨h, h2⟩]
      rw [List.length_take] at h2
      rw [List.take_of_length_le (by rw [List.length_append, List.length_singleton]; omega), List.take_of_length_le (by omega)]
    · rw [if_neg (fun q => h2 q.2)]
      rw [List.length_take] at h2
      rw [List.take_append_of_le_length (by omega)]
theorem pkeep_ok {f : Frame} {mk : List (Int × Str)} {p : Int} (s : S) (hs : s.all noC = true) (F : FrOk 12 16 f) (hm : Mk f.hs mk) (p0 : 0 ≤ p) (p1 : p < f.z) : u__law_keepers [f.D, .int p] s = some (.tup ((keepN f (walkN mk p)).map .str), s) := by
  obtain ⟨hw, hl⟩ := walk_nms F hm p
  have ew := pwalk_ok s F hm p0 p1
  generalize walkN mk p = w at *
  obtain ⟨n, hn⟩ : ∃ n : Nat, f.w = n := ⟨f.w.toNat, by have := F.w0; omega⟩
  have n5 : n ≤ 5 := by have := F.w1; omega
  have f1 : idxD f.D (.int 1) = some (.int n) := by rw [← hn]; rfl
  have f2 : idxD f.D (.int 2) = some (.str f.x) := rfl
  have f6 : idxD f.D (.int 6) = some (.tup (f.hs.map Host.D)) := rfl
  have c2 : ∀ (ds : List D) (k : Nat), slL (.lst ds) none (some (k : Int)) = some (.lst (ds.take k)) := fun ds k => congrArg (fun l => some (D.lst l)) (cutL_take ds k)
  have hl1 := F.h1
  refine eq_of_on ?_
  unfold u__law_keepers
  refine wp_mkD rfl ?_
  repeat fail
  refine br (fun hx => ?_) (fun hx => ?_)
  · have g := c2 (w.map .str) n
    have tl : tupleD [.lst ((w.map D.str).take n)] = some (.tup ((w.map D.str).take n)) := rfl
    repeat fail
    refine ⟨?_, rfl⟩
    unfold keepN
    rw [if_pos hx, hn, Int.toNat_natCast, List.map_take]
  repeat fail
  refine wp_lcM Host.D (fun h : Host => D.tup [.str h.nm, .str h.rk]) id f.hs (fun h hh => ?_) ?_
  · unfold Host.D
    repeat fail
  rw [List.map_id]
  refine wp_sz (by rw [List.length_map]; omega) ?_
  have dc := dict_crew F.hs.nd
  repeat fail
  have fln : ∀ i, (firsts (rkOf f.hs) (w.take i)).length ≤ 12 := fun i => by
    have h1 := firsts_len (rk := rkOf f.hs) (l := w.take i)
    rw [List.length_take] at h1
    omega
  refine wp_forI (fun i e s1 => s1 = s ∧ ∃ a, e = [.val f.D, .val (.int p), .val (.lst (w.map .str)), .val (.int n), .val (racksD f.hs), .own (.lst (((w.take i).map (rkOf f.hs)).map .str)), .own (.lst (((firsts (rkOf f.hs) (w.take i)).take n).map .str)), a, .unb]) ⟨rfl, .unb, by simp [firsts]⟩ (fun j e s1 d hd hI => ?_) (fun e s1 hI => ?_)
  · obtain ⟨rfl, a, rfl⟩ := hI
    rw [List.getElem?_map] at hd
    obtain ⟨x, hx1, rfl⟩ := Option.map_eq_some_iff.mp hd
    have hj := (List.getElem?_eq_some_iff.mp hx1).1
    have ex : w[j] = x := by rw [List.getElem?_eq_getElem hj] at hx1; exact Option.some.inj hx1
    have fl := fln j
    have r1 := idx_rack (hw x (ex ▸ List.getElem_mem hj))
    have nx1 : (w.take (j + 1)).map (rkOf f.hs) = (w.take j).map (rkOf f.hs) ++ [rkOf f.hs x] := by
      rw [← List.take_append_getElem hj, List.map_append, ex]; rfl
    have nx2 : (firsts (rkOf f.hs) (w.take (j + 1))).take n = if rkOf f.hs x ∉ (w.take j).map (rkOf f.hs) ∧ ((firsts (rkOf f.hs) (w.take j)).take n).length < n then (firsts (rkOf f.hs) (w.take j)).take n ++ [x] else (firsts (rkOf f.hs) (w.take j)).take n := by
      have e : rkOf f.hs x ∈ (firsts (rkOf f.hs) (w.take j)).map (rkOf f.hs) ↔ rkOf f.hs x ∈ (w.take j).map (rkOf f.hs) := firsts_rk
      rw [← List.take_append_getElem hj, ex, firsts_snoc, take_addF]
      simp only [e]
    have lt1 : ((firsts (rkOf f.hs) (w.take j)).take n).length ≤ n := by rw [List.length_take]; omega
    generalize (firsts (rkOf f.hs) (w.take j)).take n = T at *
    generalize (firsts (rkOf f.hs) (w.take (j + 1))).take n = T2 at *
    have lw : ((w.take j).map (rkOf f.hs)).length ≤ 12 := by rw [List.length_map, List.length_take]; omega
    generalize (w.take j).map (rkOf f.hs) = R at *
    generalize (w.take (j + 1)).map (rkOf f.hs) = R2 at *
    have fin : ∀ (T3 : List Str), T3 = T2 → R ++ [rkOf f.hs x] = R2 → (s1 = s1 ∧ ∃ a, [Sl.val f.D, .val (.int p), .val (.lst (w.map .str)), .val (.int n), .val (racksD f.hs), .own (.lst (R.map .str ++ [.str (rkOf f.hs x)])), .own (.lst (T3.map .str)), .val (.str x), .unb] = [.val f.D, .val (.int p), .val (.lst (w.map .str)), .val (.int n), .val (racksD f.hs), .own (.lst (R2.map .str)), .own (.lst (T2.map .str)), a, .unb]) := fun T3 h1 h2 => by
      subst h1 h2
      exact ⟨rfl, .val (.str x), by rw [List.map_append]; rfl⟩
    have szR : (R.map D.str).length < sizeLine := by rw [List.length_map, sizeLine_eq]; omega
    have szT : (T.map D.str).length < sizeLine := by rw [List.length_map, sizeLine_eq]; omega
    repeat fail
    refine brN (fun hr => ?_) (fun hr => ?_)
    · repeat fail
      rw [List.length_map]
      refine br (fun hn2 => ?_) (fun hn2 => ?_)
      · repeat fail
        have := fin (T ++ [x]) (by rw [nx2, if_pos ⟨hr, by omega⟩]) nx1.symm
        rw [List.map_append] at this
        exact this.2
      · repeat fail
        exact (fin T (by rw [nx2, if_neg (fun q => hn2 (by omega))]) nx1.symm).2
    · repeat fail
      exact (fin T (by rw [nx2, if_neg (fun q => q.1 hr)]) nx1.symm).2
  · obtain ⟨rfl, a, rfl⟩ := hI
    rw [List.length_map, List.take_length]
    obtain ⟨T, hT⟩ : ∃ T, T = (firsts (rkOf f.hs) w).take n := ⟨_, rfl⟩
    have fl := fln w.length
    rw [List.take_length] at fl
    have tl : T.length ≤ n := by rw [hT, List.length_take]; omega
    rw [← hT]
    repeat fail
    refine wp_lcF D.str D.str (fun x => decide (x ∉ T)) id w (fun x hx => ?_) ?_
    · repeat fail
      refine ⟨by simp, rfl, fun _ => ?_⟩
      repeat fail
    rw [List.map_id]
    have wl := List.length_filter_le (fun x => decide (x ∉ T)) w
    refine wp_sz (by rw [List.length_map]; omega) ?_
    have g2 : cutL ((w.filter fun x => decide (x ∉ T)).map D.str) none (some ((n : Int) - T.length)) = ((w.filter fun x => decide (x ∉ T)).take (n - T.length)).map .str := by
      rw [show ((n : Int) - T.length) = ((n - T.length : Nat) : Int) by omega, cutL_take, List.map_take]
    have g3 : slL (.lst ((w.filter fun x => decide (x ∉ T)).map D.str)) none (some ((n : Int) - (T.map D.str).length)) = some (.lst (((w.filter fun x => decide (x ∉ T)).take (n - T.length)).map .str)) := by
      unfold slL; dsimp only; rw [List.length_map, g2]
    have ad : addAll (.lst (T.map .str)) (.lst (((w.filter fun x => decide (x ∉ T)).take (n - T.length)).map .str)) = some (.lst ((keepN f w).map .str)) := by
      unfold keepN
      rw [if_neg (by simpa using hx), keepR_eq, hn, Int.toNat_natCast, ← hT, List.map_append]
      refine eq_of_on1 (wp_addL (by rw [List.length_map, List.length_map, List.length_take]; omega) ?_)
      rfl
    have tu : tupleD [.lst ((keepN f w).map .str)] = some (.tup ((keepN f w).map .str)) := rfl
    repeat fail
    refine ⟨by rw [List.length_map]; omega, by rw [List.length_map]; omega, ?_⟩
    repeat fail
end C
end Z

set_option linter.all false
set_option maxRecDepth 100000
namespace Z
namespace K25
open PySem
open C
/-! ### mirrors -/
def u__law_due : MD := mkD 2 9 (sSeq (sSet 2 (mSosA (mLc [3] (seqI (mOp addD (mOp idxD (mVar 0) (mC (.int 6))) (mOp idxD (mVar 1) (mC (.int 6))))) (cNm 3) (yesT) (mOp idxD (mVar 3) (mC (.int 0)))))) (sSeq (sPar [4, 5] (xOwn (mCallD (fun ds s => lft (dictPD ds) s) (aCons (mLc [3] (seqI (mVar 2)) (cNm 3) (yesT) (mTup (aCons (mVar 3) (aCons (mC (.int 0)) (aNil))))) (aNil))) (xOwn (mCallD (fun ds s => lft (dictPD ds) s) (aCons (mLc [3] (seqI (mVar 2)) (cNm 3) (yesT) (mTup (aCons (mVar 3) (aCons (mC (.int 0)) (aNil))))) (aNil))) (xNil)))) (sSeq (sFor (rngI (aCons (mOp idxD (mVar 0) (mC (.int 0))) (aNil))) (gNm 6) (sSeq (sPar [7, 8] (xVal (mCallD u__law_keepers (aCons (mVar 0) (aCons (mVar 6) (aNil)))) (xVal (mCallD u__law_keepers (aCons (mVar 1) (aCons (mVar 6) (aNil)))) (xNil)))) (sFor (seqI (mVar 2)) (gNm 3) (sSeq (sPutK 4 (mVar 3) (mBor 4 (mOp addD (mOp idxDic (mVar 4) (mVar 3)) (mIf (tAndZ (mT (mOp inAD (mVar 3) (mVar 8))) (mT (mOp notInAD (mVar 3) (mVar 7)))) (mC (.int 1)) (mC (.int 0)))))) (sPutK 5 (mVar 3) (mBor 5 (mOp addD (mOp idxDic (mVar 5) (mVar 3)) (mIf (tAndZ (mT (mOp inAD (mVar 3) (mVar 7))) (mT (mOp notInAD (mVar 3) (mVar 8)))) (mC (.int 1)) (mC (.int 0)))))))))) (sFrz 5 (sFrz 4 (sRet (mCall tupleD (aCons (mLc [3] (seqI (mVar 2)) (cNm 3) (yesT) (mTup (aCons (mVar 3) (aCons (mOp idxDic (mVar 4) (mVar 3)) (aCons (mOp idxDic (mVar 5) (mVar 3)) (aNil)))))) (aNil)))))))))
def u__law_right : MD := mkD 1 13 (sSeq (sSet 1 (mOp addD (mC (.int 1)) (mCallD u__law_draw (aCons (mVar 0) (aCons (mCallD u__law_pick (aCons (mVar 0) (aCons (mLst (aCons (mC (.int 4)) (aCons (mC (.int 30)) (aNil)))) (aNil)))) (aNil)))))) (sSeq (sPar [2, 3] (xVal (mCallD u__law_ring (aCons (mVar 0) (aCons (mVar 1) (aCons (mC (.int 3)) (aNil))))) (xVal (mCallD u__law_ring (aCons (mVar 0) (aCons (mVar 1) (aCons (mC (.int 3)) (aNil))))) (xNil)))) (sSeq (sIf (mT (mOp eqD (mCallD u__law_draw (aCons (mVar 0) (aCons (mC (.int 3)) (aNil)))) (mC (.int 0)))) (sSeq (sOwn 4 (mLc [5] (seqI (mSl slD (mOp idxD (mVar 2) (mC (.int 6))) (oNone) (oSome (mC (.int 2))))) (cNm 5) (yesT) (mTup (aCons (mOp addD (mC (.str "x")) (mOp idxD (mVar 5) (mC (.int 0)))) (aCons (mOp idxD (mVar 5) (mC (.int 1))) (aCons (mOp idxD (mVar 5) (mC (.int 2))) (aNil))))))) (sFrz 4 (sSet 3 (mOp addAll (mSl slL (mVar 2) (oNone) (oSome (mC (.int 6)))) (mLst (aCons (mOp addD (mCall tupleD (aCons (mVar 4) (aNil))) (mSl slD (mOp idxD (mVar 2) (mC (.int 6))) (oSome (mC (.int 2))) (oNone))) (aNil))))))) (sNil)) (sSeq (sPar [6, 7, 8] (xVal (mCallD u__law_due (aCons (mVar 2) (aCons (mVar 3) (aNil)))) (xVal (mCallD u_P_law_made (aCons (mVar 2) (aNil))) (xVal (mCallD u_P_law_made (aCons (mVar 3) (aNil))) (xNil))))) (sSeq (sIf (mT (mOp neD (mCallD reprM (aCons (mLst (aCons (mCallD u_moves (aCons (mVar 7) (aCons (mVar 8) (aNil)))) (aCons (mCallD (mdPick [1, 0] u_moves) (aCons (mVar 8) (aCons (mVar 7) (aNil)))) (aNil)))) (aNil))) (mCallD reprM (aCons (mLst (aCons (mVar 6) (aCons (mVar 6) (aNil)))) (aNil))))) (sRet (mC (.bl false))) (sNil)) (sSeq (sSet 9 (mCall sumD (aCons (mLc [5, 10, 11] (seqI (mVar 6)) (cTup [5, 10, 11]) (yesT) (mVar 10)) (aNil)))) (sSeq (sIf (mT (mOp neD (mCallD reprM (aCons (mLst (aCons (mCallD u_moved (aCons (mVar 7) (aCons (mVar 8) (aNil)))) (aCons (mCallD (mdPick [1, 0] u_moved) (aCons (mVar 8) (aCons (mVar 7) (aNil)))) (aNil)))) (aNil))) (mCallD reprM (aCons (mLst (aCons (mVar 9) (aCons (mVar 9) (aNil)))) (aNil))))) (sRet (mC (.bl false))) (sNil)) (sSeq (sIf (mT (mOp neD (mCallD reprM (aCons (mCallD u_moves (aCons (mVar 8) (aCons (mVar 7) (aNil)))) (aNil))) (mCallD reprM (aCons (mCall tupleD (aCons (mLc [5, 10, 11] (seqI (mVar 6)) (cTup [5, 10, 11]) (yesT) (mTup (aCons (mVar 5) (aCons (mVar 11) (aCons (mVar 10) (aNil)))))) (aNil))) (aNil))))) (sRet (mC (.bl false))) (sNil)) (sRet (mAnd (mOp eqD (mCallD u_moved (aCons (mVar 7) (aCons (mVar 7) (aNil)))) (mC (.int 0))) (mOp eqD (mSosA (mLc [12] (seqI (mCallD u_moves (aCons (mVar 7) (aCons (mVar 7) (aNil))))) (cNm 12) (yesT) (mSl slD (mVar 12) (oSome (mC (.int 1))) (oNone)))) (mLst (aCons (mTup (aCons (mC (.int 0)) (aCons (mC (.int 0)) (aNil)))) (aNil))))))))))))))
def u_law : MD := mkD 1 2 (sSeq (sFor (rngI (aCons (mCall max2D (aCons (mC (.int 2)) (aCons (mCall min2D (aCons (mCall lenD (aCons (mVar 0) (aNil))) (aCons (mC (.int 4)) (aNil)))) (aNil)))) (aNil))) (gNm 1) (sIf (tNotZ (mT (mCallD u__law_right (aCons (mCel (mCallD u__law_purse (aCons (mVar 0) (aCons (mVar 1) (aNil))))) (aNil))))) (sRet (mC (.bl false))) (sNil))) (sRet (mC (.bl true))))
end K25
end Z

namespace Z
namespace K25
open PySem PySem.Spec PyProof.Rows L2
open C
/-! ### sorted(set(..)), its answers -/
theorem wp_sosA {e : EnvD} {s : S} {Q : D → S → Prop} {ma : ME} (h : On (ma e s) fun d s1 => On1 (sosAD [d]) fun r => Q r s1) : On (mSosA ma e s) Q := on_bnd (h.mono fun _ _ h => on_lft h)
theorem strsD_maps : ∀ xs : List Str, strsD (xs.map .str) = some xs
  | [] => rfl
  | x :: xs => by
    rw [List.map_cons]
    show (strsD (xs.map .str)).map (x :: ·) = _
    rw [strsD_maps xs]; rfl
theorem sosA_strs {xs : List Str} (h : xs ≠ []) (hl : xs.length < 64) : sosAD [.lst (xs.map .str)] = some (.lst ((srtS (ded xs)).map .str)) := by
  have a : sosD [.lst (xs.map .str)] = none := by
    cases xs with
    | nil => exact absurd rfl h
    | cons x xs => rfl
  have b : sosTD [.lst (xs.map .str)] = some (.lst ((srtS (ded xs)).map .str)) := by
    unfold sosTD
    dsimp only
    rw [strsD_maps]
    dsimp only
    rw [if_pos hl, (srtS_ok _).1, srtS_eq ((List.perm_ext_iff_of_nodup (dedT_ok xs).1 (ded_nd xs)).mpr fun x => by rw [(dedT_ok xs).2, ded_mem])]
  unfold sosAD
  rw [a, b]
theorem sosA_pairs {α : Type} {l : List α} (h : l ≠ []) (hl : l.length < 63) : sosAD [.lst (l.map fun _ => .tup [.int 0, .int 0])] = some (.lst [.tup [.int 0, .int 0]]) := by
  obtain ⟨a, r, rfl⟩ := List.exists_cons_of_ne_nil h
  have t : ∀ l : List α, sameT [0, 0] (l.map fun _ => .tup [.int 0, .int 0]) = true := by
    intro l
    induction l with
    | nil => rfl
    | cons b l ih => rw [List.map_cons]; show (decide _ && sameT _ _) = true; rw [ih]; rfl
  have c : sosCD [.lst ((a :: r).map fun _ => .tup [.int 0, .int 0])] = some (.lst [.tup [.int 0, .int 0]]) := by
    unfold sosCD
    rw [List.map_cons]
    show (if (sameT [0, 0] (r.map fun _ => .tup [.int 0, .int 0]) && (([0, 0] : List Int).all fun i => decide (0 ≤ i ∧ i < 64)) && decide ((r.map fun _ => D.tup [.int 0, .int 0]).length < 63)) = true then _ else _) = _
    rw [if_pos]
    · rfl
    · rw [t r, List.length_map, decide_eq_true (by rw [List.length_cons] at hl; omega)]; rfl
  unfold sosAD
  rw [c]
  rfl
/-! ### a tally -/
def st (c b : Str → Int) (l : List Str) : Str → Int := fun n => c n + if n ∈ l then b n else 0
theorem st_nil (c b : Str → Int) : st c b [] = c := by funext n; simp [st]
theorem st_snoc {c b : Str → Int} {l : List Str} {x : Str} (h : x ∉ l) : (fun n => if n = x then st c b l x + b x else st c b l n) = st c b (l ++ [x]) := by
  funext n
  unfold st
  by_cases e : n = x
  · subst e; simp [h]
  · simp [e]
def tly (b : Nat → Str → Int) (us : List Str) : Nat → Str → Int
  | 0 => fun _ => 0
  | p + 1 => st (tly b us p) (b p) us
theorem tly_sum (b : Nat → Str → Int) (us : List Str) (n : Str) : ∀ k, tly b us k n = ((List.range k).map fun p => if n ∈ us then b p n else 0).sum
  | 0 => rfl
  | k + 1 => by
    rw [List.range_succ, List.map_append, List.sum_append, ← tly_sum b us n k]
    simp [tly, st]
def gB (A B : Nat → List Str) (p : Nat) (n : Str) : Int := if gnB (A p) (B p) n = true then 1 else 0
theorem take_nd {us : List Str} (nd : us.Nodup) {k : Nat} {x : Str} (tk : us.take k ++ [x] = us.take (k + 1)) : x ∉ us.take k := by
  have z : (us.take (k + 1)).Nodup := List.Sublist.nodup (List.take_sublist _ _) nd
  rw [← tk, List.nodup_append] at z
  exact fun q => z.2.2 x q x (by simp) rfl
theorem keepN_mem {f : C.Frame} {mf : List (Int × Str)} (F : FrOk 12 16 f) (hf : Mk f.hs mf) {p : Int} : True := trivial
theorem tly_gain {f g : C.Frame} {mf mg : List (Int × Str)} {z : Nat} (F : FrOk 12 16 f) (G : FrOk 12 16 g) (hf : Mk f.hs mf) (hg : Mk g.hs mg) (gz : g.z = f.z) (hz : f.z = z) (n : Str) :
    tly (gB (fun p => keepN f (walkN mf p)) (fun p => keepN g (walkN mg p))) (bothN f g) z n = gainN f g mf mg n := by
  rw [tly_sum, gainN_keys F G hf hg gz hz]
  refine sum_congr _ _ _ fun p _ => ?_
  unfold gB
  by_cases h1 : n ∈ bothN f g
  · rw [if_pos h1]; simp [h1]
  · simp [h1]
theorem due_ok {f g : C.Frame} {mf mg : List (Int × Str)} {z : Nat} (s : S) (hs : s.all noC = true) (F : FrOk 12 16 f) (G : FrOk 12 16 g) (hf : Mk f.hs mf) (hg : Mk g.hs mg) (gz : g.z = f.z) (hz : f.z = z) :
    u__law_due [f.D, g.D] s = some (movesD f g mf mg, s) := by
  have h1 := F.h1
  have h2 := G.h1
  have h0 := F.h0
  have z0 := F.z0
  have z1 := F.z1
  have bl := both_len h1 h2
  have bn := both_nd f g
  have f0 : idxD f.D (.int 0) = some (.int z) := by rw [← hz]; rfl
  have f6 : idxD f.D (.int 6) = some (.tup (f.hs.map Host.D)) := rfl
  have g6 : idxD g.D (.int 6) = some (.tup (g.hs.map Host.D)) := rfl
  have ad : addD (.tup (f.hs.map Host.D)) (.tup (g.hs.map Host.D)) = some (.tup ((f.hs ++ g.hs).map Host.D)) := by
    rw [List.map_append]
    exact eq_of_on1 (wp_catT (by rw [List.length_map, List.length_map]; omega) rfl)
  have so : sosAD [.lst ((f.hs ++ g.hs).map fun h => D.str h.nm)] = some (.lst ((bothN f g).map .str)) := by
    have e : (f.hs ++ g.hs).map (fun h => D.str h.nm) = (nmsOf f.hs ++ nmsOf g.hs).map .str := by unfold nmsOf; rw [← List.map_append, List.map_map]; rfl
    rw [e]
    refine sosA_strs (fun q => ?_) ?_
    · have := congrArg List.length q
      have q1 : (nmsOf f.hs).length = f.hs.length := List.length_map _
      rw [List.length_append, q1, List.length_nil] at this
      omega
    · rw [List.length_append]
      have q1 : (nmsOf f.hs).length = f.hs.length := List.length_map _
      have q2 : (nmsOf g.hs).length = g.hs.length := List.length_map _
      omega
  have dc : dictPD [.lst ((bothN f g).map fun x => D.tup [.str x, .int 0])] = some (.dic (cntKV (bothN f g) fun _ => 0)) :=
    (dict_gen (k := fun x : Str => x) (v := fun _ => D.int 0) (by rw [List.map_id']; exact bn)).trans rfl
  refine eq_of_on ?_
  unfold u__law_due
  refine wp_mkD rfl ?_
  repeat fail
  refine wp_sosA ?_
  repeat fail
  refine wp_lcM Host.D (fun h : Host => D.str h.nm) id (f.hs ++ g.hs) (fun h hh => ?_) ?_
  · unfold Host.D
    repeat fail
  rw [List.map_id]
  refine wp_sz (by rw [List.length_map, List.length_append]; omega) ?_
  repeat fail
  refine wp_lcM D.str (fun x => D.tup [.str x, .int 0]) id (bothN f g) (fun x hx => ?_) ?_
  · repeat fail
  rw [List.map_id]
  refine wp_sz (by rw [List.length_map]; omega) ?_
  repeat fail
  refine wp_lcM D.str (fun x => D.tup [.str x, .int 0]) id (bothN f g) (fun x hx => ?_) ?_
  · repeat fail
  rw [List.map_id]
  refine wp_sz (by rw [List.length_map]; omega) ?_
  repeat fail
  refine wp_forI (fun i e s1 => s1 = s ∧ ∃ a1 a2 a3 a4, e = [.val f.D, .val g.D, .val (.lst ((bothN f g).map .str)), a1, .own (.dic (cntKV (bothN f g) (tly (gB (fun p => keepN f (walkN mf p)) (fun p => keepN g (walkN mg p))) (bothN f g) i))), .own (.dic (cntKV (bothN f g) (tly (gB (fun p => keepN g (walkN mg p)) (fun p => keepN f (walkN mf p))) (bothN f g) i))), a2, a3, a4]) ⟨rfl, _, _, _, _, rfl⟩ (fun i e s1 d hd hI => ?_) (fun e s1 hI => ?_)
  · obtain ⟨rfl, a1, a2, a3, a4, rfl⟩ := hI
    obtain ⟨hi, rfl⟩ := rng_at hd
    have hi : i < z := by omega
    have r1 := pkeep_ok (p := (i : Int)) s1 hs F hf (by omega) (by omega)
    have r2 := pkeep_ok (p := (i : Int)) s1 hs G hg (by omega) (by omega)
    obtain ⟨KF, hKF⟩ : ∃ KF, KF = keepN f (walkN mf (i : Int)) := ⟨_, rfl⟩
    obtain ⟨KG, hKG⟩ : ∃ KG, KG = keepN g (walkN mg (i : Int)) := ⟨_, rfl⟩
    have b1 : ∀ x, gB (fun p => keepN f (walkN mf p)) (fun p => keepN g (walkN mg p)) i x = if gnB KF KG x = true then 1 else 0 := fun x => by rw [hKF, hKG]; rfl
    have b2 : ∀ x, gB (fun p => keepN g (walkN mg p)) (fun p => keepN f (walkN mf p)) i x = if gnB KG KF x = true then 1 else 0 := fun x => by rw [hKF, hKG]; rfl
    rw [← hKF] at r1
    rw [← hKG] at r2
    generalize hc1 : tly (gB (fun p => keepN f (walkN mf p)) (fun p => keepN g (walkN mg p))) (bothN f g) i = c1
    generalize hc2 : tly (gB (fun p => keepN g (walkN mg p)) (fun p => keepN f (walkN mf p))) (bothN f g) i = c2
    have st1 : tly (gB (fun p => keepN f (walkN mf p)) (fun p => keepN g (walkN mg p))) (bothN f g) (i + 1) = st c1 (gB (fun p => keepN f (walkN mf p)) (fun p => keepN g (walkN mg p)) i) (bothN f g) := by rw [← hc1]; rfl
    have st2 : tly (gB (fun p => keepN g (walkN mg p)) (fun p => keepN f (walkN mf p))) (bothN f g) (i + 1) = st c2 (gB (fun p => keepN g (walkN mg p)) (fun p => keepN f (walkN mf p)) i) (bothN f g) := by rw [← hc2]; rfl
    rw [st1, st2]
    generalize gB (fun p => keepN f (walkN mf p)) (fun p => keepN g (walkN mg p)) i = q1 at *
    generalize gB (fun p => keepN g (walkN mg p)) (fun p => keepN f (walkN mf p)) i = q2 at *
    repeat fail
    refine wp_forI (fun k e s2 => s2 = s1 ∧ ∃ a, e = [.val f.D, .val g.D, .val (.lst ((bothN f g).map .str)), a, .own (.dic (cntKV (bothN f g) (st c1 q1 ((bothN f g).take k)))), .own (.dic (cntKV (bothN f g) (st c2 q2 ((bothN f g).take k)))), .val (.int (i : Int)), .val (.tup (KF.map .str)), .val (.tup (KG.map .str))]) ?_ (fun k e s2 d hd hI => ?_) (fun e s2 hI => ?_)
    · rw [List.take_zero, st_nil, st_nil]
      exact ⟨rfl, _, rfl⟩
    · obtain ⟨rfl, a, rfl⟩ := hI
      obtain ⟨x, rfl, hx, tk⟩ := take_at hd
      have xo := take_nd bn tk
      refine wp_gnm ?_
      have t1 := in_tup x KG
      have t2 := in_tup x KF
      have t3 := nin_tup x KG
      have t4 := nin_tup x KF
      have i1 : idxDic (.dic (cntKV (bothN f g) (st c1 q1 ((bothN f g).take k)))) (.str x) = some (.int (st c1 q1 ((bothN f g).take k) x)) := cnt_look hx
      have i2 : idxDic (.dic (cntKV (bothN f g) (st c2 q2 ((bothN f g).take k)))) (.str x) = some (.int (st c2 q2 ((bothN f g).take k) x)) := cnt_look hx
      have b1 := b1 x
      have b2 := b2 x
      have u1 : putD (cntKV (bothN f g) (st c1 q1 ((bothN f g).take k))) (.inr x) (.int (st c1 q1 ((bothN f g).take k) x + q1 x)) = cntKV (bothN f g) (st c1 q1 ((bothN f g).take (k + 1))) := by rw [cnt_put hx, st_snoc xo, tk]
      have u2 : putD (cntKV (bothN f g) (st c2 q2 ((bothN f g).take k))) (.inr x) (.int (st c2 q2 ((bothN f g).take k) x + q2 x)) = cntKV (bothN f g) (st c2 q2 ((bothN f g).take (k + 1))) := by rw [cnt_put hx, st_snoc xo, tk]
      have fin : ∀ c : Str → Int, (cntKV (bothN f g) c).length < sizeLine := fun c => by rw [cnt_len, sizeLine_eq]; omega
      have fi1 := fin (st c1 q1 ((bothN f g).take k))
      have fi2 := fin (st c2 q2 ((bothN f g).take k))
      by_cases hG : x ∈ KG <;> by_cases hF : x ∈ KF
      · rw [decide_eq_true hG] at t1 t3
        rw [decide_eq_true hF] at t2 t4
        have g1 : gnB KF KG x = false := by unfold gnB; simp [hG, hF]
        have g2 : gnB KG KF x = false := by unfold gnB; simp [hG, hF]
        rw [g1, if_neg (by simp)] at b1
        rw [g2, if_neg (by simp)] at b2
        rw [b1] at u1
        rw [b2] at u2
        repeat fail
        refine wp_putK rfl ?_
        repeat fail
        rw [u1]
        refine wp_putK rfl ?_
        repeat fail
        rw [u2]
        exact ⟨_, rfl⟩
      · rw [decide_eq_true hG] at t1 t3
        rw [decide_eq_false hF] at t2 t4
        have g1 : gnB KF KG x = true := by unfold gnB; simp [hG, hF]
        have g2 : gnB KG KF x = false := by unfold gnB; simp [hG, hF]
        rw [g1, if_pos rfl] at b1
        rw [g2, if_neg (by simp)] at b2
        rw [b1] at u1
        rw [b2] at u2
        repeat fail
        refine wp_putK rfl ?_
        repeat fail
        rw [u1]
        refine wp_putK rfl ?_
        repeat fail
        rw [u2]
        exact ⟨_, rfl⟩
      · rw [decide_eq_false hG] at t1 t3
        rw [decide_eq_true hF] at t2 t4
        have g1 : gnB KF KG x = false := by unfold gnB; simp [hG, hF]
        have g2 : gnB KG KF x = true := by unfold gnB; simp [hG, hF]
        rw [g1, if_neg (by simp)] at b1
        rw [g2, if_pos rfl] at b2
        rw [b1] at u1
        rw [b2] at u2
        repeat fail
        refine wp_putK rfl ?_
        repeat fail
        rw [u1]
        refine wp_putK rfl ?_
        repeat fail
        rw [u2]
        exact ⟨_, rfl⟩
      · rw [decide_eq_false hG] at t1 t3
        rw [decide_eq_false hF] at t2 t4
        have g1 : gnB KF KG x = false := by unfold gnB; simp [hG, hF]
        have g2 : gnB KG KF x = false := by unfold gnB; simp [hG, hF]
        rw [g1, if_neg (by simp)] at b1
        rw [g2, if_neg (by simp)] at b2
        rw [b1] at u1
        rw [b2] at u2
        repeat fail
        refine wp_putK rfl ?_
        repeat fail
        rw [u1]
        refine wp_putK rfl ?_
        repeat fail
        rw [u2]
        exact ⟨_, rfl⟩
    · obtain ⟨rfl, a, rfl⟩ := hI
      rw [List.length_map, List.take_length]
      exact ⟨rfl, _, _, _, _, rfl⟩
  · obtain ⟨rfl, a1, a2, a3, a4, rfl⟩ := hI
    have lz : (rngD 0 (Int.toNat z)).length = z := by simp [rngD]
    rw [lz]
    repeat fail
    refine wp_lcM D.str (fun n => D.tup [.str n, .int (gainN f g mf mg n), .int (gainN g f mg mf n)]) id (bothN f g) (fun x hx => ?_) ?_
    · have i1 : idxDic (.dic (cntKV (bothN f g) (tly (gB (fun p => keepN f (walkN mf p)) (fun p => keepN g (walkN mg p))) (bothN f g) z))) (.str x) = some (.int (gainN f g mf mg x)) := by rw [← tly_gain F G hf hg gz hz x]; exact cnt_look hx
      have i2 : idxDic (.dic (cntKV (bothN f g) (tly (gB (fun p => keepN g (walkN mg p)) (fun p => keepN f (walkN mf p))) (bothN f g) z))) (.str x) = some (.int (gainN g f mg mf x)) := by
        rw [← tly_gain G F hg hf gz.symm (gz.trans hz) x, both_swap g f]; exact cnt_look hx
      repeat fail
    rw [List.map_id]
    refine wp_sz (by rw [List.length_map]; omega) ?_
    repeat fail
/-! ### the same host by another name -/
def xH (h : Host) : Host := ⟨("x" : Str) ++ h.nm, h.rk, h.ms⟩
def xHs (hs : List Host) : List Host := (hs.take 2).map xH ++ hs.drop 2
theorem hsok_nms {z : Int} {k : Nat} {hs hs' : List Host} (H : HsOk z k hs) (e : hs'.map (fun h => (h.rk, h.ms)) = hs.map fun h => (h.rk, h.ms)) (nd : (hs'.map (·.nm)).Nodup) (nm : ∀ h ∈ hs', Nm h.nm) : HsOk z k hs' := by
  have back : ∀ h ∈ hs', ∃ g ∈ hs, g.rk = h.rk ∧ g.ms = h.ms := fun h hh => by
    have q : (h.rk, h.ms) ∈ hs.map fun h => (h.rk, h.ms) := e ▸ List.mem_map_of_mem (f := fun h : Host => (h.rk, h.ms)) hh
    obtain ⟨g, hg, e2⟩ := List.mem_map.mp q
    exact ⟨g, hg, congrArg Prod.fst e2, congrArg Prod.snd e2⟩
  refine ⟨nd, fun h hh => ⟨nm h hh, ?_⟩, fun h hh => ?_, fun h hh => ?_, fun h hh => ?_, ?_⟩
  · obtain ⟨g, hg, e1, _⟩ := back h hh
    rw [← e1]; exact (H.nm g hg).2
  · obtain ⟨g, hg, _, e2⟩ := back h hh
    rw [← e2]; exact H.ne g hg
  · obtain ⟨g, hg, _, e2⟩ := back h hh
    rw [← e2]; exact H.up g hg
  · obtain ⟨g, hg, _, e2⟩ := back h hh
    rw [← e2]; exact H.inz g hg
  · have fl : ∀ l : List Host, l.flatMap (·.ms) = (l.map fun h => (h.rk, h.ms)).flatMap (·.2) := fun l => by rw [List.flatMap_map]
    rw [fl, e, ← fl]
    exact H.apart
def xNs (m : Nat) : List Str := (((List.range m).map nmK).take 2).map (fun x => ("x" : Str) ++ x) ++ ((List.range m).map nmK).drop 2
theorem xNs_ok : ∀ m, m < 6 → (xNs m).Nodup ∧ ∀ x ∈ xNs m, Nm x := by decide +kernel
theorem xHs_ok {z : Int} {hs : List Host} (P : PHs z 3 hs) (h5 : hs.length ≤ 5) : HsOk z 3 (xHs hs) ∧ (xHs hs).length = hs.length := by
  have e : (xHs hs).map (·.nm) = xNs hs.length := by
    unfold xHs xNs
    rw [← P.nms, List.map_append, List.map_map, ← List.map_take, ← List.map_drop, List.map_map]
    rfl
  obtain ⟨nd, nm⟩ := xNs_ok hs.length (by omega)
  refine ⟨hsok_nms P.ok ?_ (by rw [e]; exact nd) (fun h hh => nm _ (e ▸ List.mem_map_of_mem (f := Host.nm) hh)), ?_⟩
  · unfold xHs
    rw [List.map_append, List.map_map]
    show (hs.take 2).map (fun h => (h.rk, h.ms)) ++ _ = _
    rw [← List.map_append, List.take_append_drop]
  · unfold xHs
    rw [List.length_append, List.length_map, List.length_take, List.length_drop]
    omega
theorem moved_ok {f g : C.Frame} {mf mg : List (Int × Str)} (s : S) (F : FrOk 12 16 f) (G : FrOk 12 16 g) (hf : Mk f.hs mf) (hg : Mk g.hs mg) (sf : sortL ((pairsOf f.hs).map markD) = mf.map markD) (sg : sortL ((pairsOf g.hs).map markD) = mg.map markD) (gz : g.z = f.z) :
    u_moved [ringD f, ringD g] s = some (.int ((bothN f g).map (gainN f g mf mg)).sum, s) := by
  have a1 := moves_ok s F G hf hg sf sg gz
  have bl := both_len F.h1 G.h1
  have sm1 : sumD [.lst (((bothN f g).map (gainN f g mf mg)).map .int)] = some (.int ((bothN f g).map (gainN f g mf mg)).sum) := by
    unfold sumD; dsimp only; rw [intsD_maps, Option.map_some]
  refine eq_of_on ?_
  unfold u_moved
  refine wp_mkD rfl ?_
  unfold ringD at *
  repeat fail
  refine .inr (.inl ⟨(bothN f g).map fun n => D.tup [.str n, .int (gainN f g mf mg n), .int (gainN g f mg mf n)], rfl, ?_⟩)
  refine wp_lcM (fun n => D.tup [.str n, .int (gainN f g mf mg n), .int (gainN g f mg mf n)]) D.int (gainN f g mf mg) (bothN f g) (fun x hx => ?_) ?_
  · repeat fail
  refine wp_sz (by rw [List.length_map, List.length_map]; omega) ?_
  repeat fail
theorem gain_self {f : C.Frame} {mf : List (Int × Str)} (F : FrOk 12 16 f) (hf : Mk f.hs mf) (n : Str) : gainN f f mf mf n = 0 := by
  have z0 := F.z0
  obtain ⟨z, hz⟩ : ∃ z : Nat, f.z = z := ⟨f.z.toNat, by omega⟩
  rw [gainN_keys F F hf hf rfl hz]
  refine sum_zero _ _ fun p hp => if_neg fun q => ?_
  have q2 := q.2
  unfold gnB at q2
  simp only [Bool.and_eq_true, decide_eq_true_eq, Bool.not_eq_true', decide_eq_false_iff_not] at q2
  exact q2.2 q2.1
theorem gain_bd {f g : C.Frame} {mf mg : List (Int × Str)} (F : FrOk 12 16 f) (G : FrOk 12 16 g) (hf : Mk f.hs mf) (hg : Mk g.hs mg) (gz : g.z = f.z) (n : Str) : gainN f g mf mg n ≤ f.z := by
  have z0 := F.z0
  obtain ⟨z, hz⟩ : ∃ z : Nat, f.z = z := ⟨f.z.toNat, by omega⟩
  rw [gainN_keys F G hf hg gz hz, hz]
  have key : ∀ k : Nat, ((List.range k).map fun p : Nat => if n ∈ bothN f g ∧ gnB (keepN f (walkN mf p)) (keepN g (walkN mg p)) n = true then (1 : Int) else 0).sum ≤ k := by
    intro k
    induction k with
    | zero => exact Int.le_refl _
    | succ k ih =>
      rw [List.range_succ, List.map_append, List.sum_append]
      simp only [List.map_cons, List.map_nil, List.sum_cons, List.sum_nil]
      split <;> omega
  exact key z
theorem moves_rp {f g : C.Frame} {mf mg : List (Int × Str)} (F : FrOk 12 16 f) (G : FrOk 12 16 g) (hf : Mk f.hs mf) (hg : Mk g.hs mg) (gz : g.z = f.z) : Rp (movesD f g mf mg) 8000 2 := by
  have bl := both_len F.h1 G.h1
  have z1 := F.z1
  unfold movesD
  refine rp_tup ((rpl_map (n := 240) (k := 1) fun x hx => ?_).le (by omega) (by omega))
  have n0 := gain_nonneg F G hf hg gz x
  have n1 := gain_bd F G hf hg gz x
  have m0 := gain_nonneg G F hg hf gz.symm x
  have m1 := gain_bd G F hg hf gz.symm x
  have xn : Nm x := by
    rcases both_mem.mp hx with q | q
    · exact nms_nm F q
    · exact nms_nm G q
  exact rp_tup ((rpl_cons (rp_nm xn) (rpl_cons (rp_int n0 (by omega)) (rpl_cons (rp_int m0 (by omega)) (rpl_nil.le (Nat.le_refl _) (by omega))))).le (by omega) (by omega))
theorem sum_bd {b : Int} {c : Str → Int} : ∀ {l : List Str}, (∀ x ∈ l, 0 ≤ c x ∧ c x ≤ b) → 0 ≤ (l.map c).sum ∧ (l.map c).sum ≤ l.length * b
  | [], _ => by simp
  | x :: l, h => by
    have ih := sum_bd (l := l) fun y hy => h y (List.mem_cons_of_mem _ hy)
    have hx := h x List.mem_cons_self
    rw [List.map_cons, List.sum_cons, List.length_cons]
    have : ((l.length + 1 : Nat) : Int) * b = l.length * b + b := by rw [Int.natCast_add, Int.add_mul]; simp
    omega
theorem right_ok {s : S} {n B : Nat} (h : KG s n B) (hB : B + 20000 < 2 ^ 40) : Dr u__law_right [.cel n] s n B 10000 fun r => r = .bl true := by
  refine Dr.of ?_
  unfold u__law_right
  refine wp_mkD rfl ?_
  repeat fail
  refine (pick_ok (ds := [.int 4, .int 30]) h (by omega) (by simp) (by simp)).on fun r s1 hr k1 l1 => ?_
  obtain ⟨m, rfl, m0, m1⟩ : ∃ m : Int, r = .int m ∧ 4 ≤ m ∧ m ≤ 30 := by
    rcases List.mem_cons.mp hr with rfl | hr
    · exact ⟨4, rfl, by omega, by omega⟩
    rcases List.mem_cons.mp hr with rfl | hr
    · exact ⟨30, rfl, by omega, by omega⟩
    · cases hr
  repeat fail
  refine (draw_ok (m := m) k1 (by omega) (by omega) (by omega)).on fun r s2 ⟨w, hr, w0, w1⟩ k2 l2 => ?_
  subst hr
  repeat fail
  refine (pring_ok (mo := 3) (z := 1 + w) k2 (by omega) (by omega) (by omega) (by omega) (by omega)).on fun r s3 ⟨f, hr, fz, F5, P⟩ k3 l3 => ?_
  subst hr
  obtain ⟨z, hz⟩ : ∃ z : Nat, f.z = z := ⟨f.z.toNat, by have := F5.z0; omega⟩
  have z30 : z ≤ 30 := by omega
  repeat fail
  refine (pring_ok (mo := 3) (z := 1 + w) k3 (by omega) (by omega) (by omega) (by omega) (by omega)).on fun r s4 ⟨g, hr, gz0, G5, P2⟩ k4 l4 => ?_
  subst hr
  have F : FrOk 12 16 f := F5.mono (by omega) (by omega)
  obtain ⟨mf, hf, sf⟩ := mk_of F.hs.apart
  have e1 := fun s' => pmade_ok s' F
  repeat fail
  refine (draw_ok (m := 3) k4 (by omega) (by omega) (by omega)).on fun r s5 ⟨v, hr, v0, v1⟩ k5 l5 => ?_
  subst hr
  have cc := ks_noC k5.all
  have h5 := F5.h1
  have lt2 : (f.hs.take 2).length ≤ 2 := by rw [List.length_take]; omega
  have f6 : idxD f.D (.int 6) = some (.tup (f.hs.map Host.D)) := rfl
  have b1 : slD (.tup (f.hs.map Host.D)) (some 2) none = some (.tup ((f.hs.drop 2).map Host.D)) := congrArg (fun l => some (D.tup l)) (by rw [show (2 : Int) = ((2 : Nat) : Int) from rfl, cutL_drop, List.map_drop])
  have b2 : slD (.tup (f.hs.map Host.D)) none (some 2) = some (.tup ((f.hs.take 2).map Host.D)) := congrArg (fun l => some (D.tup l)) (by rw [show (2 : Int) = ((2 : Nat) : Int) from rfl, cutL_take, List.map_take])
  have q6 := cut6F f
  have q7 := add6F f (xHs f.hs)
  have q8 : addD (.tup ((f.hs.take 2).map fun h => (xH h).D)) (.tup ((f.hs.drop 2).map Host.D)) = some (.tup ((xHs f.hs).map Host.D)) := by
    have e : (xHs f.hs).map Host.D = ((f.hs.take 2).map fun h => (xH h).D) ++ (f.hs.drop 2).map Host.D := by unfold xHs; rw [List.map_append, List.map_map]; rfl
    rw [e]
    exact eq_of_on1 (wp_catT (by rw [List.length_map, List.length_map, List.length_drop]; omega) rfl)
  repeat fail
  refine br (fun hv => ?_) (fun hv => ?_)
  · repeat fail
    refine wp_lcM Host.D (fun h => (xH h).D) id (f.hs.take 2) (fun h hh => ?_) ?_
    · have ax : addD (.str "x") (.str h.nm) = some (.str (("x" : Str) ++ h.nm)) := eq_of_on1 (wp_addS (by have := (nm_len (F.hs.nm h (List.mem_of_mem_take hh)).1).2; have : ("x" : Str).length = 1 := rfl; omega) rfl)
      unfold Host.D xH
      repeat fail
    rw [List.map_id]
    refine wp_sz (by rw [List.length_map]; omega) ?_
    repeat fail
    obtain ⟨GH, gl⟩ := xHs_ok P h5
    have G3 : FrOk 5 3 (f.wh (xHs f.hs)) := ⟨F5.z0, F5.z1, F5.w0, F5.w1, F5.a0, F5.a1, F5.b0, F5.b1, F5.x, F5.y, by rw [← fz] at GH; exact GH, by show 1 ≤ (xHs f.hs).length; rw [gl]; exact F5.h0, by show (xHs f.hs).length ≤ 5; rw [gl]; exact h5⟩
    have gz : (f.wh (xHs f.hs)).z = f.z := rfl
    have G : FrOk 12 16 (f.wh (xHs f.hs)) := G3.mono (by omega) (by omega)
    obtain ⟨mg, hg, sg⟩ := mk_of G.hs.apart
    have d1 := due_ok s5 cc F G hf hg gz hz
    have e2 := pmade_ok s5 G
    have e1 := e1 s5
    have a1 := moves_ok s5 F G hf hg sf sg gz
    have a2 := moves_ok s5 G F hg hf sg sf gz.symm
    have a3 := moves_ok s5 F F hf hf sf sf rfl
    have a4 := moved_ok s5 F G hf hg sf sg gz
    have a5 := moved_ok s5 F F hf hf sf sf rfl
    have bl := both_len F.h1 G.h1
    have bl2 := both_len F.h1 F.h1
    have sm1 : sumD [.lst (((bothN f (f.wh (xHs f.hs))).map (gainN f (f.wh (xHs f.hs)) mf mg)).map .int)] = some (.int ((bothN f (f.wh (xHs f.hs))).map (gainN f (f.wh (xHs f.hs)) mf mg)).sum) := by
      unfold sumD; dsimp only; rw [intsD_maps, Option.map_some]
    have rp := moves_rp F G hf hg gz
    have rp2 := moves_rp G F hg hf gz.symm
    obtain ⟨x1, r1⟩ := repr_ok (d := .lst [movesD f (f.wh (xHs f.hs)) mf mg, movesD f (f.wh (xHs f.hs)) mf mg]) (n := 16100) (k := 3) (rp_lst ((rpl_cons rp (rpl_cons rp (rpl_nil.le (Nat.le_refl _) (by omega)))).le (by omega) (by omega))) (by omega) (by omega)
    obtain ⟨x3, r3⟩ := repr_ok rp2 (by omega) (by omega)
    have sb := sum_bd (b := 30) (c := gainN f (f.wh (xHs f.hs)) mf mg) (l := bothN f (f.wh (xHs f.hs))) fun x _ => ⟨gain_nonneg F G hf hg gz x, by have := gain_bd F G hf hg gz x; omega⟩
    generalize hS : ((bothN f (f.wh (xHs f.hs))).map (gainN f (f.wh (xHs f.hs)) mf mg)).sum = S1 at *
    have sb2 : S1 ≤ 1000 := by have : ((bothN f (f.wh (xHs f.hs))).length : Int) * 30 ≤ 24 * 30 := Int.mul_le_mul_of_nonneg_right (by omega) (by omega); omega
    obtain ⟨x2, r2⟩ := repr_ok (d := .lst [.int S1, .int S1]) (n := 300) (k := 1) (rp_lst ((rpl_cons (rp_int sb.1 (by omega)) (rpl_cons (rp_int sb.1 (by omega)) (rpl_nil.le (Nat.le_refl _) (by omega)))).le (by omega) (by omega))) (by omega) (by omega)
    have s0 : ((bothN f f).map (gainN f f mf mf)).sum = 0 := by
      have : ∀ l : List Str, (l.map (gainN f f mf mf)).sum = 0 := fun l => by
        induction l with
        | nil => rfl
        | cons x l ih => rw [List.map_cons, List.sum_cons, ih, gain_self F hf]; rfl
      exact this _
    rw [s0] at a5
    have sw : movesD (f.wh (xHs f.hs)) f mg mf = .tup ((bothN f (f.wh (xHs f.hs))).map fun n => D.tup [.str n, .int (gainN (f.wh (xHs f.hs)) f mg mf n), .int (gainN f (f.wh (xHs f.hs)) mf mg n)]) := by unfold movesD; rw [both_swap (f.wh (xHs f.hs)) f]
    have se : movesD f f mf mf = .tup ((bothN f f).map fun n => D.tup [.str n, .int 0, .int 0]) := by
      unfold movesD
      congr 1
      exact List.map_congr_left fun n _ => by rw [gain_self F hf]
    rw [sw] at a2 r3
    rw [se] at a3
    have bne : bothN f f ≠ [] := fun q => by
      obtain ⟨h, hh⟩ := List.exists_mem_of_length_pos (l := f.hs) (by have := F.h0; omega)
      have : h.nm ∈ bothN f f := both_mem.mpr (.inl (List.mem_map_of_mem (f := Host.nm) hh))
      rw [q] at this
      cases this
    have sp := sosA_pairs bne (by omega)
    have eq0 : eqD (.lst [.tup [.int 0, .int 0]]) (.lst [.tup [.int 0, .int 0]]) = some (.bl true) := rfl
    have r1 := r1 s5
    have r2 := r2 s5
    have r3 := r3 s5
    unfold ringD at *
    repeat fail
    refine .inr (.inl ⟨(bothN f (f.wh (xHs f.hs))).map fun n => D.tup [.str n, .int (gainN f (f.wh (xHs f.hs)) mf mg n), .int (gainN (f.wh (xHs f.hs)) f mg mf n)], rfl, ?_⟩)
    refine wp_lcM (fun n => D.tup [.str n, .int (gainN f (f.wh (xHs f.hs)) mf mg n), .int (gainN (f.wh (xHs f.hs)) f mg mf n)]) D.int (gainN f (f.wh (xHs f.hs)) mf mg) (bothN f (f.wh (xHs f.hs))) (fun x hx => ?_) ?_
    · repeat fail
    refine wp_sz (by rw [List.length_map, List.length_map]; omega) ?_
    repeat fail
    refine .inr (.inl ⟨(bothN f (f.wh (xHs f.hs))).map fun n => D.tup [.str n, .int (gainN f (f.wh (xHs f.hs)) mf mg n), .int (gainN (f.wh (xHs f.hs)) f mg mf n)], rfl, ?_⟩)
    refine wp_lcM (fun n => D.tup [.str n, .int (gainN f (f.wh (xHs f.hs)) mf mg n), .int (gainN (f.wh (xHs f.hs)) f mg mf n)]) (fun n => D.tup [.str n, .int (gainN (f.wh (xHs f.hs)) f mg mf n), .int (gainN f (f.wh (xHs f.hs)) mf mg n)]) id (bothN f (f.wh (xHs f.hs))) (fun x hx => ?_) ?_
    · repeat fail
    rw [List.map_id]
    refine wp_sz (by rw [List.length_map]; omega) ?_
    repeat fail
    refine wp_sosA ?_
    repeat fail
    refine wp_lcM (fun n => D.tup [.str n, .int 0, .int 0]) (fun _ => D.tup [.int 0, .int 0]) id (bothN f f) (fun x hx => ?_) ?_
    · have c1 : slD (.tup [.str x, .int 0, .int 0]) (some 1) none = some (.tup [.int 0, .int 0]) := rfl
      repeat fail
    rw [List.map_id]
    refine wp_sz (by rw [List.length_map]; omega) ?_
    repeat fail
    exact ⟨k5.le (by omega), by omega, rfl⟩
  · repeat fail
    have gz : g.z = f.z := by rw [gz0, fz]
    have G : FrOk 12 16 g := G5.mono (by omega) (by omega)
    obtain ⟨mg, hg, sg⟩ := mk_of G.hs.apart
    have d1 := due_ok s5 cc F G hf hg gz hz
    have e2 := pmade_ok s5 G
    have e1 := e1 s5
    have a1 := moves_ok s5 F G hf hg sf sg gz
    have a2 := moves_ok s5 G F hg hf sg sf gz.symm
    have a3 := moves_ok s5 F F hf hf sf sf rfl
    have a4 := moved_ok s5 F G hf hg sf sg gz
    have a5 := moved_ok s5 F F hf hf sf sf rfl
    have bl := both_len F.h1 G.h1
    have bl2 := both_len F.h1 F.h1
    have sm1 : sumD [.lst (((bothN f g).map (gainN f g mf mg)).map .int)] = some (.int ((bothN f g).map (gainN f g mf mg)).sum) := by
      unfold sumD; dsimp only; rw [intsD_maps, Option.map_some]
    have rp := moves_rp F G hf hg gz
    have rp2 := moves_rp G F hg hf gz.symm
    obtain ⟨x1, r1⟩ := repr_ok (d := .lst [movesD f g mf mg, movesD f g mf mg]) (n := 16100) (k := 3) (rp_lst ((rpl_cons rp (rpl_cons rp (rpl_nil.le (Nat.le_refl _) (by omega)))).le (by omega) (by omega))) (by omega) (by omega)
    obtain ⟨x3, r3⟩ := repr_ok rp2 (by omega) (by omega)
    have sb := sum_bd (b := 30) (c := gainN f g mf mg) (l := bothN f g) fun x _ => ⟨gain_nonneg F G hf hg gz x, by have := gain_bd F G hf hg gz x; omega⟩
    generalize hS : ((bothN f g).map (gainN f g mf mg)).sum = S1 at *
    have sb2 : S1 ≤ 1000 := by have : ((bothN f g).length : Int) * 30 ≤ 24 * 30 := Int.mul_le_mul_of_nonneg_right (by omega) (by omega); omega
    obtain ⟨x2, r2⟩ := repr_ok (d := .lst [.int S1, .int S1]) (n := 300) (k := 1) (rp_lst ((rpl_cons (rp_int sb.1 (by omega)) (rpl_cons (rp_int sb.1 (by omega)) (rpl_nil.le (Nat.le_refl _) (by omega)))).le (by omega) (by omega))) (by omega) (by omega)
    have s0 : ((bothN f f).map (gainN f f mf mf)).sum = 0 := by
      have : ∀ l : List Str, (l.map (gainN f f mf mf)).sum = 0 := fun l => by
        induction l with
        | nil => rfl
        | cons x l ih => rw [List.map_cons, List.sum_cons, ih, gain_self F hf]; rfl
      exact this _
    rw [s0] at a5
    have sw : movesD g f mg mf = .tup ((bothN f g).map fun n => D.tup [.str n, .int (gainN g f mg mf n), .int (gainN f g mf mg n)]) := by unfold movesD; rw [both_swap g f]
    have se : movesD f f mf mf = .tup ((bothN f f).map fun n => D.tup [.str n, .int 0, .int 0]) := by
      unfold movesD
      congr 1
      exact List.map_congr_left fun n _ => by rw [gain_self F hf]
    rw [sw] at a2 r3
    rw [se] at a3
    have bne : bothN f f ≠ [] := fun q => by
      obtain ⟨h, hh⟩ := List.exists_mem_of_length_pos (l := f.hs) (by have := F.h0; omega)
      have : h.nm ∈ bothN f f := both_mem.mpr (.inl (List.mem_map_of_mem (f := Host.nm) hh))
      rw [q] at this
      cases this
    have sp := sosA_pairs bne (by omega)
    have eq0 : eqD (.lst [.tup [.int 0, .int 0]]) (.lst [.tup [.int 0, .int 0]]) = some (.bl true) := rfl
    have r1 := r1 s5
    have r2 := r2 s5
    have r3 := r3 s5
    unfold ringD at *
    repeat fail
    refine .inr (.inl ⟨(bothN f g).map fun n => D.tup [.str n, .int (gainN f g mf mg n), .int (gainN g f mg mf n)], rfl, ?_⟩)
    refine wp_lcM (fun n => D.tup [.str n, .int (gainN f g mf mg n), .int (gainN g f mg mf n)]) D.int (gainN f g mf mg) (bothN f g) (fun x hx => ?_) ?_
    · repeat fail
    refine wp_sz (by rw [List.length_map, List.length_map]; omega) ?_
    repeat fail
    refine .inr (.inl ⟨(bothN f g).map fun n => D.tup [.str n, .int (gainN f g mf mg n), .int (gainN g f mg mf n)], rfl, ?_⟩)
    refine wp_lcM (fun n => D.tup [.str n, .int (gainN f g mf mg n), .int (gainN g f mg mf n)]) (fun n => D.tup [.str n, .int (gainN g f mg mf n), .int (gainN f g mf mg n)]) id (bothN f g) (fun x hx => ?_) ?_
    · repeat fail
    rw [List.map_id]
    refine wp_sz (by rw [List.length_map]; omega) ?_
    repeat fail
    refine wp_sosA ?_
    repeat fail
    refine wp_lcM (fun n => D.tup [.str n, .int 0, .int 0]) (fun _ => D.tup [.int 0, .int 0]) id (bothN f f) (fun x hx => ?_) ?_
    · have c1 : slD (.tup [.str x, .int 0, .int 0]) (some 1) none = some (.tup [.int 0, .int 0]) := rfl
      repeat fail
    rw [List.map_id]
    refine wp_sz (by rw [List.length_map]; omega) ?_
    repeat fail
    exact ⟨k5.le (by omega), by omega, rfl⟩
theorem plain (ns : List Int) (hl : ns.length ≤ 63) (hb : ∀ z ∈ ns, Builtin.Int.intBits z ≤ 1048576) : ∃ s', u_law [.lst (ns.map .int)] [] = some (.bl true, s') :=
  plainP (c := 4) (ur := u__law_right) (k := 10000) (by omega) (by omega) (fun s n h => right_ok h (by omega)) ns hb
end K25
end Z

set_option Elab.async false
set_option linter.all false
set_option maxRecDepth 100000
set_option maxHeartbeats 4000000
namespace Z
namespace K25
open PySem PySem.Spec PyProof.Rows L2
open C
def N__law_draw : List PySem.Str := ["_law_purse_here", "_law_size", "_law_seed", "_law_by", "_law_digit"]
def ps__law_draw : List PySem.Str := ["_law_purse_here", "_law_size"]
theorem sc__law_draw : FnScope N__law_draw ps__law_draw (defScope st__law_draw) := ⟨rfl, rfl, rfl, by decide +kernel, rfl, by decide +kernel, by decide +kernel⟩
def N__law_pick : List PySem.Str := ["_law_purse_here", "_law_menu"]
def ps__law_pick : List PySem.Str := ["_law_purse_here", "_law_menu"]
theorem sc__law_pick : FnScope N__law_pick ps__law_pick (defScope st__law_pick) := ⟨rfl, rfl, rfl, by decide +kernel, rfl, by decide +kernel, by decide +kernel⟩
def N__law_marks : List PySem.Str := ["_law_purse_here", "_law_points_here", "_law_taken", "_law_many", "_law_found", "_law_k", "_law_mark", "_law_spare", "_law_each"]
def ps__law_marks : List PySem.Str := ["_law_purse_here", "_law_points_here", "_law_taken", "_law_many"]
theorem sc__law_marks : FnScope N__law_marks ps__law_marks (defScope st__law_marks) := ⟨rfl, rfl, rfl, by decide +kernel, rfl, by decide +kernel, by decide +kernel⟩
def N__law_ring : List PySem.Str := ["_law_purse_here", "_law_points_here", "_law_most", "_law_many", "_law_taken", "_law_hosts_here", "_law_k", "_law_marks_here", "_law_numbers_here", "_law_words"]
def ps__law_ring : List PySem.Str := ["_law_purse_here", "_law_points_here", "_law_most"]
theorem sc__law_ring : FnScope N__law_ring ps__law_ring (defScope st__law_ring) := ⟨rfl, rfl, rfl, by decide +kernel, rfl, by decide +kernel, by decide +kernel⟩
def N__law_walk : List PySem.Str := ["_law_ring_here", "_law_at", "_law_met", "_law_host", "_law_rack", "_law_marks_here", "_law_mark", "_law_far"]
def ps__law_walk : List PySem.Str := ["_law_ring_here", "_law_at"]
theorem sc__law_walk : FnScope N__law_walk ps__law_walk (defScope st__law_walk) := ⟨rfl, rfl, rfl, by decide +kernel, rfl, by decide +kernel, by decide +kernel⟩
def N__law_keepers : List PySem.Str := ["_law_ring_here", "_law_at", "_law_line", "_law_many", "_law_racks_here", "_law_seen", "_law_first", "_law_host", "_law_others"]
def ps__law_keepers : List PySem.Str := ["_law_ring_here", "_law_at"]
theorem sc__law_keepers : FnScope N__law_keepers ps__law_keepers (defScope st__law_keepers) := ⟨rfl, rfl, rfl, by decide +kernel, rfl, by decide +kernel, by decide +kernel⟩
def N__law_due : List PySem.Str := ["_law_one_here", "_law_two_here", "_law_names_here", "_law_host", "_law_gains", "_law_losses", "_law_at", "_law_old", "_law_new"]
def ps__law_due : List PySem.Str := ["_law_one_here", "_law_two_here"]
theorem sc__law_due : FnScope N__law_due ps__law_due (defScope st__law_due) := ⟨rfl, rfl, rfl, by decide +kernel, rfl, by decide +kernel, by decide +kernel⟩
def N_is_integer : List PySem.Str := ["value", "least", "greatest"]
def ps_is_integer : List PySem.Str := ["value", "least", "greatest"]
theorem sc_is_integer : FnScope N_is_integer ps_is_integer (defScope st_is_integer) := ⟨rfl, rfl, rfl, by decide +kernel, rfl, by decide +kernel, by decide +kernel⟩
def N_check_number : List PySem.Str := ["value", "greatest"]
def ps_check_number : List PySem.Str := ["value", "greatest"]
theorem sc_check_number : FnScope N_check_number ps_check_number (defScope st_check_number) := ⟨rfl, rfl, rfl, by decide +kernel, rfl, by decide +kernel, by decide +kernel⟩
def N_is_name : List PySem.Str := ["value", "sign"]
def ps_is_name : List PySem.Str := ["value"]
theorem sc_is_name : FnScope N_is_name ps_is_name (defScope st_is_name) := ⟨rfl, rfl, rfl, by decide +kernel, rfl, by decide +kernel, by decide +kernel⟩
def N_are_points : List PySem.Str := ["value", "points", "most", "point", "one", "other"]
def ps_are_points : List PySem.Str := ["value", "points", "most"]
theorem sc_are_points : FnScope N_are_points ps_are_points (defScope st_are_points) := ⟨rfl, rfl, rfl, by decide +kernel, rfl, by decide +kernel, by decide +kernel⟩
def N_is_host : List PySem.Str := ["value", "points", "ahead", "name", "rack", "marks", "host", "taken", "mark"]
def ps_is_host : List PySem.Str := ["value", "points", "ahead"]
theorem sc_is_host : FnScope N_is_host ps_is_host (defScope st_is_host) := ⟨rfl, rfl, rfl, by decide +kernel, rfl, by decide +kernel, by decide +kernel⟩
def N_check_hosts : List PySem.Str := ["value", "points", "index", "host"]
def ps_check_hosts : List PySem.Str := ["value", "points"]
theorem sc_check_hosts : FnScope N_check_hosts ps_check_hosts (defScope st_check_hosts) := ⟨rfl, rfl, rfl, by decide +kernel, rfl, by decide +kernel, by decide +kernel⟩
def N_Ring___init__ : List PySem.Str := ["self", "points", "factor", "spread", "write", "read", "pending", "hosts", "name", "rack", "marks", "mark"]
def ps_Ring___init__ : List PySem.Str := ["self", "points", "factor", "spread", "write", "read", "pending", "hosts"]
theorem sc_Ring___init__ : FnScope N_Ring___init__ ps_Ring___init__ (defScope st_Ring___init__) := ⟨rfl, rfl, rfl, by decide +kernel, rfl, by decide +kernel, by decide +kernel⟩
def N_P_law_made : List PySem.Str := ["_law_ring_here", "_law_p", "_law_f", "_law_s", "_law_w", "_law_r", "_law_more", "_law_hosts_here"]
def ps_P_law_made : List PySem.Str := ["_law_ring_here"]
theorem sc_P_law_made : FnScope N_P_law_made ps_P_law_made (defScope st_P_law_made) := ⟨rfl, rfl, rfl, by decide +kernel, rfl, by decide +kernel, by decide +kernel⟩
def N_check_ring : List PySem.Str := ["value"]
def ps_check_ring : List PySem.Str := ["value"]
theorem sc_check_ring : FnScope N_check_ring ps_check_ring (defScope st_check_ring) := ⟨rfl, rfl, rfl, by decide +kernel, rfl, by decide +kernel, by decide +kernel⟩
def N_Ring_points : List PySem.Str := ["self"]
def ps_Ring_points : List PySem.Str := ["self"]
theorem sc_Ring_points : FnScope N_Ring_points ps_Ring_points (defScope st_Ring_points) := ⟨rfl, rfl, rfl, by decide +kernel, rfl, by decide +kernel, by decide +kernel⟩
def N_check_both : List PySem.Str := ["one", "other"]
def ps_check_both : List PySem.Str := ["one", "other"]
theorem sc_check_both : FnScope N_check_both ps_check_both (defScope st_check_both) := ⟨rfl, rfl, rfl, by decide +kernel, rfl, by decide +kernel, by decide +kernel⟩
def N_Cell___init__ : List PySem.Str := ["self", "first", "many", "last"]
def ps_Cell___init__ : List PySem.Str := ["self", "first", "many", "last"]
theorem sc_Cell___init__ : FnScope N_Cell___init__ ps_Cell___init__ (defScope st_Cell___init__) := ⟨rfl, rfl, rfl, by decide +kernel, rfl, by decide +kernel, by decide +kernel⟩
def N_cut : List PySem.Str := ["points", "marks", "found", "index", "mark", "ahead"]
def ps_cut : List PySem.Str := ["points", "marks"]
theorem sc_cut : FnScope N_cut ps_cut (defScope st_cut) := ⟨rfl, rfl, rfl, by decide +kernel, rfl, by decide +kernel, by decide +kernel⟩
def N_marks_of : List PySem.Str := ["rings", "ring", "mark", "name"]
def ps_marks_of : List PySem.Str := ["rings"]
theorem sc_marks_of : FnScope N_marks_of ps_marks_of (defScope st_marks_of) := ⟨rfl, rfl, rfl, by decide +kernel, rfl, by decide +kernel, by decide +kernel⟩
def N_Ring_spread : List PySem.Str := ["self"]
def ps_Ring_spread : List PySem.Str := ["self"]
theorem sc_Ring_spread : FnScope N_Ring_spread ps_Ring_spread (defScope st_Ring_spread) := ⟨rfl, rfl, rfl, by decide +kernel, rfl, by decide +kernel, by decide +kernel⟩
def N_Ring_factor : List PySem.Str := ["self"]
def ps_Ring_factor : List PySem.Str := ["self"]
theorem sc_Ring_factor : FnScope N_Ring_factor ps_Ring_factor (defScope st_Ring_factor) := ⟨rfl, rfl, rfl, by decide +kernel, rfl, by decide +kernel, by decide +kernel⟩
def N_chosen : List PySem.Str := ["ring", "walk", "first", "name", "taken", "others"]
def ps_chosen : List PySem.Str := ["ring", "walk"]
theorem sc_chosen : FnScope N_chosen ps_chosen (defScope st_chosen) := ⟨rfl, rfl, rfl, by decide +kernel, rfl, by decide +kernel, by decide +kernel⟩
def N_walk_of : List PySem.Str := ["ring", "point", "ahead", "mark", "name", "behind"]
def ps_walk_of : List PySem.Str := ["ring", "point"]
theorem sc_walk_of : FnScope N_walk_of ps_walk_of (defScope st_walk_of) := ⟨rfl, rfl, rfl, by decide +kernel, rfl, by decide +kernel, by decide +kernel⟩
def N_keepers_of : List PySem.Str := ["ring", "point"]
def ps_keepers_of : List PySem.Str := ["ring", "point"]
theorem sc_keepers_of : FnScope N_keepers_of ps_keepers_of (defScope st_keepers_of) := ⟨rfl, rfl, rfl, by decide +kernel, rfl, by decide +kernel, by decide +kernel⟩
def N_common_of : List PySem.Str := ["one", "other", "found", "cell"]
def ps_common_of : List PySem.Str := ["one", "other"]
theorem sc_common_of : FnScope N_common_of ps_common_of (defScope st_common_of) := ⟨rfl, rfl, rfl, by decide +kernel, rfl, by decide +kernel, by decide +kernel⟩
def N_moves : List PySem.Str := ["one", "other", "names", "gained", "lost", "name", "first", "many", "old", "new"]
def ps_moves : List PySem.Str := ["one", "other"]
theorem sc_moves : FnScope N_moves ps_moves (defScope st_moves) := ⟨rfl, rfl, rfl, by decide +kernel, rfl, by decide +kernel, by decide +kernel⟩
def N_moved : List PySem.Str := ["one", "other", "name", "gained", "lost"]
def ps_moved : List PySem.Str := ["one", "other"]
theorem sc_moved : FnScope N_moved ps_moved (defScope st_moved) := ⟨rfl, rfl, rfl, by decide +kernel, rfl, by decide +kernel, by decide +kernel⟩
def N__law_right : List PySem.Str := ["_law_purse_here", "_law_points_here", "_law_one_here", "_law_two_here", "_law_fresh", "_law_host", "_law_due_here", "_law_first", "_law_second", "_law_total", "_law_gained", "_law_gone", "_law_each"]
def ps__law_right : List PySem.Str := ["_law_purse_here"]
theorem sc__law_right : FnScope N__law_right ps__law_right (defScope st__law_right) := ⟨rfl, rfl, rfl, by decide +kernel, rfl, by decide +kernel, by decide +kernel⟩
def N__law_purse : List PySem.Str := ["_law_script", "_law_k", "_law_cell", "_law_digits", "_law_seed"]
def ps__law_purse : List PySem.Str := ["_law_script", "_law_k"]
theorem sc__law_purse : FnScope N__law_purse ps__law_purse (defScope st__law_purse) := ⟨rfl, rfl, rfl, by decide +kernel, rfl, by decide +kernel, by decide +kernel⟩
def N_law : List PySem.Str := ["_law_script", "_law_k"]
def ps_law : List PySem.Str := ["_law_script"]
theorem sc_law : FnScope N_law ps_law (defScope st_law) := ⟨rfl, rfl, rfl, by decide +kernel, rfl, by decide +kernel, by decide +kernel⟩
abbrev TxZ (K : PySem.W.Frag) (mg : PySem.Str → Option Value) : Prop := TxOf exL fnL K mg
section
variable {P : Program} {w : World} {K : PySem.W.Frag} {mg : PySem.Str → Option Value} {base : Heap}
theorem ok__law_draw (T : TxZ K mg) : DfZ P w K mg base 1 d__law_draw ps__law_draw (spM K u__law_draw) := dfz_M (T.fun_ 0) sc__law_draw rfl rfl (by decide) (fun fd F => F.bindsN fun _ _ _ _ _ _ us hl => match us, hl with | [_, _], _ => rfl) fun cdv A outer s H E hr =>
  (s_cons (p_par2 2 3 sc__law_draw.nd (x_val (d_idxCel (p_var 0) d_int) (x_val (d_add (d_mod (d_callT (CallR.or call_int1 call_int_str) int_okC bt_int rfl (T.free 4) (a_cons (d_idxCel (p_var 0) d_int) a_nil)) d_int) d_int) x_nil))) (s_cons (s_asg (d_add (d_idxCel (p_var 0) d_int) d_int) (g_cel (p_var 0) d_int)) (s_cons (s_asg (d_mod (d_callT (CallR.or call_int1 call_int_str) int_okC bt_int rfl (T.free 4) (a_cons (d_add (d_add (d_mul (p_var 2) (p_var 3)) (d_mul d_int (d_idxCel (p_var 0) d_int))) d_int) a_nil)) d_int) (g_cel (p_var 0) d_int)) (s_cons (s_if (t_gt (d_idxCel (p_var 0) d_int) d_int) (s_cons (s_asg (d_callB call_divmod divmod_ok bt_divmod rfl (T.free 5) (a_cons (d_idxCel (p_var 0) d_int) (a_cons (p_var 1) a_nil))) (g_seq (n := 2) rfl (gs_cons (g_cel (p_var 0) d_int) (gs_cons (p_nm 4 sc__law_draw.nd) gs_nil)) (gsLen1 (gsLen1 gsLen0)))) (s_one (s_ret (p_var 4)))) s_nil) (s_one (s_ret (d_mod (d_callT (CallR.or call_int1 call_int_str) int_okC bt_int rfl (T.free 4) (a_cons (d_fdiv (d_idxCel (p_var 0) d_int) d_int) a_nil)) (p_var 1))))))))
theorem ok__law_pick (T : TxZ K mg) : DfZ P w K mg base 2 d__law_pick ps__law_pick (spM K u__law_pick) := dfz_M (T.fun_ 1) sc__law_pick rfl rfl (by decide) (fun fd F => F.bindsN fun _ _ _ _ _ _ us hl => match us, hl with | [_, _], _ => rfl) fun cdv A outer s H E hr =>
  (s_one (s_ret (d_idx (p_var 1) (d_call (ok__law_draw T) hr (by decide) rfl (T.glo 6) (a_cons (p_var 0) (a_cons (d_callB call_len len_ok bt_len rfl (T.free 0) (a_cons (p_var 1) a_nil)) a_nil))))))
theorem ok__law_marks (T : TxZ K mg) : DfZ P w K mg base 2 d__law_marks ps__law_marks (spM K u__law_marks) := dfz_M (T.fun_ 2) sc__law_marks rfl rfl (by decide) (fun fd F => F.bindsN fun _ _ _ _ _ _ us hl => match us, hl with | [_, _, _, _], _ => rfl) fun cdv A outer s H E hr =>
  (s_cons (p_own 4 sc__law_marks.nd (f_lst a_nil)) (s_cons (s_for (passes_of rfl) rfl (i_rng1 rfl (T.free 3) (a_cons (p_var 3) a_nil)) (p_nm 5 sc__law_marks.nd) (s_cons (p_set 6 sc__law_marks.nd (d_call (ok__law_draw T) hr (by decide) rfl (T.glo 6) (a_cons (p_var 0) (a_cons (p_var 1) a_nil)))) (s_one (s_if (t_bor 4 (t_notInA (hu_of hr) (p_var 6) (d_addA (p_var 2) (p_var 4)))) (s_one (p_app 4 (p_var 6))) s_nil)))) (s_cons (s_ownLc (own := [("_law_each", 8)]) (i := 7) rfl rfl sc__law_marks.nd rfl rfl rfl (i_rng1 rfl (T.free 3) (a_cons (d_add (d_callB call_len len_ok bt_len rfl (T.free 0) (a_cons (p_var 2) a_nil)) d_int) a_nil)) (blkOk_by rfl) (ct_nm (by decide)) (fun _ _ _ _ _ => (p_cnm 8 sc__law_marks.nd)) (fun _ _ _ _ _ => (pts_t (t_notInA (hu_of hr) (p_var 8) (p_var 2)))) (fun _ _ _ _ _ => (p_var 8))) (s_one (s_frz1 (i := 7) (s_frz1 (i := 4) (s_ret (d_callT call_tuple_of tuple_ok bt_tuple rfl (T.free 9) (a_cons (d_frz (f_bltF cr_sortZ bt_sorted rfl (T.free 8) (a_cons (d_if (t_ne (hu_of hr) (p_var 4) (d_frz (f_lst a_nil))) (p_var 4) (d_frz (f_sl (p_var 7) o_none (o_some d_int)))) a_nil))) a_nil)))))))))
theorem ok__law_ring (T : TxZ K mg) : DfZ P w K mg base 3 d__law_ring ps__law_ring (spM K u__law_ring) := dfz_M (T.fun_ 3) sc__law_ring rfl rfl (by decide) (fun fd F => F.bindsN fun _ _ _ _ _ _ us hl => match us, hl with | [_, _, _], _ => rfl) fun cdv A outer s H E hr =>
  (s_cons (s_parN rfl sc__law_ring.nd (nm_cons 3 (nm_cons 4 (nm_cons 5 nm_nil))) (x_val (d_add d_int (d_call (ok__law_draw T) hr (by decide) rfl (T.glo 6) (a_cons (p_var 0) (a_cons d_int a_nil)))) (x_val (d_frz (f_lst a_nil)) (x_own (f_lst a_nil) x_nil))) (by decide)) (s_cons (s_for (passes_of rfl) rfl (i_rng1 rfl (T.free 3) (a_cons (d_callB (call_min2 rfl) min2_ok bt_min rfl (T.free 1) (a_cons (p_var 3) (a_cons (p_var 1) a_nil))) a_nil)) (p_nm 6 sc__law_ring.nd) (s_cons (p_set 7 sc__law_ring.nd (d_call (ok__law_marks T) hr (by decide) rfl (T.glo 10) (a_cons (p_var 0) (a_cons (p_var 1) (a_cons (p_var 4) (a_cons (d_add d_int (d_call (ok__law_draw T) hr (by decide) rfl (T.glo 6) (a_cons (p_var 0) (a_cons (p_var 2) a_nil)))) a_nil)))))) (s_cons (p_set 4 sc__law_ring.nd (d_addA (p_var 4) (d_frz (f_callT call_list_of list_ok bt_list rfl (T.free 11) (a_cons (p_var 7) a_nil))))) (s_cons (p_app 5 (d_tup (a_cons (d_idx d_str (p_var 6)) (a_cons (d_call (ok__law_pick T) hr (by decide) rfl (T.glo 7) (a_cons (p_var 0) (a_cons (d_frz (f_lst (a_cons d_str (a_cons d_str (a_cons d_str (a_cons d_str a_nil)))))) a_nil))) (a_cons (p_var 7) a_nil))))) (s_one (s_if (t_ge (d_callB call_len len_ok bt_len rfl (T.free 0) (a_cons (p_var 4) a_nil)) (p_var 1)) (s_one s_brk) s_nil)))))) (s_cons (p_set 3 sc__law_ring.nd (d_add d_int (d_call (ok__law_draw T) hr (by decide) rfl (T.glo 6) (a_cons (p_var 0) (a_cons d_int a_nil))))) (s_cons (s_ownLc (own := [("_law_k", 6)]) (i := 8) rfl rfl sc__law_ring.nd rfl rfl rfl (i_rng1 rfl (T.free 3) (a_cons d_int a_nil)) (blkOk_by rfl) (ct_nm (by decide)) (fun _ _ _ _ _ => (p_cnm 6 sc__law_ring.nd)) (fun _ _ _ _ _ => pts_yes) (fun _ _ _ _ _ => (d_add d_int (d_call (ok__law_draw T) hr (by decide) rfl (T.glo 6) (a_cons (p_var 0) (a_cons (p_var 3) a_nil)))))) (s_cons (p_set 9 sc__law_ring.nd (d_frz (f_lst (a_cons (d_call (ok__law_pick T) hr (by decide) rfl (T.glo 7) (a_cons (p_var 0) (a_cons (d_frz (f_lst (a_cons d_str (a_cons d_str a_nil)))) a_nil))) (a_cons (d_call (ok__law_pick T) hr (by decide) rfl (T.glo 7) (a_cons (p_var 0) (a_cons (d_frz (f_lst (a_cons d_str (a_cons d_str a_nil)))) a_nil))) a_nil))))) (s_one (s_frz1 (i := 8) (s_frz1 (i := 5) (s_ret (d_frz (f_lst (a_cons (p_var 1) (a_cons (p_var 3) (a_cons (d_idx (p_var 9) d_int) (a_cons (d_idx (p_var 8) d_int) (a_cons (d_idx (p_var 8) d_int) (a_cons (d_idx (p_var 9) d_int) (a_cons (d_callT call_tuple_of tuple_ok bt_tuple rfl (T.free 9) (a_cons (p_var 5) a_nil)) a_nil))))))))))))))))))
theorem ok__law_walk (T : TxZ K mg) : DfZ P w K mg base 1 d__law_walk ps__law_walk (spM K u__law_walk) := dfz_M (T.fun_ 4) sc__law_walk rfl rfl (by decide) (fun fd F => F.bindsN fun _ _ _ _ _ _ us hl => match us, hl with | [_, _], _ => rfl) fun cdv A outer s H E hr =>
  (s_cons (p_own 2 sc__law_walk.nd (f_lst a_nil)) (s_cons (s_for (passes_of rfl) rfl (i_seq (d_idx (p_var 0) d_int)) (g_seq (n := 3) rfl (gs_cons (p_nm 3 sc__law_walk.nd) (gs_cons (p_nm 4 sc__law_walk.nd) (gs_cons (p_nm 5 sc__law_walk.nd) gs_nil))) (gsLen1 (gsLen1 (gsLen1 gsLen0)))) (s_one (p_app 2 (d_tup (a_cons (d_callB (cr_min rfl) minL_ok bt_min rfl (T.free 1) (a_cons (d_frz (f_lc (own := [("_law_mark", 6)]) rfl rfl sc__law_walk.nd (i_seq (p_var 5)) (blkOk_by rfl) (ct_nm (by decide)) (fun _ _ _ _ _ => (p_cnm 6 sc__law_walk.nd)) (fun _ _ _ _ _ => pts_yes) (fun _ _ _ _ _ => (d_mod (d_callT (CallR.or call_int1 call_int_str) int_okC bt_int rfl (T.free 4) (a_cons (d_sub (p_var 6) (p_var 1)) a_nil)) (d_idx (p_var 0) d_int))))) a_nil)) (a_cons (p_var 3) a_nil)))))) (s_one (s_frz1 (i := 2) (s_ret (d_frz (f_lc (own := [("_law_far", 7), ("_law_host", 3)]) rfl rfl sc__law_walk.nd (i_seq (d_frz (f_bltF cr_sortZ bt_sorted rfl (T.free 8) (a_cons (p_var 2) a_nil)))) (blkOk_by rfl) (ct_tup (by decide) rfl) (fun _ _ _ _ _ => (p_ctup 2 sc__law_walk.nd (nm_cons 7 (nm_cons 3 nm_nil)))) (fun _ _ _ _ _ => pts_yes) (fun _ _ _ _ _ => (p_var 3)))))))))
theorem ok__law_keepers (T : TxZ K mg) : DfZ P w K mg base 2 d__law_keepers ps__law_keepers (spM K u__law_keepers) := dfz_M (T.fun_ 5) sc__law_keepers rfl rfl (by decide) (fun fd F => F.bindsN fun _ _ _ _ _ _ us hl => match us, hl with | [_, _], _ => rfl) fun cdv A outer s H E hr =>
  (s_cons (p_par2 2 3 sc__law_keepers.nd (x_val (d_call (ok__law_walk T) hr (by decide) rfl (T.glo 15) (a_cons (p_var 0) (a_cons (p_var 1) a_nil))) (x_val (d_idx (p_var 0) d_int) x_nil))) (s_cons (s_if (t_eq (hu_of hr) (d_idx (p_var 0) d_int) d_str) (s_one (s_ret (d_callT call_tuple_of tuple_ok bt_tuple rfl (T.free 9) (a_cons (d_frz (f_sl (p_var 2) o_none (o_some (p_var 3)))) a_nil)))) s_nil) (s_cons (s_parN rfl sc__law_keepers.nd (nm_cons 4 (nm_cons 5 (nm_cons 6 nm_nil))) (x_val (d_frz (f_tyF (cr_dictP rfl) bt_dict rfl (T.free 14) (a_cons (d_frz (f_lc (own := [("_law_host", 7)]) rfl rfl sc__law_keepers.nd (i_seq (d_idx (p_var 0) d_int)) (blkOk_by rfl) (ct_nm (by decide)) (fun _ _ _ _ _ => (p_cnm 7 sc__law_keepers.nd)) (fun _ _ _ _ _ => pts_yes) (fun _ _ _ _ _ => (d_tup (a_cons (d_idx (p_var 7) d_int) (a_cons (d_idx (p_var 7) d_int) a_nil)))))) a_nil))) (x_own (f_lst a_nil) (x_own (f_lst a_nil) x_nil))) (by decide)) (s_cons (s_for (passes_of rfl) rfl (i_seq (p_var 2)) (p_nm 7 sc__law_keepers.nd) (s_cons (s_if (t_bor 5 (t_bor 6 (t_bool (w_and (t_notInA (hu_of hr) (d_idxDic (hu_of hr) (p_var 4) (p_var 7)) (p_var 5)) (w_and1 (t_lt (d_callB call_len len_ok bt_len rfl (T.free 0) (a_cons (p_var 6) a_nil)) (p_var 3))))))) (s_one (p_app 6 (p_var 7))) s_nil) (s_one (p_app 5 (d_idxDic (hu_of hr) (p_var 4) (p_var 7)))))) (s_cons (s_frz1 (i := 6) (s_ownLc (own := [("_law_host", 7)]) (i := 8) rfl rfl sc__law_keepers.nd rfl rfl rfl (i_seq (p_var 2)) (blkOk_by rfl) (ct_nm (by decide)) (fun _ _ _ _ _ => (p_cnm 7 sc__law_keepers.nd)) (fun _ _ _ _ _ => (pts_t (t_notInA (hu_of hr) (p_var 7) (p_var 6)))) (fun _ _ _ _ _ => (p_var 7)))) (s_one (s_frz1 (i := 8) (s_ret (d_callT call_tuple_of tuple_ok bt_tuple rfl (T.free 9) (a_cons (d_addA (p_var 6) (d_frz (f_sl (p_var 8) o_none (o_some (d_sub (p_var 3) (d_callB call_len len_ok bt_len rfl (T.free 0) (a_cons (p_var 6) a_nil))))))) a_nil))))))))))
theorem ok__law_due (T : TxZ K mg) : DfZ P w K mg base 3 d__law_due ps__law_due (spM K u__law_due) := dfz_M (T.fun_ 6) sc__law_due rfl rfl (by decide) (fun fd F => F.bindsN fun _ _ _ _ _ _ us hl => match us, hl with | [_, _], _ => rfl) fun cdv A outer s H E hr =>
  (s_cons (p_set 2 sc__law_due.nd (d_frz (f_sosA (hu_of hr) rfl rfl (T.free 8) rfl (T.free 13) (d_frz (f_lc (own := [("_law_host", 3)]) rfl rfl sc__law_due.nd (i_seq (d_add (d_idx (p_var 0) d_int) (d_idx (p_var 1) d_int))) (blkOk_by rfl) (ct_nm (by decide)) (fun _ _ _ _ _ => (p_cnm 3 sc__law_due.nd)) (fun _ _ _ _ _ => pts_yes) (fun _ _ _ _ _ => (d_idx (p_var 3) d_int))))))) (s_cons (s_parN rfl sc__law_due.nd (nm_cons 4 (nm_cons 5 nm_nil)) (x_own (f_tyF (cr_dictP rfl) bt_dict rfl (T.free 14) (a_cons (d_frz (f_lc (own := [("_law_host", 3)]) rfl rfl sc__law_due.nd (i_seq (p_var 2)) (blkOk_by rfl) (ct_nm (by decide)) (fun _ _ _ _ _ => (p_cnm 3 sc__law_due.nd)) (fun _ _ _ _ _ => pts_yes) (fun _ _ _ _ _ => (d_tup (a_cons (p_var 3) (a_cons d_int a_nil)))))) a_nil)) (x_own (f_tyF (cr_dictP rfl) bt_dict rfl (T.free 14) (a_cons (d_frz (f_lc (own := [("_law_host", 3)]) rfl rfl sc__law_due.nd (i_seq (p_var 2)) (blkOk_by rfl) (ct_nm (by decide)) (fun _ _ _ _ _ => (p_cnm 3 sc__law_due.nd)) (fun _ _ _ _ _ => pts_yes) (fun _ _ _ _ _ => (d_tup (a_cons (p_var 3) (a_cons d_int a_nil)))))) a_nil)) x_nil)) (by decide)) (s_cons (s_for (passes_of rfl) rfl (i_rng1 rfl (T.free 3) (a_cons (d_idx (p_var 0) d_int) a_nil)) (p_nm 6 sc__law_due.nd) (s_cons (p_par2 7 8 sc__law_due.nd (x_val (d_call (ok__law_keepers T) hr (by decide) rfl (T.glo 16) (a_cons (p_var 0) (a_cons (p_var 6) a_nil))) (x_val (d_call (ok__law_keepers T) hr (by decide) rfl (T.glo 16) (a_cons (p_var 1) (a_cons (p_var 6) a_nil))) x_nil))) (s_one (s_for (passes_of rfl) rfl (i_seq (p_var 2)) (p_nm 3 sc__law_due.nd) (s_cons (p_putK 4 hr (p_var 3) (d_bor 4 (d_add (d_idxDic (hu_of hr) (p_var 4) (p_var 3)) (d_if (t_bool (w_and (t_inA (hu_of hr) (p_var 3) (p_var 8)) (w_and1 (t_notInA (hu_of hr) (p_var 3) (p_var 7))))) d_int d_int)))) (s_one (p_putK 5 hr (p_var 3) (d_bor 5 (d_add (d_idxDic (hu_of hr) (p_var 5) (p_var 3)) (d_if (t_bool (w_and (t_inA (hu_of hr) (p_var 3) (p_var 7)) (w_and1 (t_notInA (hu_of hr) (p_var 3) (p_var 8))))) d_int d_int)))))))))) (s_one (s_frz1 (i := 5) (s_frz1 (i := 4) (s_ret (d_callT call_tuple_of tuple_ok bt_tuple rfl (T.free 9) (a_cons (d_frz (f_lc (own := [("_law_host", 3)]) rfl rfl sc__law_due.nd (i_seq (p_var 2)) (blkOk_by rfl) (ct_nm (by decide)) (fun _ _ _ _ _ => (p_cnm 3 sc__law_due.nd)) (fun _ _ _ _ _ => pts_yes) (fun _ _ _ _ _ => (d_tup (a_cons (p_var 3) (a_cons (d_idxDic (hu_of hr) (p_var 4) (p_var 3)) (a_cons (d_idxDic (hu_of hr) (p_var 5) (p_var 3)) a_nil))))))) a_nil)))))))))
theorem ok_is_integer (T : TxZ K mg) : DfZ P w K mg base 1 d_is_integer ps_is_integer (spM K u_is_integer) := dfz_M (T.fun_ 7) sc_is_integer rfl rfl (by decide) (fun fd F => F.bindsN fun _ _ _ _ _ _ us hl => match us, hl with | [_, _, _], _ => rfl) fun cdv A outer s H E hr =>
  (s_one (s_ret (d_and (d_callB call_isi (isi_ok (T.isi 19)) bt_isinstance rfl (T.free 18) (a_cons (p_var 0) (a_cons (d_bty rfl (T.free 4) bt_int) a_nil))) (d_and (d_not (d_callB call_isi (isi_ok (T.isi 19)) bt_isinstance rfl (T.free 18) (a_cons (p_var 0) (a_cons (d_bty rfl (T.free 20) bt_bool) a_nil)))) (d_one (d_lele (p_var 1) (p_var 0) (p_var 2)))))))
theorem ok_check_number (T : TxZ K mg) : DfZ P w K mg base 2 d_check_number ps_check_number (spM K u_check_number) := dfz_M (T.fun_ 8) sc_check_number rfl rfl (by decide) (fun fd F => F.bindsN fun _ _ _ _ _ _ us hl => match us, hl with | [_, _], _ => rfl) fun cdv A outer s H E hr =>
  (s_one (s_if (t_not (t_of (d_call (ok_is_integer T) hr (by decide) rfl (T.glo 21) (a_cons (p_var 0) (a_cons d_int (a_cons (p_var 1) a_nil)))))) (s_one s_die) s_nil))
theorem ok_is_name (T : TxZ K mg) : DfZ P w K mg base 1 d_is_name ps_is_name (spM K u_is_name) := dfz_M (T.fun_ 9) sc_is_name rfl rfl (by decide) (fun fd F => F.bindsN fun _ _ _ _ _ _ us hl => match us, hl with | [_], _ => rfl) fun cdv A outer s H E hr =>
  (s_cons (s_if (t_bool (w_or (t_not (t_of (d_callB call_isi (isi_ok (T.isi 19)) bt_isinstance rfl (T.free 18) (a_cons (p_var 0) (a_cons (d_bty rfl (T.free 25) bt_str) a_nil))))) (w_or1 (t_not (t_lele d_int (d_callB call_len len_ok bt_len rfl (T.free 0) (a_cons (p_var 0) a_nil)) (p_gint (T.gint 32))))))) (s_one (s_ret d_bl)) s_nil) (s_one (s_ret (d_and (d_inA (hu_of hr) (d_idx (p_var 0) d_int) (p_gstr (T.gstr 33))) (d_one (d_callB (cr_all rfl) all_ok bt_all rfl (T.free 35) (a_cons (d_frz (f_lc (own := [("sign", 1)]) rfl rfl sc_is_name.nd (i_seq (p_var 0)) (blkOk_by rfl) (ct_nm (by decide)) (fun _ _ _ _ _ => (p_cnm 1 sc_is_name.nd)) (fun _ _ _ _ _ => pts_yes) (fun _ _ _ _ _ => (d_inA (hu_of hr) (p_var 1) (d_add (p_gstr (T.gstr 33)) (p_gstr (T.gstr 34))))))) a_nil)))))))
theorem ok_are_points (T : TxZ K mg) : DfZ P w K mg base 2 d_are_points ps_are_points (spM K u_are_points) := dfz_M (T.fun_ 10) sc_are_points rfl rfl (by decide) (fun fd F => F.bindsN fun _ _ _ _ _ _ us hl => match us, hl with | [_, _, _], _ => rfl) fun cdv A outer s H E hr =>
  (s_cons (s_if (t_bool (w_or (t_not (t_of (d_callB call_isi (isi_ok (T.isi 19)) bt_isinstance rfl (T.free 18) (a_cons (p_var 0) (a_cons (d_bty rfl (T.free 9) bt_tuple) a_nil))))) (w_or1 (t_not (t_lele d_int (d_callB call_len len_ok bt_len rfl (T.free 0) (a_cons (p_var 0) a_nil)) (p_var 2)))))) (s_one (s_ret d_bl)) s_nil) (s_cons (s_if (t_not (t_of (d_callB (cr_all rfl) all_ok bt_all rfl (T.free 35) (a_cons (d_frz (f_lc (own := [("point", 3)]) rfl rfl sc_are_points.nd (i_seq (p_var 0)) (blkOk_by rfl) (ct_nm (by decide)) (fun _ _ _ _ _ => (p_cnm 3 sc_are_points.nd)) (fun _ _ _ _ _ => pts_yes) (fun _ _ _ _ _ => (d_call (ok_is_integer T) hr (by decide) rfl (T.glo 21) (a_cons (p_var 3) (a_cons d_int (a_cons (d_sub (p_var 1) d_int) a_nil))))))) a_nil)))) (s_one (s_ret d_bl)) s_nil) (s_one (s_ret (d_callB (cr_all rfl) all_ok bt_all rfl (T.free 35) (a_cons (d_frz (f_lc (own := [("one", 4), ("other", 5)]) rfl rfl sc_are_points.nd (i_zip rfl (T.free 37) (a_cons (p_var 0) (a_cons (d_sl (p_var 0) (o_some d_int) o_none) a_nil))) (blkOk_by rfl) (ct_tup (by decide) rfl) (fun _ _ _ _ _ => (p_ctup 2 sc_are_points.nd (nm_cons 4 (nm_cons 5 nm_nil)))) (fun _ _ _ _ _ => pts_yes) (fun _ _ _ _ _ => (d_lt (p_var 4) (p_var 5))))) a_nil))))))
theorem ok_is_host (T : TxZ K mg) : DfZ P w K mg base 3 d_is_host ps_is_host (spM K u_is_host) := dfz_M (T.fun_ 11) sc_is_host rfl rfl (by decide) (fun fd F => F.bindsN fun _ _ _ _ _ _ us hl => match us, hl with | [_, _, _], _ => rfl) fun cdv A outer s H E hr =>
  (s_cons (s_if (t_bool (w_or (t_not (t_of (d_callB call_isi (isi_ok (T.isi 19)) bt_isinstance rfl (T.free 18) (a_cons (p_var 0) (a_cons (d_bty rfl (T.free 9) bt_tuple) a_nil))))) (w_or (t_ne (hu_of hr) (d_callB call_len len_ok bt_len rfl (T.free 0) (a_cons (p_var 0) a_nil)) d_int) (w_or (t_not (t_of (d_call (ok_is_name T) hr (by decide) rfl (T.glo 36) (a_cons (d_idx (p_var 0) d_int) a_nil)))) (w_or1 (t_not (t_of (d_call (ok_is_name T) hr (by decide) rfl (T.glo 36) (a_cons (d_idx (p_var 0) d_int) a_nil))))))))) (s_one (s_ret d_bl)) s_nil) (s_cons (s_asg (p_var 0) (g_seq (n := 3) rfl (gs_cons (p_nm 3 sc_is_host.nd) (gs_cons (p_nm 4 sc_is_host.nd) (gs_cons (p_nm 5 sc_is_host.nd) gs_nil))) (gsLen1 (gsLen1 (gsLen1 gsLen0))))) (s_cons (s_if (t_bool (w_or (t_inA (hu_of hr) (p_var 3) (d_frz (f_lc (own := [("host", 6)]) rfl rfl sc_is_host.nd (i_seq (p_var 2)) (blkOk_by rfl) (ct_nm (by decide)) (fun _ _ _ _ _ => (p_cnm 6 sc_is_host.nd)) (fun _ _ _ _ _ => pts_yes) (fun _ _ _ _ _ => (d_idx (p_var 6) d_int))))) (w_or1 (t_not (t_of (d_call (ok_are_points T) hr (by decide) rfl (T.glo 39) (a_cons (p_var 5) (a_cons (p_var 1) (a_cons (p_gint (T.gint 38)) a_nil))))))))) (s_one (s_ret d_bl)) s_nil) (s_cons (p_set 7 sc_is_host.nd (d_frz (f_dc2 (own := [("host", 6), ("mark", 8)]) rfl rfl sc_is_host.nd (i_seq (p_var 2)) (blkOk_by rfl) (by decide) (ct_nm (by decide)) (ct_nm (by decide)) (fun _ _ _ _ _ => (p_cnm 6 sc_is_host.nd)) (fun _ _ _ _ _ => pts_yes) (fun _ _ _ _ _ => (i_seq (d_idx (p_var 6) d_int))) (fun _ _ _ _ _ => (p_cnm 8 sc_is_host.nd)) (fun _ _ _ _ _ => pts_yes) (fun _ _ _ _ _ => (p_var 8)) (fun _ _ _ _ _ => d_bl)))) (s_one (s_ret (d_not (d_callB (cr_any rfl) any_ok bt_any rfl (T.free 40) (a_cons (d_frz (f_lc (own := [("mark", 8)]) rfl rfl sc_is_host.nd (i_seq (p_var 5)) (blkOk_by rfl) (ct_nm (by decide)) (fun _ _ _ _ _ => (p_cnm 8 sc_is_host.nd)) (fun _ _ _ _ _ => pts_yes) (fun _ _ _ _ _ => (d_inDic (hu_of hr) (p_var 8) (p_var 7))))) a_nil)))))))))
theorem ok_check_hosts (T : TxZ K mg) : DfZ P w K mg base 4 d_check_hosts ps_check_hosts (spM K u_check_hosts) := dfz_M (T.fun_ 12) sc_check_hosts rfl rfl (by decide) (fun fd F => F.bindsN fun _ _ _ _ _ _ us hl => match us, hl with | [_, _], _ => rfl) fun cdv A outer s H E hr =>
  (s_cons (s_if (t_bool (w_or (t_not (t_of (d_callB call_isi (isi_ok (T.isi 19)) bt_isinstance rfl (T.free 18) (a_cons (p_var 0) (a_cons (d_bty rfl (T.free 9) bt_tuple) a_nil))))) (w_or1 (t_eq (hu_of hr) (d_callB call_len len_ok bt_len rfl (T.free 0) (a_cons (p_var 0) a_nil)) d_int)))) (s_one s_die) s_nil) (s_one (s_for (passes_of rfl) rfl (i_enum2 rfl (T.free 30) (a_cons (p_var 0) a_nil)) (g_seq (n := 2) rfl (gs_cons (p_nm 2 sc_check_hosts.nd) (gs_cons (p_nm 3 sc_check_hosts.nd) gs_nil)) (gsLen1 (gsLen1 gsLen0))) (s_one (s_if (t_bool (w_or (t_eq (hu_of hr) (p_var 2) (p_gint (T.gint 31))) (w_or1 (t_not (t_of (d_call (ok_is_host T) hr (by decide) rfl (T.glo 41) (a_cons (p_var 3) (a_cons (p_var 1) (a_cons (d_sl (p_var 0) o_none (o_some (p_var 2))) a_nil))))))))) (s_one s_die) s_nil)))))
theorem ok_Ring___init__ (T : TxZ K mg) : DfZ P w K mg base 5 d_Ring___init__ ps_Ring___init__ (spI K "Ring" u_Ring___init__) := dfz_I (T.fun_ 13) sc_Ring___init__ rfl rfl (by decide) (fun fd F => F.bindsN fun _ _ _ _ _ _ us hl => match us, hl with | [_, _, _, _, _, _, _, _], _ => rfl) fun cdv A outer s H E hr =>
  (n_cons (n_expr (d_call (ok_check_number T) hr (by decide) rfl (T.glo 23) (a_cons (p_var 1) (a_cons (p_gint (T.gint 22)) a_nil)))) (n_cons (n_expr (d_call (ok_check_number T) hr (by decide) rfl (T.glo 23) (a_cons (p_var 2) (a_cons (p_gint (T.gint 24)) a_nil)))) (n_cons (n_not (t_bool (w_or (t_not (t_of (d_callB call_isi (isi_ok (T.isi 19)) bt_isinstance rfl (T.free 18) (a_cons (p_var 3) (a_cons (d_bty rfl (T.free 25) bt_str) a_nil))))) (w_or1 (t_notInA (hu_of hr) (p_var 3) (p_gtup (T.gtup 26 27))))))) (n_cons (n_expr (d_call (ok_check_number T) hr (by decide) rfl (T.glo 23) (a_cons (p_var 4) (a_cons (p_var 2) a_nil)))) (n_cons (n_expr (d_call (ok_check_number T) hr (by decide) rfl (T.glo 23) (a_cons (p_var 5) (a_cons (p_var 2) a_nil)))) (n_cons (n_not (t_bool (w_or (t_not (t_of (d_callB call_isi (isi_ok (T.isi 19)) bt_isinstance rfl (T.free 18) (a_cons (p_var 6) (a_cons (d_bty rfl (T.free 25) bt_str) a_nil))))) (w_or1 (t_notInA (hu_of hr) (p_var 6) (p_gtup (T.gtup 28 29))))))) (n_cons (n_expr (d_call (ok_check_hosts T) hr (by decide) rfl (T.glo 42) (a_cons (p_var 7) (a_cons (p_var 1) a_nil)))) (n_cons (p_nfld "Ring" (T.cls 43) (T.noat 44) (d_tup (a_cons (p_var 1) (a_cons (p_var 2) (a_cons (p_var 4) (a_cons (p_var 5) a_nil)))))) (n_cons (p_nfld "Ring" (T.cls 43) (T.noat 45) (d_tup (a_cons (p_var 3) (a_cons (p_var 6) a_nil)))) (n_cons (p_nfld "Ring" (T.cls 43) (T.noat 46) (p_var 7)) (n_cons (p_nfld "Ring" (T.cls 43) (T.noat 47) (d_frz (f_dc (own := [("name", 8), ("rack", 9), ("marks", 10)]) rfl rfl sc_Ring___init__.nd (i_seq (p_var 7)) (blkOk_by rfl) (ct_tup (by decide) rfl) (fun _ _ _ _ _ => (p_ctup 3 sc_Ring___init__.nd (nm_cons 8 (nm_cons 9 (nm_cons 10 nm_nil))))) (fun _ _ _ _ _ => pts_yes) (fun _ _ _ _ _ => (p_var 8)) (fun _ _ _ _ _ => (p_var 9))))) (n_cons (p_nfld "Ring" (T.cls 43) (T.noat 48) (d_frz (f_bltF cr_sortZ bt_sorted rfl (T.free 8) (a_cons (d_frz (f_lc2 (own := [("name", 8), ("rack", 9), ("marks", 10), ("mark", 11)]) rfl rfl sc_Ring___init__.nd (i_seq (p_var 7)) (blkOk_by rfl) (by decide) (ct_tup (by decide) rfl) (ct_nm (by decide)) (fun _ _ _ _ _ => (p_ctup 3 sc_Ring___init__.nd (nm_cons 8 (nm_cons 9 (nm_cons 10 nm_nil))))) (fun _ _ _ _ _ => pts_yes) (fun _ _ _ _ _ => (i_seq (p_var 10))) (fun _ _ _ _ _ => (p_cnm 11 sc_Ring___init__.nd)) (fun _ _ _ _ _ => pts_yes) (fun _ _ _ _ _ => (d_tup (a_cons (p_var 11) (a_cons (p_var 8) a_nil)))))) a_nil)))) n_nil))))))))))))
theorem ok_P_law_made (T : TxZ K mg) : DfZ P w K mg base 7 d_P_law_made ps_P_law_made (spM K u_P_law_made) := dfz_M (T.fun_ 14) sc_P_law_made rfl rfl (by decide) (fun fd F => F.bindsN fun _ _ _ _ _ _ us hl => match us, hl with | [_], _ => rfl) fun cdv A outer s H E hr =>
  (s_cons (s_asg (p_var 0) (g_seq (n := 7) rfl (gs_cons (p_nm 1 sc_P_law_made.nd) (gs_cons (p_nm 2 sc_P_law_made.nd) (gs_cons (p_nm 3 sc_P_law_made.nd) (gs_cons (p_nm 4 sc_P_law_made.nd) (gs_cons (p_nm 5 sc_P_law_made.nd) (gs_cons (p_nm 6 sc_P_law_made.nd) (gs_cons (p_nm 7 sc_P_law_made.nd) gs_nil))))))) (gsLen1 (gsLen1 (gsLen1 (gsLen1 (gsLen1 (gsLen1 (gsLen1 gsLen0))))))))) (s_one (s_ret (d_frz (f_make (ok_Ring___init__ T) hr (by decide) (T.mkr 49) rfl (T.glo 50) (a_cons (p_var 1) (a_cons (p_var 2) (a_cons (p_var 3) (a_cons (p_var 4) (a_cons (p_var 5) (a_cons (p_var 6) (a_cons (p_var 7) a_nil))))))))))))
theorem ok_check_ring (T : TxZ K mg) : DfZ P w K mg base 1 d_check_ring ps_check_ring (spM K u_check_ring) := dfz_M (T.fun_ 15) sc_check_ring rfl rfl (by decide) (fun fd F => F.bindsN fun _ _ _ _ _ _ us hl => match us, hl with | [_], _ => rfl) fun cdv A outer s H E hr =>
  (s_one (s_if (t_not (t_of (d_callB call_isi (isi_ok (T.isi 19)) bt_isinstance rfl (T.free 18) (a_cons (p_var 0) (a_cons (d_ty rfl (T.glo 50)) a_nil))))) (s_one s_die) s_nil))
theorem ok_Ring_points (T : TxZ K mg) : DfZ P w K mg base 1 d_Ring_points ps_Ring_points (spM K u_Ring_points) := dfz_M (T.fun_ 16) sc_Ring_points rfl rfl (by decide) (fun fd F => F.bindsN fun _ _ _ _ _ _ us hl => match us, hl with | [_], _ => rfl) fun cdv A outer s H E hr =>
  (s_one (s_ret (d_idx (d_fld "Ring" (p_var 0) (T.cls 43) (T.noat 44)) d_int)))
theorem ok_check_both (T : TxZ K mg) : DfZ P w K mg base 3 d_check_both ps_check_both (spM K u_check_both) := dfz_M (T.fun_ 17) sc_check_both rfl rfl (by decide) (fun fd F => F.bindsN fun _ _ _ _ _ _ us hl => match us, hl with | [_, _], _ => rfl) fun cdv A outer s H E hr =>
  (s_cons (s_expr (d_call (ok_check_ring T) hr (by decide) rfl (T.glo 52) (a_cons (p_var 0) a_nil))) (s_cons (s_expr (d_call (ok_check_ring T) hr (by decide) rfl (T.glo 52) (a_cons (p_var 1) a_nil))) (s_one (s_if (t_ne (hu_of hr) (d_prop (d := d_Ring_points) "Ring" (p_var 0) (T.cls 43) (T.prop 53) (ok_Ring_points T) hr (by decide)) (d_prop (d := d_Ring_points) "Ring" (p_var 1) (T.cls 43) (T.prop 53) (ok_Ring_points T) hr (by decide))) (s_one s_die) s_nil))))
theorem ok_Cell___init__ (T : TxZ K mg) : DfZ P w K mg base 1 d_Cell___init__ ps_Cell___init__ (spI K "Cell" u_Cell___init__) := dfz_I (T.fun_ 18) sc_Cell___init__ rfl rfl (by decide) (fun fd F => F.bindsN fun _ _ _ _ _ _ us hl => match us, hl with | [_, _, _, _], _ => rfl) fun cdv A outer s H E hr =>
  (n_cons (p_nfld "Cell" (T.cls 55) (T.noat 56) (p_var 1)) (n_cons (p_nfld "Cell" (T.cls 55) (T.noat 57) (p_var 2)) (n_cons (p_nfld "Cell" (T.cls 55) (T.noat 58) (p_var 3)) n_nil)))
theorem ok_cut (T : TxZ K mg) : DfZ P w K mg base 3 d_cut ps_cut (spM K u_cut) := dfz_M (T.fun_ 19) sc_cut rfl rfl (by decide) (fun fd F => F.bindsN fun _ _ _ _ _ _ us hl => match us, hl with | [_, _], _ => rfl) fun cdv A outer s H E hr =>
  (s_cons (p_own 2 sc_cut.nd (f_lst a_nil)) (s_cons (s_for (passes_of rfl) rfl (i_enum2 rfl (T.free 30) (a_cons (p_var 1) a_nil)) (g_seq (n := 2) rfl (gs_cons (p_nm 3 sc_cut.nd) (gs_cons (p_nm 4 sc_cut.nd) gs_nil)) (gsLen1 (gsLen1 gsLen0))) (s_cons (p_set 5 sc_cut.nd (d_idx (p_var 1) (d_sub (p_var 3) d_int))) (s_one (p_app 2 (d_frz (f_make (ok_Cell___init__ T) hr (by decide) (T.mkr 59) rfl (T.glo 60) (a_cons (d_mod (d_add (p_var 5) d_int) (p_var 0)) (a_cons (d_add (d_mod (d_sub (d_sub (p_var 4) (p_var 5)) d_int) (p_var 0)) d_int) (a_cons (p_var 4) a_nil))))))))) (s_one (s_frz1 (i := 2) (s_ret (p_var 2))))))
theorem ok_marks_of (T : TxZ K mg) : DfZ P w K mg base 1 d_marks_of ps_marks_of (spM K u_marks_of) := dfz_M (T.fun_ 20) sc_marks_of rfl rfl (by decide) (fun fd F => F.bindsN fun _ _ _ _ _ _ us hl => match us, hl with | [_], _ => rfl) fun cdv A outer s H E hr =>
  (s_one (s_ret (d_frz (f_bltF (cr_sortDicA rfl) bt_sorted rfl (T.free 8) (a_cons (d_frz (f_dc2 (own := [("ring", 1), ("mark", 2), ("name", 3)]) rfl rfl sc_marks_of.nd (i_seq (p_var 0)) (blkOk_by rfl) (by decide) (ct_nm (by decide)) (ct_tup (by decide) rfl) (fun _ _ _ _ _ => (p_cnm 1 sc_marks_of.nd)) (fun _ _ _ _ _ => pts_yes) (fun _ _ _ _ _ => (i_seq (d_fld "Ring" (p_var 1) (T.cls 43) (T.noat 48)))) (fun _ _ _ _ _ => (p_ctup 2 sc_marks_of.nd (nm_cons 2 (nm_cons 3 nm_nil)))) (fun _ _ _ _ _ => pts_yes) (fun _ _ _ _ _ => (p_var 2)) (fun _ _ _ _ _ => d_bl))) a_nil)))))
theorem ok_Ring_spread (T : TxZ K mg) : DfZ P w K mg base 1 d_Ring_spread ps_Ring_spread (spM K u_Ring_spread) := dfz_M (T.fun_ 21) sc_Ring_spread rfl rfl (by decide) (fun fd F => F.bindsN fun _ _ _ _ _ _ us hl => match us, hl with | [_], _ => rfl) fun cdv A outer s H E hr =>
  (s_one (s_ret (d_idx (d_fld "Ring" (p_var 0) (T.cls 43) (T.noat 45)) d_int)))
theorem ok_Ring_factor (T : TxZ K mg) : DfZ P w K mg base 1 d_Ring_factor ps_Ring_factor (spM K u_Ring_factor) := dfz_M (T.fun_ 22) sc_Ring_factor rfl rfl (by decide) (fun fd F => F.bindsN fun _ _ _ _ _ _ us hl => match us, hl with | [_], _ => rfl) fun cdv A outer s H E hr =>
  (s_one (s_ret (d_idx (d_fld "Ring" (p_var 0) (T.cls 43) (T.noat 44)) d_int)))
theorem ok_chosen (T : TxZ K mg) : DfZ P w K mg base 3 d_chosen ps_chosen (spM K u_chosen) := dfz_M (T.fun_ 23) sc_chosen rfl rfl (by decide) (fun fd F => F.bindsN fun _ _ _ _ _ _ us hl => match us, hl with | [_, _], _ => rfl) fun cdv A outer s H E hr =>
  (s_cons (s_if (t_eq (hu_of hr) (d_prop (d := d_Ring_spread) "Ring" (p_var 0) (T.cls 43) (T.prop 63) (ok_Ring_spread T) hr (by decide)) d_str) (s_one (s_ret (d_sl (p_var 1) o_none (o_some (d_prop (d := d_Ring_factor) "Ring" (p_var 0) (T.cls 43) (T.prop 64) (ok_Ring_factor T) hr (by decide)))))) s_nil) (s_cons (p_own 2 sc_chosen.nd f_dic0) (s_cons (s_for (passes_of rfl) rfl (i_seq (p_var 1)) (p_nm 3 sc_chosen.nd) (s_one (p_setd (m := ⟨rfl, rfl, rfl, rfl⟩) 2 (d_idxDic (hu_of hr) (d_fld "Ring" (p_var 0) (T.cls 43) (T.noat 47)) (p_var 3)) (p_var 3)))) (s_cons (s_frz1 (i := 2) (p_set 4 sc_chosen.nd (d_sl (d_tupleVals rfl rfl (T.free 9) (p_var 2)) o_none (o_some (d_prop (d := d_Ring_factor) "Ring" (p_var 0) (T.cls 43) (T.prop 64) (ok_Ring_factor T) hr (by decide)))))) (s_cons (s_ownLc (own := [("name", 3)]) (i := 5) rfl rfl sc_chosen.nd rfl rfl rfl (i_seq (p_var 1)) (blkOk_by rfl) (ct_nm (by decide)) (fun _ _ _ _ _ => (p_cnm 3 sc_chosen.nd)) (fun _ _ _ _ _ => (pts_t (t_notInA (hu_of hr) (p_var 3) (p_var 4)))) (fun _ _ _ _ _ => (p_var 3))) (s_one (s_frz1 (i := 5) (s_ret (d_tup (a_star (p_var 4) (a_star (d_frz (f_sl (p_var 5) o_none (o_some (d_sub (d_prop (d := d_Ring_factor) "Ring" (p_var 0) (T.cls 43) (T.prop 64) (ok_Ring_factor T) hr (by decide)) (d_callB call_len len_ok bt_len rfl (T.free 0) (a_cons (p_var 4) a_nil)))))) a_nil)))))))))))
theorem ok_walk_of (T : TxZ K mg) : DfZ P w K mg base 1 d_walk_of ps_walk_of (spM K u_walk_of) := dfz_M (T.fun_ 24) sc_walk_of rfl rfl (by decide) (fun fd F => F.bindsN fun _ _ _ _ _ _ us hl => match us, hl with | [_, _], _ => rfl) fun cdv A outer s H E hr =>
  (s_cons (s_ownLc (own := [("mark", 3), ("name", 4)]) (i := 2) rfl rfl sc_walk_of.nd rfl rfl rfl (i_seq (d_fld "Ring" (p_var 0) (T.cls 43) (T.noat 48))) (blkOk_by rfl) (ct_tup (by decide) rfl) (fun _ _ _ _ _ => (p_ctup 2 sc_walk_of.nd (nm_cons 3 (nm_cons 4 nm_nil)))) (fun _ _ _ _ _ => (pts_t (t_lt (p_var 3) (p_var 1)))) (fun _ _ _ _ _ => (p_var 4))) (s_cons (s_ownLc (own := [("mark", 3), ("name", 4)]) (i := 5) rfl rfl sc_walk_of.nd rfl rfl rfl (i_seq (d_fld "Ring" (p_var 0) (T.cls 43) (T.noat 48))) (blkOk_by rfl) (ct_tup (by decide) rfl) (fun _ _ _ _ _ => (p_ctup 2 sc_walk_of.nd (nm_cons 3 (nm_cons 4 nm_nil)))) (fun _ _ _ _ _ => (pts_t (t_ge (p_var 3) (p_var 1)))) (fun _ _ _ _ _ => (p_var 4))) (s_one (s_frz1 (i := 5) (s_frz1 (i := 2) (s_ret (d_tyM (cr_tupleDic rfl) bt_tuple rfl (T.free 9) (a_cons (d_frz (f_dc (own := [("name", 4)]) rfl rfl sc_walk_of.nd (i_seq (d_frz (f_lst (a_star (p_var 5) (a_star (p_var 2) a_nil))))) (blkOk_by rfl) (ct_nm (by decide)) (fun _ _ _ _ _ => (p_cnm 4 sc_walk_of.nd)) (fun _ _ _ _ _ => pts_yes) (fun _ _ _ _ _ => (p_var 4)) (fun _ _ _ _ _ => d_bl))) a_nil))))))))
theorem ok_keepers_of (T : TxZ K mg) : DfZ P w K mg base 4 d_keepers_of ps_keepers_of (spM K u_keepers_of) := dfz_M (T.fun_ 25) sc_keepers_of rfl rfl (by decide) (fun fd F => F.bindsN fun _ _ _ _ _ _ us hl => match us, hl with | [_, _], _ => rfl) fun cdv A outer s H E hr =>
  (s_one (s_ret (d_call (ok_chosen T) hr (by decide) rfl (T.glo 66) (a_cons (p_var 0) (a_cons (d_call (ok_walk_of T) hr (by decide) rfl (T.glo 65) (a_cons (p_var 0) (a_cons (p_var 1) a_nil))) a_nil)))))
theorem ok_common_of (T : TxZ K mg) : DfZ P w K mg base 5 d_common_of ps_common_of (spM K u_common_of) := dfz_M (T.fun_ 26) sc_common_of rfl rfl (by decide) (fun fd F => F.bindsN fun _ _ _ _ _ _ us hl => match us, hl with | [_, _], _ => rfl) fun cdv A outer s H E hr =>
  (s_cons (p_set 2 sc_common_of.nd (d_call (ok_cut T) hr (by decide) rfl (T.glo 62) (a_cons (d_prop (d := d_Ring_points) "Ring" (p_var 0) (T.cls 43) (T.prop 53) (ok_Ring_points T) hr (by decide)) (a_cons (d_call (ok_marks_of T) hr (by decide) rfl (T.glo 61) (a_cons (d_frz (f_lst (a_cons (p_var 0) (a_cons (p_var 1) a_nil)))) a_nil)) a_nil)))) (s_one (s_ret (d_callT call_tuple_of tuple_ok bt_tuple rfl (T.free 9) (a_cons (d_frz (f_lc (own := [("cell", 3)]) rfl rfl sc_common_of.nd (i_seq (p_var 2)) (blkOk_by rfl) (ct_nm (by decide)) (fun _ _ _ _ _ => (p_cnm 3 sc_common_of.nd)) (fun _ _ _ _ _ => pts_yes) (fun _ _ _ _ _ => (d_tup (a_cons (d_fld "Cell" (p_var 3) (T.cls 55) (T.noat 56)) (a_cons (d_fld "Cell" (p_var 3) (T.cls 55) (T.noat 57)) (a_cons (d_call (ok_keepers_of T) hr (by decide) rfl (T.glo 67) (a_cons (p_var 0) (a_cons (d_fld "Cell" (p_var 3) (T.cls 55) (T.noat 58)) a_nil))) (a_cons (d_call (ok_keepers_of T) hr (by decide) rfl (T.glo 67) (a_cons (p_var 1) (a_cons (d_fld "Cell" (p_var 3) (T.cls 55) (T.noat 58)) a_nil))) a_nil)))))))) a_nil)))))
theorem ok_moves (T : TxZ K mg) : DfZ P w K mg base 6 d_moves ps_moves (spM K u_moves) := dfz_M (T.fun_ 27) sc_moves rfl rfl (by decide) (fun fd F => F.bindsN fun _ _ _ _ _ _ us hl => match us, hl with | [_, _], _ => rfl) fun cdv A outer s H E hr =>
  (s_cons (s_expr (d_call (ok_check_both T) hr (by decide) rfl (T.glo 54) (a_cons (p_var 0) (a_cons (p_var 1) a_nil)))) (s_cons (p_set 2 sc_moves.nd (d_frz (f_bltF (cr_sortDic rfl) bt_sorted rfl (T.free 8) (a_cons (d_frz (f_mrg (d_fld "Ring" (p_var 0) (T.cls 43) (T.noat 47)) (d_fld "Ring" (p_var 1) (T.cls 43) (T.noat 47)))) a_nil)))) (s_cons (s_parN rfl sc_moves.nd (nm_cons 3 (nm_cons 4 nm_nil)) (x_own (f_dc (own := [("name", 5)]) rfl rfl sc_moves.nd (i_seq (p_var 2)) (blkOk_by rfl) (ct_nm (by decide)) (fun _ _ _ _ _ => (p_cnm 5 sc_moves.nd)) (fun _ _ _ _ _ => pts_yes) (fun _ _ _ _ _ => (p_var 5)) (fun _ _ _ _ _ => d_int)) (x_own (f_dc (own := [("name", 5)]) rfl rfl sc_moves.nd (i_seq (p_var 2)) (blkOk_by rfl) (ct_nm (by decide)) (fun _ _ _ _ _ => (p_cnm 5 sc_moves.nd)) (fun _ _ _ _ _ => pts_yes) (fun _ _ _ _ _ => (p_var 5)) (fun _ _ _ _ _ => d_int)) x_nil)) (by decide)) (s_cons (s_for (passes_of rfl) rfl (i_seq (d_call (ok_common_of T) hr (by decide) rfl (T.glo 68) (a_cons (p_var 0) (a_cons (p_var 1) a_nil)))) (g_seq (n := 4) rfl (gs_cons (p_nm 6 sc_moves.nd) (gs_cons (p_nm 7 sc_moves.nd) (gs_cons (p_nm 8 sc_moves.nd) (gs_cons (p_nm 9 sc_moves.nd) gs_nil)))) (gsLen1 (gsLen1 (gsLen1 (gsLen1 gsLen0))))) (s_one (s_for (passes_of rfl) rfl (i_seq (p_var 2)) (p_nm 5 sc_moves.nd) (s_cons (s_if (t_bool (w_and (t_inA (hu_of hr) (p_var 5) (p_var 9)) (w_and1 (t_notInA (hu_of hr) (p_var 5) (p_var 8))))) (s_one (p_augK 3 hr (p_var 5) (p_var 7))) s_nil) (s_one (s_if (t_bool (w_and (t_inA (hu_of hr) (p_var 5) (p_var 8)) (w_and1 (t_notInA (hu_of hr) (p_var 5) (p_var 9))))) (s_one (p_augK 4 hr (p_var 5) (p_var 7))) s_nil)))))) (s_one (s_frz1 (i := 4) (s_frz1 (i := 3) (s_ret (d_callT call_tuple_of tuple_ok bt_tuple rfl (T.free 9) (a_cons (d_frz (f_lc (own := [("name", 5)]) rfl rfl sc_moves.nd (i_seq (p_var 2)) (blkOk_by rfl) (ct_nm (by decide)) (fun _ _ _ _ _ => (p_cnm 5 sc_moves.nd)) (fun _ _ _ _ _ => pts_yes) (fun _ _ _ _ _ => (d_tup (a_cons (p_var 5) (a_cons (d_idxDic (hu_of hr) (p_var 3) (p_var 5)) (a_cons (d_idxDic (hu_of hr) (p_var 4) (p_var 5)) a_nil))))))) a_nil))))))))))
theorem ok_moved (T : TxZ K mg) : DfZ P w K mg base 7 d_moved ps_moved (spM K u_moved) := dfz_M (T.fun_ 28) sc_moved rfl rfl (by decide) (fun fd F => F.bindsN fun _ _ _ _ _ _ us hl => match us, hl with | [_, _], _ => rfl) fun cdv A outer s H E hr =>
  (s_one (s_ret (d_callB (cr_sum rfl) sum_ok bt_sum rfl (T.free 71) (a_cons (d_frz (f_lc (own := [("name", 2), ("gained", 3), ("lost", 4)]) rfl rfl sc_moved.nd (i_seq (d_call (ok_moves T) hr (by decide) rfl (T.glo 69) (a_cons (p_var 0) (a_cons (p_var 1) a_nil)))) (blkOk_by rfl) (ct_tup (by decide) rfl) (fun _ _ _ _ _ => (p_ctup 3 sc_moved.nd (nm_cons 2 (nm_cons 3 (nm_cons 4 nm_nil))))) (fun _ _ _ _ _ => pts_yes) (fun _ _ _ _ _ => (p_var 3)))) a_nil))))
theorem ok__law_right (T : TxZ K mg) : DfZ P w K mg base 8 d__law_right ps__law_right (spM K u__law_right) := dfz_M (T.fun_ 29) sc__law_right rfl rfl (by decide) (fun fd F => F.bindsN fun _ _ _ _ _ _ us hl => match us, hl with | [_], _ => rfl) fun cdv A outer s H E hr =>
  (s_cons (p_set 1 sc__law_right.nd (d_add d_int (d_call (ok__law_draw T) hr (by decide) rfl (T.glo 6) (a_cons (p_var 0) (a_cons (d_call (ok__law_pick T) hr (by decide) rfl (T.glo 7) (a_cons (p_var 0) (a_cons (d_frz (f_lst (a_cons d_int (a_cons d_int a_nil)))) a_nil))) a_nil))))) (s_cons (p_par2 2 3 sc__law_right.nd (x_val (d_call (ok__law_ring T) hr (by decide) rfl (T.glo 12) (a_cons (p_var 0) (a_cons (p_var 1) (a_cons d_int a_nil)))) (x_val (d_call (ok__law_ring T) hr (by decide) rfl (T.glo 12) (a_cons (p_var 0) (a_cons (p_var 1) (a_cons d_int a_nil)))) x_nil))) (s_cons (s_if (t_eq (hu_of hr) (d_call (ok__law_draw T) hr (by decide) rfl (T.glo 6) (a_cons (p_var 0) (a_cons d_int a_nil))) d_int) (s_cons (s_ownLc (own := [("_law_host", 5)]) (i := 4) rfl rfl sc__law_right.nd rfl rfl rfl (i_seq (d_sl (d_idx (p_var 2) d_int) o_none (o_some d_int))) (blkOk_by rfl) (ct_nm (by decide)) (fun _ _ _ _ _ => (p_cnm 5 sc__law_right.nd)) (fun _ _ _ _ _ => pts_yes) (fun _ _ _ _ _ => (d_tup (a_cons (d_add d_str (d_idx (p_var 5) d_int)) (a_cons (d_idx (p_var 5) d_int) (a_cons (d_idx (p_var 5) d_int) a_nil)))))) (s_one (s_frz1 (i := 4) (p_set 3 sc__law_right.nd (d_addA (d_frz (f_sl (p_var 2) o_none (o_some d_int))) (d_frz (f_lst (a_cons (d_add (d_callT call_tuple_of tuple_ok bt_tuple rfl (T.free 9) (a_cons (p_var 4) a_nil)) (d_sl (d_idx (p_var 2) d_int) (o_some d_int) o_none)) a_nil)))))))) s_nil) (s_cons (p_par3 6 7 8 sc__law_right.nd (x_val (d_call (ok__law_due T) hr (by decide) rfl (T.glo 17) (a_cons (p_var 2) (a_cons (p_var 3) a_nil))) (x_val (d_call (ok_P_law_made T) hr (by decide) rfl (T.glo 51) (a_cons (p_var 2) a_nil)) (x_val (d_call (ok_P_law_made T) hr (by decide) rfl (T.glo 51) (a_cons (p_var 3) a_nil)) x_nil)))) (s_cons (s_if (t_ne (hu_of hr) (d_bltM (cr_repr (hu_of hr) hr.gd) bt_repr rfl (T.free 70) (a_cons (d_frz (f_lst (a_cons (d_call (ok_moves T) hr (by decide) rfl (T.glo 69) (a_cons (p_var 7) (a_cons (p_var 8) a_nil))) (a_cons (d_callK (ok_moves T) hr (by decide) (fun fd F => kwz (ps := ps_moves) (ks := ["other", "one"]) (n := 0) (ix := [1, 0]) F fun _ _ _ _ _ _ us ws h1 h2 => match us, ws, h1, h2 with | [], [_, _], _, _ => rfl) rfl (T.glo 69) (k_cons (p_var 8) (k_cons (p_var 7) k_nil)) (len_cons (len_cons len_nil))) a_nil)))) a_nil)) (d_bltM (cr_repr (hu_of hr) hr.gd) bt_repr rfl (T.free 70) (a_cons (d_frz (f_lst (a_cons (p_var 6) (a_cons (p_var 6) a_nil)))) a_nil))) (s_one (s_ret d_bl)) s_nil) (s_cons (p_set 9 sc__law_right.nd (d_callB (cr_sum rfl) sum_ok bt_sum rfl (T.free 71) (a_cons (d_frz (f_lc (own := [("_law_host", 5), ("_law_gained", 10), ("_law_gone", 11)]) rfl rfl sc__law_right.nd (i_seq (p_var 6)) (blkOk_by rfl) (ct_tup (by decide) rfl) (fun _ _ _ _ _ => (p_ctup 3 sc__law_right.nd (nm_cons 5 (nm_cons 10 (nm_cons 11 nm_nil))))) (fun _ _ _ _ _ => pts_yes) (fun _ _ _ _ _ => (p_var 10)))) a_nil))) (s_cons (s_if (t_ne (hu_of hr) (d_bltM (cr_repr (hu_of hr) hr.gd) bt_repr rfl (T.free 70) (a_cons (d_frz (f_lst (a_cons (d_call (ok_moved T) hr (by decide) rfl (T.glo 72) (a_cons (p_var 7) (a_cons (p_var 8) a_nil))) (a_cons (d_callK (ok_moved T) hr (by decide) (fun fd F => kwz (ps := ps_moved) (ks := ["other", "one"]) (n := 0) (ix := [1, 0]) F fun _ _ _ _ _ _ us ws h1 h2 => match us, ws, h1, h2 with | [], [_, _], _, _ => rfl) rfl (T.glo 72) (k_cons (p_var 8) (k_cons (p_var 7) k_nil)) (len_cons (len_cons len_nil))) a_nil)))) a_nil)) (d_bltM (cr_repr (hu_of hr) hr.gd) bt_repr rfl (T.free 70) (a_cons (d_frz (f_lst (a_cons (p_var 9) (a_cons (p_var 9) a_nil)))) a_nil))) (s_one (s_ret d_bl)) s_nil) (s_cons (s_if (t_ne (hu_of hr) (d_bltM (cr_repr (hu_of hr) hr.gd) bt_repr rfl (T.free 70) (a_cons (d_call (ok_moves T) hr (by decide) rfl (T.glo 69) (a_cons (p_var 8) (a_cons (p_var 7) a_nil))) a_nil)) (d_bltM (cr_repr (hu_of hr) hr.gd) bt_repr rfl (T.free 70) (a_cons (d_callT call_tuple_of tuple_ok bt_tuple rfl (T.free 9) (a_cons (d_frz (f_lc (own := [("_law_host", 5), ("_law_gained", 10), ("_law_gone", 11)]) rfl rfl sc__law_right.nd (i_seq (p_var 6)) (blkOk_by rfl) (ct_tup (by decide) rfl) (fun _ _ _ _ _ => (p_ctup 3 sc__law_right.nd (nm_cons 5 (nm_cons 10 (nm_cons 11 nm_nil))))) (fun _ _ _ _ _ => pts_yes) (fun _ _ _ _ _ => (d_tup (a_cons (p_var 5) (a_cons (p_var 11) (a_cons (p_var 10) a_nil))))))) a_nil)) a_nil))) (s_one (s_ret d_bl)) s_nil) (s_one (s_ret (d_and (d_eq (hu_of hr) (d_call (ok_moved T) hr (by decide) rfl (T.glo 72) (a_cons (p_var 7) (a_cons (p_var 7) a_nil))) d_int) (d_one (d_eq (hu_of hr) (d_frz (f_sosA (hu_of hr) rfl rfl (T.free 8) rfl (T.free 13) (d_frz (f_lc (own := [("_law_each", 12)]) rfl rfl sc__law_right.nd (i_seq (d_call (ok_moves T) hr (by decide) rfl (T.glo 69) (a_cons (p_var 7) (a_cons (p_var 7) a_nil)))) (blkOk_by rfl) (ct_nm (by decide)) (fun _ _ _ _ _ => (p_cnm 12 sc__law_right.nd)) (fun _ _ _ _ _ => pts_yes) (fun _ _ _ _ _ => (d_sl (p_var 12) (o_some d_int) o_none)))))) (d_frz (f_lst (a_cons (d_tup (a_cons d_int (a_cons d_int a_nil))) a_nil))))))))))))))))
theorem ok__law_purse (T : TxZ K mg) : DfZ P w K mg base 1 d__law_purse ps__law_purse (spF K u__law_purse) := dfz_F (T.fun_ 30) sc__law_purse rfl rfl (by decide) (fun fd F => F.bindsN fun _ _ _ _ _ _ us hl => match us, hl with | [_, _], _ => rfl) fun cdv A outer s H E hr =>
  (s_cons (s_if (t_lt (p_var 1) (d_callB call_len len_ok bt_len rfl (T.free 0) (a_cons (p_var 0) a_nil))) (s_cons (p_set 2 sc__law_purse.nd (d_idx (p_var 0) (p_var 1))) (s_cons (p_set 3 sc__law_purse.nd (d_if (t_bool (w_or (t_lt (p_var 2) d_int) (w_or1 (t_ge (p_var 2) (d_pow d_int d_int))))) (d_callB call_abs abs_ok bt_abs rfl (T.free 73) (a_cons (p_var 2) a_nil)) d_int)) (s_one (s_rto (f_lst (a_cons (p_var 3) (a_cons (d_mod (d_callT (CallR.or call_int1 call_int_str) int_okC bt_int rfl (T.free 4) (a_cons (d_add (d_add (d_mul (p_var 2) d_int) (d_mul d_int (p_var 1))) d_int) a_nil)) d_int) (a_cons d_int a_nil)))))))) s_nil) (s_cons (p_set 4 sc__law_purse.nd (d_add (d_mul d_int (p_var 1)) d_int)) (s_cons (s_for (passes_of rfl) rfl (i_seq (d_frz (f_sl (p_var 0) o_none (o_some d_int)))) (p_nm 2 sc__law_purse.nd) (s_one (p_set 4 sc__law_purse.nd (d_mod (d_callT (CallR.or call_int1 call_int_str) int_okC bt_int rfl (T.free 4) (a_cons (d_add (d_mul (p_var 4) d_int) (p_var 2)) a_nil)) d_int)))) (s_one (s_rto (f_lst (a_cons d_int (a_cons (p_var 4) (a_cons d_int a_nil)))))))))
theorem ok_law (T : TxZ K mg) : DfZ P w K mg base 9 d_law ps_law (spM K u_law) := dfz_M (T.fun_ 31) sc_law rfl rfl (by decide) (fun fd F => F.bindsN fun _ _ _ _ _ _ us hl => match us, hl with | [_], _ => rfl) fun cdv A outer s H E hr =>
  (s_cons (s_for (passes_of rfl) rfl (i_rng1 rfl (T.free 3) (a_cons (d_callB (call_max2 rfl) max2_ok bt_max rfl (T.free 2) (a_cons d_int (a_cons (d_callB (call_min2 rfl) min2_ok bt_min rfl (T.free 1) (a_cons (d_callB call_len len_ok bt_len rfl (T.free 0) (a_cons (p_var 0) a_nil)) (a_cons d_int a_nil))) a_nil))) a_nil)) (p_nm 1 sc_law.nd) (s_one (s_if (t_not (t_of (d_call (ok__law_right T) hr (by decide) rfl (T.glo 75) (a_cons (d_cel (f_call (ok__law_purse T) hr (by decide) rfl (T.glo 74) (a_cons (p_var 0) (a_cons (p_var 1) a_nil)))) a_nil)))) (s_one (s_ret d_bl)) s_nil))) (s_one (s_ret d_bl)))
end
end K25
end Z

set_option Elab.async false
set_option linter.all false
set_option maxRecDepth 100000
set_option maxHeartbeats 0
namespace Z
namespace K25
open PySem PySem.Spec PyProof.Rows L2
theorem facts {P : Program} {w : World} {K : PySem.W.Frag} {h : Heap} {mg : PySem.Str → Option Value} {f : Addr} (X : K.In h) (G : h.Ns mainGlobals mg) (hfa : mg ("law" : PySem.Str) = some (.ref f)) (c : SaysZ exF fnL K) :
    noLstB K = true ∧ ∃ fd : FuncData, (∀ (s : Shared) (u : Value), BindsTo s fd ⟨[u], []⟩ [("_law_script", u)]) ∧ ∀ base : Heap, K.In base → base.Ns mainGlobals mg → FnZ P w K mg base NoX 9 f fd ["_law_script"] (spM K u_law) := by
  have T : TxZ K mg := ⟨c, h, X, G⟩
  have e := hfa.symm.trans (T.glo 76)
  cases e
  exact ⟨T.fact 77 (f := noLstB) rfl, law_fd (T.fun_ 31 (d := d_law)) rfl rfl (fun _ _ _ _ _ _ us hl => match us, hl with | [_], _ => rfl) fun base => ok_law T⟩
end K25
end Z
open PySem PySem.W PySem.Calls PyProof.Rows
theorem PySem.Challenge.cw_ringshares_k25_whole_moves_counted_holds : PySem.Challenge.rw_ringshares_k25_whole_moves_counted.Holds := by
  w_on; o_law
  refine HandSHeadRun.head_any (r := OpenLaw.row PySem.Challenge.rw_ringshares_k25_whole_moves_counted) (q := view (OpenLaw.row PySem.Challenge.rw_ringshares_k25_whole_moves_counted).prog [61]) (H := Z.K25.hk) (ob := Z.K25.ob) (M := 20000) (loose := Z.K25.names) (d := HandSHeadRun.topDef (OpenLaw.row PySem.Challenge.rw_ringshares_k25_whole_moves_counted).prog 61) (kwd := []) Z.K25.ob_eq
    (by kernel_rfl) (fun s => by kernel_rfl) Z.K25.run (by kernel_rfl) (by kernel_rfl) (by kernel_rfl) (by rfl) (by first | assumption | decide +kernel) (by decide +kernel) ⟨rfl, rfl, rfl, rfl, rfl, by decide +kernel⟩ ?hw ?hc
  case hw => w_witness2
  case hc =>
    refine Z.walk_Z (l := PySem.Challenge.rw_ringshares_k25_whole_moves_counted) (n := 63) (k := 9) (x := "_law_script") (md := Z.K25.u_law) rfl (by decide) (by kernel_rfl) ⟨rfl, by decide, by decide⟩ ?F Z.K25.plain
    intro w mg fa h Y G hmg0
    obtain ⟨K, KX, c⟩ := Y
    have hmg : mg ("law" : PySem.Str) = some (.ref fa) := by
      have e : (HandSHeadRun.topDef (OpenLaw.row PySem.Challenge.rw_ringshares_k25_whole_moves_counted).prog 61).name = ("law" : PySem.Str) := by kernel_rfl
      rw [← e]
      exact hmg0
    obtain ⟨n0, fd, hb, hF⟩ := Z.K25.facts (P := (PySem.Challenge.rw_ringshares_k25_whole_moves_counted).prog) (w := w) KX G hmg c
    exact ⟨K, fd, KX, n0, hb, hF⟩

