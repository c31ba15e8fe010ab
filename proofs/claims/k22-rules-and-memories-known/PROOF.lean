import PyProof.Rows.All
import Wide.All
import OpenK.AllK
import Wide.FinOn
import HandS.ForMost
import HandS.ForExc
import HandS.Wide
import HandS.WideBits
import HandS.WideMore
import HandS.TupAny
import HandS.TupMul
import HandS.TupLe
import HandS.IsInst
import HandS.Deep
import HandS.Defaults
import HandS.Zip
import HandS.Walk
import HandS.SortInts
import HandS.More
import HandS.RaiseMore
import HandS.SetFor
import HandS.Style
import HandS.Flow
import HandS.Head0
import HandS.Head1
import HandS.Head2
import HandS.HeadEnd
import HandS.HeadHook1
import HandS.HeadHook2
import HandS.HeadHook4
import PyProof.CollectIter
import PyProof.WalksMore
import PyProof.ListRange
import PyProof.ReprRoads
import PyProof.CallFns
import HandS.Dict
import HandS.NoneIn
import PyProof.MaxThree
import HandS.SortKw
import HandS.RevTup
import HandS.ExcIs
import KE.KExcIs
import HandS.Finally
import HandS.HotCalls
import HandS.TryOnly
import PySem.Challenge.RW_waitmark_k22_rules_and_memories_known
import KE.GoesEnumKw
import PyProof.MinMaxWalk
import PyProof.WalkInts
import PyProof.SeqI3
import HandS.Iter
import KE.GoesMore
import HandS.List
import PyProof.EqAt
import PyProof.NeKinds
import PyProof.SliceList
import HandS.ExcValue
import PyProof.ReprLen
set_option Elab.async false
set_option linter.all false
set_option maxRecDepth 100000
set_option maxHeartbeats 4000000
namespace Wm
open PySem PySem.Spec PyProof.Rows L2
/-! ### data -/
inductive Dt where
  | non | bl (b : Bool) | int (i : Int) | str (s : Str) | tup (xs : List Dt) | ref (n : Nat)

/-- an exception: its class, what it bears -/
structure Xc where
  cls : Nat
  num : Option Dt

structure Tab where
  fns : List (Str × Nat)
  con : List (Str × Dt)
  cls : List (Str × Nat)
  free : List Str
  shp : List (Nat × Nat × List Str)
  /-- own classes: the attributes of instances, the methods, how they are made -/
  att : List (Nat × Str) := []
  mts : List (Nat × Str × Nat) := []
  mkr : List (Str × Nat × Nat) := []
  /-- within an except or a finally suite: the defs that may be called there -/
  hot : Bool := false
  hfns : List (Str × Nat) := []
  /-- exception classes that are named alone -/
  ncl : List (Str × Nat) := []
  /-- exceptions are caught in this text -/
  exk : Bool := false
def Tab.xcl (T : Tab) : List (Str × Nat) := T.cls ++ T.ncl
/-- the classes of refusals: each beneath itself and beneath the base of all -/
def isaF (c d : Nat) : Bool := c == d || d == 19
/-- one def of the text: its name, its number, its slots, its parameters (the keyword-only ones last), the defaults of these -/
structure Ent where
  x : Str
  f : Nat
  N : List Str
  ps : List Str
  kwd : List (Str × Dt) := []
  at_ : Nat
  /-- of a method: its class, its place there -/
  cl : Option (Str × Nat) := none
def dvOf : Dt → He.Dv
  | .int i => .int i
  | .str s => .str s
  | .bl b => .bl b
  | _ => .non
def scalD : Dt → Bool
  | .int _ => true
  | .str _ => true
  | .bl _ => true
  | .non => true
  | _ => false
def topAt (P : Program) (i : Nat) : Stmt := P.main.body.getD i (.Pass ⟨0, 0, 0, 0⟩)
def clsBody : Stmt → List Stmt
  | .ClassDef _ _ _ body .. => body
  | _ => []
def Ent.st (P : Program) (e : Ent) : Stmt := match e.cl with
  | none => topAt P e.at_
  | some (_, j) => (clsBody (topAt P e.at_)).getD j (.Pass ⟨0, 0, 0, 0⟩)
def Ent.fp (e : Ent) : Str × Option Str := match e.cl with
  | none => (e.x, none)
  | some (c, _) => (c, some e.x)
def Ent.qn (e : Ent) : Str := match e.cl with
  | none => e.x
  | some (c, _) => c ++ ("." : Str) ++ e.x
def Ent.dd (P : Program) (e : Ent) : He.DefD := ⟨e.fp, e.x, e.qn, defArgs (e.st P), defBody (e.st P), defScope (e.st P), [], e.kwd.map fun q => (q.1, dvOf q.2)⟩
def conFa : Str × Dt → Option He.Fa
  | (x, .int i) => some (.int x i)
  | (x, .str s) => some (.str x s)
  | _ => none
/-- an own class's name -/
def clsName (T : Tab) (c : Nat) : Str := ((T.mkr.find? fun q => q.2.1 == c).map (·.1)).getD ("" : Str)
def faObj (T : Tab) : List He.Fa := T.mkr.map (fun q => .glo q.1) ++ (T.mkr.map (fun q => .cls q.1) ++ (T.mkr.map (fun q => .mkr q.1) ++ (T.mts.map (fun q => .meth (clsName T q.1) q.2.1) ++ (T.att.map (fun q => .noat (clsName T q.1) q.2) ++ (T.ncl.map (fun q => .glo q.1) ++ T.ncl.map fun q => .keep q.1)))))
def faOf (T : Tab) : List He.Fa := T.con.filterMap conFa ++ (T.free.map .free ++ (T.fns.map (fun q => .glo q.1) ++ (T.cls.map (fun q => .glo q.1) ++ (T.cls.map (fun q => .exc q.1) ++ faObj T))))
/-- asked of a place that is worked out first -/
def frc (f : Addr → Bool) (a : Addr) : Bool := match a with
  | 0 => f 0
  | b + 1 => f (b + 1)
def mroX (L C : Addr) (p : Str × Nat) : List Value := .ref C :: (if p.2 == 19 then PySem.HandSPX.veTail else .ref L :: PySem.HandSPX.veTail)
def namB (K : PySem.W.Frag) (C : Addr) (x : Str) : Bool := match PySem.W.clsIn K C with
  | some cd => decide (cd.name = x)
  | none => false
def excK1 (K : PySem.W.Frag) (L C : Addr) (p : Str × Nat) : Bool := (match PySem.W.clsIn K C with
  | some cd => decide (cd.name = p.1) && decide (cd.mro = mroX L C p)
  | none => false) && (decide (PySem.W.findIn K (.ref C) "__getattribute__" = some (some (.builtin "BaseException.__getattribute__"))) && (decide (PySem.W.findIn K (.ref C) "__getattr__" = some none) && (decide (PySem.W.findIn K (.ref C) "__class__" = some (some (.builtin "object.__class__"))) && decide (PySem.W.typeIn K (.ref C) = some (.type "type")))))
def excX (T : Tab) (K : PySem.W.Frag) : Bool := !T.exk || (decide (PySem.W.specialIn K (.builtin "object.__class__") "__get__" = some (some (.builtin "getset_descriptor.__get__"))) && (decide (PySem.W.takesIn K (.builtin "object.__class__") = some true) && frc (fun L => namB K L "LineError" && T.xcl.all fun p => frc (fun C => excK1 K L C p) (He.ga K p.1)) (He.ga K "LineError")))
/-- the book of modules is a dict -/
def smB (K : PySem.W.Frag) : Bool := match K.lookup sysModules with
  | some o => decide (o.cls = .type "dict")
  | none => false
/-- a tuple's items, of a module's tuple -/
def itB : Dt → Value → Bool
  | .non, .none => true
  | .bl b, .bool c => b == c
  | .int i, .int j _ => i == j
  | .str x, .str y _ => x == y
  | _, _ => false
def itsB : List Dt → List Value → Bool
  | [], [] => true
  | d :: ds, v :: vs => itB d v && itsB ds vs
  | _, _ => false
def tupA (K : PySem.W.Frag) (ds : List Dt) (a : Addr) : Bool := match K.lookup a with
  | some ⟨.type t, _, .seq its _, _⟩ => t == "tuple" && itsB ds its.toList && decide (its.size ≤ sizeLine)
  | _ => false
def tupB (K : PySem.W.Frag) : Str × Dt → Bool
  | (x, .tup ds) => (match PySem.W.nsIn K mainGlobals x with
    | some (some (.ref a)) => frc (tupA K ds) a
    | _ => false)
  | _ => true
def conX (T : Tab) (K : PySem.W.Frag) : Bool := T.con.all (tupB K) && (smB K && excX T K)
end Wm
namespace Wm
open PySem PySem.W PySem.Calls PyProof.Rows L2 HandSHeadRun
def grW (g : Addr → Option Obj) (as : List Addr) : List Addr := as.flatMap fun a => match a == mainGlobals || a == builtinsNs || a == sysModules with
  | true => []
  | false => match g a with
    | some o => He.refsD o
    | none => []
def gr0 (g : Addr → Option Obj) : List Addr := match g mainGlobals with
  | some o => He.refsD o
  | none => []
def gr3 (g : Addr → Option Obj) (a b c : List Addr) : List Addr := a ++ (b ++ (c ++ grW g c))
def gr2 (g : Addr → Option Obj) (a b : List Addr) : List Addr := gr3 g a b (grW g b)
def gr1 (g : Addr → Option Obj) (a : List Addr) : List Addr := gr2 g a (grW g a)
/-- what the module's names reach in four steps, told twice where it is reached twice -/
noncomputable def KF (g : Addr → Option Obj) : PySem.W.Frag := He.frG g (sysModules :: mainGlobals :: gr1 g (gr0 g))
/-- what is seen at the end, part by part -/
noncomputable abbrev EndM (r : OpenRow) (M : Nat) (w : World) (os : OsState) : Option SharedT := endF (stepQ (denQ tabQ) r.prog w) M r.prog w os
noncomputable abbrev lookM (r : OpenRow) (M : Nat) (w : World) (os : OsState) : Option Bool := (EndM r M w os).map (fun s => looksF r.prog (boot_heap w.params) s.abs)
noncomputable abbrev seenM (r : OpenRow) (q : Program) (loose : List PySem.Str) (M : Nat) (w : World) (os : OsState) := (EndM r M w os).map (fun s => seenQ q loose (importedModules r.prog.main.body) (fun s => xlAt q [] s && recOk r.toRowW.records s) s.abs)
abbrev goodM (q : Program) (loose : List PySem.Str) := openGood q loose
end Wm


namespace Wm.Hd
open PySem PySem.Spec PyProof.Rows L2
def e_is_whole : Ent := { x := "is_whole", f := 0, N := ((["thing"] : List String).map Str.ofString), ps := ((["thing"] : List String).map Str.ofString), kwd := [], at_ := 4 }
def e_is_within : Ent := { x := "is_within", f := 1, N := ((["thing", "least", "most"] : List String).map Str.ofString), ps := ((["thing", "least", "most"] : List String).map Str.ofString), kwd := [], at_ := 5 }
def e_is_late : Ent := { x := "is_late", f := 49, N := ((["thing", "parts", "word", "part"] : List String).map Str.ofString), ps := ((["thing"] : List String).map Str.ofString), kwd := [], at_ := 9 }
def e_need_late : Ent := { x := "need_late", f := 50, N := ((["thing"] : List String).map Str.ofString), ps := ((["thing"] : List String).map Str.ofString), kwd := [], at_ := 10 }
def e_is_late_memory : Ent := { x := "is_late_memory", f := 51, N := ((["rule", "thing", "age", "left", "count", "span"] : List String).map Str.ofString), ps := ((["rule", "thing"] : List String).map Str.ofString), kwd := [], at_ := 11 }
def e_late_first : Ent := { x := "late_first", f := 53, N := ((["rule"] : List String).map Str.ofString), ps := ((["rule"] : List String).map Str.ofString), kwd := [], at_ := 12 }
def e_is_share : Ent := { x := "is_share", f := 56, N := ((["thing", "steps", "period", "mark", "word", "step"] : List String).map Str.ofString), ps := ((["thing"] : List String).map Str.ofString), kwd := [], at_ := 18 }
def e_need_share : Ent := { x := "need_share", f := 57, N := ((["thing"] : List String).map Str.ofString), ps := ((["thing"] : List String).map Str.ofString), kwd := [], at_ := 19 }
def e_is_share_memory : Ent := { x := "is_share_memory", f := 65, N := ((["rule", "thing", "most", "part", "bound"] : List String).map Str.ofString), ps := ((["rule", "thing"] : List String).map Str.ofString), kwd := [], at_ := 20 }
def e_share_first : Ent := { x := "share_first", f := 58, N := ((["rule"] : List String).map Str.ofString), ps := ((["rule"] : List String).map Str.ofString), kwd := [], at_ := 21 }
def e_is_none : Ent := { x := "is_none", f := 71, N := ((["thing"] : List String).map Str.ofString), ps := ((["thing"] : List String).map Str.ofString), kwd := [], at_ := 24 }
def e_is_rule : Ent := { x := "is_rule", f := 72, N := ((["thing"] : List String).map Str.ofString), ps := ((["thing"] : List String).map Str.ofString), kwd := [], at_ := 25 }
def e_need_rule : Ent := { x := "need_rule", f := 73, N := ((["thing"] : List String).map Str.ofString), ps := ((["thing"] : List String).map Str.ofString), kwd := [], at_ := 26 }
def e_is_memory_of : Ent := { x := "is_memory_of", f := 74, N := ((["rule", "thing"] : List String).map Str.ofString), ps := ((["rule", "thing"] : List String).map Str.ofString), kwd := [], at_ := 27 }
def e_is_memory : Ent := { x := "is_memory", f := 75, N := ((["rule", "thing"] : List String).map Str.ofString), ps := ((["rule", "thing"] : List String).map Str.ofString), kwd := [], at_ := 28 }
def e_first_memory : Ent := { x := "first_memory", f := 78, N := ((["rule"] : List String).map Str.ofString), ps := ((["rule"] : List String).map Str.ofString), kwd := [], at_ := 29 }
def e_law_pot : Ent := { x := "_law_pot", f := 1000, N := ((["_law_script", "_law_k", "_law_cell", "_law_mixed"] : List String).map Str.ofString), ps := ((["_law_script", "_law_k"] : List String).map Str.ofString), kwd := [], at_ := 31 }
def e_law_take : Ent := { x := "_law_take", f := 1001, N := ((["_law_pot_here", "_law_many", "_law_found", "_law_one", "_law_other"] : List String).map Str.ofString), ps := ((["_law_pot_here", "_law_many"] : List String).map Str.ofString), kwd := [], at_ := 32 }
def e_law_late_rule : Ent := { x := "_law_late_rule", f := 1024, N := ((["_law_pot_here", "_law_mark", "_law_span"] : List String).map Str.ofString), ps := ((["_law_pot_here"] : List String).map Str.ofString), kwd := [], at_ := 33 }
def e_law_share_rule : Ent := { x := "_law_share_rule", f := 1025, N := ((["_law_pot_here", "_law_mark", "_law_period", "_law_some", "_law_up"] : List String).map Str.ofString), ps := ((["_law_pot_here"] : List String).map Str.ofString), kwd := [], at_ := 34 }
def e_law_rule : Ent := { x := "_law_rule", f := 1043, N := ((["_law_pot_here", "_law_way"] : List String).map Str.ofString), ps := ((["_law_pot_here"] : List String).map Str.ofString), kwd := [], at_ := 35 }
def e_law_first : Ent := { x := "_law_first", f := 1232, N := ((["_law_rule_here"] : List String).map Str.ofString), ps := ((["_law_rule_here"] : List String).map Str.ofString), kwd := [], at_ := 36 }
def e_law_memory : Ent := { x := "_law_memory", f := 1044, N := ((["_law_pot_here", "_law_rule_here", "_law_some", "_law_phase", "_law_span", "_law_age", "_law_left"] : List String).map Str.ofString), ps := ((["_law_pot_here", "_law_rule_here"] : List String).map Str.ofString), kwd := [], at_ := 37 }
def e_law_odd : Ent := { x := "_law_odd", f := 1237, N := ((["_law_pot_here", "_law_far", "_law_some"] : List String).map Str.ofString), ps := ((["_law_pot_here"] : List String).map Str.ofString), kwd := [], at_ := 38 }
def e_law_spoilt : Ent := { x := "_law_spoilt", f := 1300, N := ((["_law_pot_here", "_law_thing", "_law_depth", "_law_at", "_law_way"] : List String).map Str.ofString), ps := ((["_law_pot_here", "_law_thing", "_law_depth"] : List String).map Str.ofString), kwd := [], at_ := 39 }
def e_law_number : Ent := { x := "_law_number", f := 1045, N := ((["_law_thing", "_law_least", "_law_most"] : List String).map Str.ofString), ps := ((["_law_thing", "_law_least", "_law_most"] : List String).map Str.ofString), kwd := [], at_ := 40 }
def e_law_is_rule : Ent := { x := "_law_is_rule", f := 1233, N := ((["_law_thing", "_law_mosts", "_law_at", "_law_least", "_law_most"] : List String).map Str.ofString), ps := ((["_law_thing"] : List String).map Str.ofString), kwd := [], at_ := 41 }
def e_law_is_memory : Ent := { x := "_law_is_memory", f := 1046, N := ((["_law_rule_here", "_law_thing", "_law_mosts", "_law_at"] : List String).map Str.ofString), ps := ((["_law_rule_here", "_law_thing"] : List String).map Str.ofString), kwd := [], at_ := 42 }
def e_law_right : Ent := { x := "_law_right", f := 1047, N := ((["_law_told", "_law_due"] : List String).map Str.ofString), ps := ((["_law_told", "_law_due"] : List String).map Str.ofString), kwd := [], at_ := 43 }
def e_law : Ent := { x := "law", f := 1407, N := ((["_law_script", "_law_k", "_law_pot_here", "_law_rule_here", "_law_other", "_law_memory_here", "_law_things", "_law_thing"] : List String).map Str.ofString), ps := ((["_law_script"] : List String).map Str.ofString), kwd := [], at_ := 44 }
def es0 : List Ent := [e_is_whole, e_is_within, e_is_late, e_need_late, e_is_late_memory, e_late_first, e_is_share, e_need_share, e_is_share_memory, e_share_first, e_is_none, e_is_rule, e_need_rule, e_is_memory_of, e_is_memory, e_first_memory, e_law_pot, e_law_take, e_law_late_rule, e_law_share_rule, e_law_rule, e_law_first, e_law_memory, e_law_odd, e_law_spoilt, e_law_number, e_law_is_rule, e_law_is_memory, e_law_right, e_law]
def esP : List Ent := es0
def esK : List Ent := []
def es : List Ent := esP ++ esK
def tab : Tab where
  fns := (es.filter fun e => e.cl.isNone).map fun e => (e.x, e.f)
  con := [("LATE", (.str "late")), ("MOST", (.int 99)), ("MOST_OLD", (.int 99)), ("MOST_STEP", (.int 999)), ("NONE", (.tup [.str "none"])), ("SHARE", (.str "share")), ("WHOLE", (.int 1000))]
  cls := [("NoRule", 9)]
  free := ((["abs", "all", "bool", "enumerate", "int", "isinstance", "len", "list", "range", "repr", "str", "tuple", "zip"] : List String).map Str.ofString)
  shp := [(0, 1, []), (1, 3, []), (49, 1, []), (50, 1, []), (51, 2, []), (53, 1, []), (56, 1, []), (57, 1, []), (58, 1, []), (65, 2, []), (71, 1, []), (72, 1, []), (73, 1, []), (74, 2, []), (75, 2, []), (78, 1, []), (1000, 2, []), (1001, 2, []), (1024, 1, []), (1025, 1, []), (1043, 1, []), (1044, 2, []), (1045, 3, []), (1046, 2, []), (1047, 2, []), (1232, 1, []), (1233, 1, []), (1237, 1, []), (1300, 3, []), (1407, 1, [])]
def ns0 : List Str := ((["LineError", "NoRule", "is_whole", "is_within", "LATE", "MOST", "is_late", "need_late", "is_late_memory", "late_first", "SHARE", "WHOLE", "MOST_STEP", "MOST_OLD", "is_share", "need_share", "is_share_memory", "share_first", "NONE", "is_none", "is_rule", "need_rule", "is_memory_of", "is_memory", "first_memory", "_law_pot", "_law_take", "_law_late_rule", "_law_share_rule", "_law_rule"] : List String).map Str.ofString)
def ns1 : List Str := ((["_law_first", "_law_memory", "_law_odd", "_law_spoilt", "_law_number", "_law_is_rule", "_law_is_memory", "_law_right"] : List String).map Str.ofString)
def loose : List Str := ns0 ++ ns1
abbrev R : PySem.W.OpenRow := PySem.W.OpenLaw.row PySem.Challenge.rw_waitmark_k22_rules_and_memories_known
theorem run_1 (w : World) (os : OsState) : lookM R 30000 w os = some true := by
  kernel_rfl
theorem run_2 (w : World) (os : OsState) : seenM R (PySem.W.view R.prog [44]) loose 30000 w os = some (goodM (PySem.W.view R.prog [44]) loose) := by
  kernel_rfl
theorem run_3 (w : World) (os : OsState) : (EndM R 30000 w os).map (fun s => conX tab (KF (HandSHeadRun.getT s))) = some true := by
  kernel_rfl
theorem run_4 (w : World) (os : OsState) : (EndM R 30000 w os).map (fun s => He.obsD (faOf tab) [] (KF (HandSHeadRun.getT s))) = some (He.valD []) := by
  kernel_rfl
theorem run_es0 (w : World) (os : OsState) : (EndM R 30000 w os).map (fun s => He.obsD [] (es0.map (Ent.dd PySem.Challenge.pw_waitmark_k22_rules_and_memories_known)) (KF (HandSHeadRun.getT s))) = some (He.valD (es0.map (Ent.dd PySem.Challenge.pw_waitmark_k22_rules_and_memories_known))) := by
  kernel_rfl
end Wm.Hd

/-! zip(a, b, strict=True) of two tuples of one length -/
namespace Wm.ZS
open PySem
open PySem.Sem (wp)
abbrev ZipS (h : Heap) (z ti to : Addr) (f : Value) : Prop := h.get? z = some { cls := .type "zip", dict := none, data := .fields #[f, .bool false, .bool true, .ref ti, .ref to], slots := #[] }
section
variable {pg : Program} {wd : World} {Ar : Around} {Er : Value → Shared → Prop} {sh : Shared}
theorem noe_item {it tu : Addr} {n : Nat} {vs : Array Value} {v : Value} {Q : Option Value → Shared → Prop} (hi : sh.heap.IsTupleIter it tu n) (ht : sh.heap.IsTuple tu vs) (hv : vs[n]? = some v)
    (q : ∀ hp, hp.IsTupleIter it tu (n + 1) → Heap.SameBut it sh.heap hp → Q (some v) { sh with heap := hp }) : wpAny (model pg wd) Ar (Builtin.SmallTypes.nextOrEnd (.ref it)) Q Er sh := by
  unfold Builtin.SmallTypes.nextOrEnd
  exact wpAny_bind (wpAny_attempt (RZ.nextOf_tuple_item hi ht hv fun hp a b => wpAny_pure (q hp a b)))
theorem noe_end {it tu : Addr} {n : Nat} {vs : Array Value} {Q : Option Value → Shared → Prop} (hd : Ar.handled = none) (hi : sh.heap.IsTupleIter it tu n) (ht : sh.heap.IsTuple tu vs) (hv : vs[n]? = none)
    (q : ∀ hp, Heap.ExtBut it sh.heap hp → Q none { sh with heap := hp }) : wpAny (model pg wd) Ar (Builtin.SmallTypes.nextOrEnd (.ref it)) Q Er sh := by
  unfold Builtin.SmallTypes.nextOrEnd
  refine wpAny_bind (wpAny_attempt (RZ.nextOf_tuple_end hd hi ht hv fun hp e hs he => ?_))
  obtain ⟨o, ho, hc⟩ := he
  refine wpAny_bind (wpAny_isInstance (T := "StopIteration") (b := true) ⟨o, ho, hc⟩ isSubtype_stop ?_)
  exact wpAny_pure (q hp hs)
theorem znext_item {z ti to j1 j2 t1 t2 : Addr} {n1 n2 : Nat} {vs us : Array Value} {v u a b : Value} {Q : Value → Shared → Prop} (D : ZipApart z ti to j1 j2 t1 t2)
    (hz : ZipS sh.heap z ti to .none) (hi : IsPair sh.heap ti (.ref j1) (.ref j2)) (ho : IsPair sh.heap to a b)
    (g1 : sh.heap.IsTupleIter j1 t1 n1) (g2 : sh.heap.IsTupleIter j2 t2 n2) (e1 : sh.heap.IsTuple t1 vs) (e2 : sh.heap.IsTuple t2 us) (hv : vs[n1]? = some v) (hu : us[n2]? = some u)
    (hQ : ∀ hp, ZipS hp z ti to (rawInt sh.heap.objs.size) → IsPair hp to v u → hp.IsTupleIter j1 t1 (n1 + 1) → hp.IsTupleIter j2 t2 (n2 + 1) → IsPair hp sh.heap.objs.size v u → hp.objs.size = sh.heap.objs.size + 1 →
      (∀ d x, d ≠ z → d ≠ to → d ≠ j1 → d ≠ j2 → sh.heap.get? d = some x → hp.get? d = some x) → Q (.ref sh.heap.objs.size) { sh with heap := hp }) :
    wpAny (model pg wd) Ar (Builtin.«zip.__next__» ⟨[.ref z], []⟩) (fun fin s' => ∃ v, fin = .done (.ret v) ∧ Q v s') Er sh := by
  show wpAny _ _ (field (.ref z) 2 >>= _) _ _ _
  refine wpAny_bind (wpAny_field hz rfl (x := .bool true) rfl ?_)
  show wpAny _ _ (field (.ref z) 3 >>= _) _ _ _
  refine wpAny_bind (wpAny_field hz rfl (x := .ref ti) rfl ?_)
  refine wpAny_bind (wpAny_seqItems hi rfl ?_)
  show wpAny _ _ (Builtin.SmallTypes.ownedTupleIsFree (.ref z) >>= _) _ _ _
  refine wpAny_bind ?_
  unfold Builtin.SmallTypes.ownedTupleIsFree
  refine wpAny_bind (wpAny_field hz rfl (x := .none) rfl (wpAny_pure ?_))
  simp only [if_true]
  refine wpAny_bind (wpAny_rule ?_)
  refine wpAny_bind (wpAny_field hz rfl (x := .ref to) rfl ?_)
  refine wpAny_bind (wpAny_setField_rec hz (by simp) fun p1 z1 s1 => ?_)
  replace z1 : ZipS p1 z ti to .ellipsis := z1
  refine wpAny_bind ?_
  simp only [List.zipIdx_cons, List.zipIdx_nil, List.forIn_cons, List.forIn_nil]
  refine wpAny_bind (wpAny_bind (wpAny_onRaise ?_))
  show wpAny _ _ (Builtin.SmallTypes.nextOrEnd (.ref j1)) _ _ _
  refine noe_item (g1.extBut s1.extBut D.i1z) (e1.extBut s1.extBut D.l1z) hv fun p2 g2' s2 => ?_
  have o2 : IsPair p2 to a b := s2.extBut _ _ D.TOi1 (s1.extBut _ _ D.TOz ho)
  refine wpAny_bind (wpAny_seqItems o2 rfl ?_)
  refine wpAny_bind (wpAny_updateSeq_pair o2 fun p3 o3 s3 => ?_)
  replace o3 : IsPair p3 to v b := o3
  refine wpAny_bind (wpAny_letGo (wpAny_pure ?_))
  refine wpAny_bind (wpAny_bind (wpAny_onRaise ?_))
  show wpAny _ _ (Builtin.SmallTypes.nextOrEnd (.ref j2)) _ _ _
  refine noe_item (((g2.extBut s1.extBut D.i2z).extBut s2.extBut D.i12.symm).extBut s3.extBut D.TOi2.symm) (((e2.extBut s1.extBut D.l2z).extBut s2.extBut D.l2i1).extBut s3.extBut D.l2TO) hu fun p4 g4 s4 => ?_
  have o4 : IsPair p4 to v b := s4.extBut _ _ D.TOi2 o3
  refine wpAny_bind (wpAny_seqItems o4 rfl ?_)
  refine wpAny_bind (wpAny_updateSeq_pair o4 fun p5 o5 s5 => ?_)
  replace o5 : IsPair p5 to v u := o5
  refine wpAny_bind (wpAny_letGo (wpAny_pure (wpAny_pure ?_)))
  refine wpAny_bind (wpAny_seqItems o5 rfl ?_)
  refine wpAny_bind (wpAny_newTuple ?_)
  have sz : p5.objs.size = sh.heap.objs.size := by rw [s5.1, s4.1, s3.1, s2.1, s1.1]
  have z5 : ZipS p5 z ti to .ellipsis := s5.extBut _ _ D.TOz.symm (s4.extBut _ _ D.i2z.symm (s3.extBut _ _ D.TOz.symm (s2.extBut _ _ D.i1z.symm z1)))
  have k5 : ∀ d x, d ≠ z → d ≠ to → d ≠ j1 → d ≠ j2 → sh.heap.get? d = some x → p5.get? d = some x := fun d x c1 c2 c3 c4 e =>
    s5.extBut _ _ c2 (s4.extBut _ _ c4 (s3.extBut _ _ c2 (s2.extBut _ _ c3 (s1.extBut _ _ c1 e))))
  have i5 : p5.IsTupleIter j1 t1 (n1 + 1) := ((g2'.extBut s3.extBut D.TOi1.symm).extBut s4.extBut D.i12).extBut s5.extBut D.TOi1.symm
  have i6 : p5.IsTupleIter j2 t2 (n2 + 1) := g4.extBut s5.extBut D.TOi2.symm
  have lz : z < p5.objs.size := Heap.lt_size z5
  show wpAny _ _ (Builtin.SmallTypes.ownedTupleHandOut (.ref z) (.ref p5.objs.size) >>= _) _ _ _
  refine wpAny_bind ?_
  unfold Builtin.SmallTypes.ownedTupleHandOut
  have z6 : ZipS (p5.push { cls := .type "tuple", data := .seq #[v, u] }) z ti to .ellipsis := Heap.get?_push_of_some _ z5
  refine wpAny_bind (wpAny_setField_rec z6 (by simp) fun p7 z7 s7 => ?_)
  replace z7 : ZipS p7 z ti to (rawInt p5.objs.size) := z7
  refine wpAny_setField_rec z7 (by simp) fun p8 z8 s8 => ?_
  replace z8 : ZipS p8 z ti to (rawInt p5.objs.size) := z8
  have up : ∀ d x, d ≠ z → p5.get? d = some x → p8.get? d = some x := fun d x c1 e => s8.extBut _ _ c1 (s7.extBut _ _ c1 (Heap.get?_push_of_some _ e))
  have t8 : IsPair p8 p5.objs.size v u := s8.extBut _ _ (Nat.ne_of_gt lz) (s7.extBut _ _ (Nat.ne_of_gt lz) (Heap.get?_push_size _ rfl))
  have y8 : p8.objs.size = p5.objs.size + 1 := by rw [s8.1, s7.1, Heap.size_push]
  rw [sz] at z8 t8 y8
  refine wpAny_pure ⟨_, rfl, ?_⟩
  show Q (.ref p5.objs.size) _
  rw [sz]
  exact hQ p8 z8 (up _ _ D.TOz o5) (i5.at fun x e => up _ x D.i1z e) (i6.at fun x e => up _ x D.i2z e) t8 y8 fun d x c1 c2 c3 c4 e => up d x c1 (k5 d x c1 c2 c3 c4 e)
theorem znext_end {z ti to j1 j2 t1 t2 : Addr} {n1 n2 : Nat} {vs us : Array Value} {a b : Value} {Q : Fin → Shared → Prop} (hd : Ar.handled = none) (D : ZipApart z ti to j1 j2 t1 t2)
    (hz : ZipS sh.heap z ti to .none) (hi : IsPair sh.heap ti (.ref j1) (.ref j2)) (ho : IsPair sh.heap to a b)
    (g1 : sh.heap.IsTupleIter j1 t1 n1) (g2 : sh.heap.IsTupleIter j2 t2 n2) (e1 : sh.heap.IsTuple t1 vs) (e2 : sh.heap.IsTuple t2 us) (hv : vs[n1]? = none) (hu : us[n2]? = none)
    (hE : ∀ hp e, (∀ d x, d ≠ z → d ≠ to → d ≠ j1 → d ≠ j2 → sh.heap.get? d = some x → hp.get? d = some x) → (∃ o, hp.get? e = some o ∧ o.cls = .type "StopIteration") → Er (.ref e) { sh with heap := hp }) :
    wpAny (model pg wd) Ar (Builtin.«zip.__next__» ⟨[.ref z], []⟩) Q Er sh := by
  show wpAny _ _ (field (.ref z) 2 >>= _) _ _ _
  refine wpAny_bind (wpAny_field hz rfl (x := .bool true) rfl ?_)
  show wpAny _ _ (field (.ref z) 3 >>= _) _ _ _
  refine wpAny_bind (wpAny_field hz rfl (x := .ref ti) rfl ?_)
  refine wpAny_bind (wpAny_seqItems hi rfl ?_)
  show wpAny _ _ (Builtin.SmallTypes.ownedTupleIsFree (.ref z) >>= _) _ _ _
  refine wpAny_bind ?_
  unfold Builtin.SmallTypes.ownedTupleIsFree
  refine wpAny_bind (wpAny_field hz rfl (x := .none) rfl (wpAny_pure ?_))
  simp only [if_true]
  refine wpAny_bind (wpAny_rule ?_)
  refine wpAny_bind (wpAny_field hz rfl (x := .ref to) rfl ?_)
  refine wpAny_bind (wpAny_setField_rec hz (by simp) fun p1 z1 s1 => ?_)
  replace z1 : ZipS p1 z ti to .ellipsis := z1
  refine wpAny_bind ?_
  simp only [List.zipIdx_cons, List.zipIdx_nil, List.forIn_cons, List.forIn_nil]
  refine wpAny_bind (wpAny_bind (wpAny_onRaise ?_))
  show wpAny _ _ (Builtin.SmallTypes.nextOrEnd (.ref j1)) _ _ _
  refine noe_end hd (g1.extBut s1.extBut D.i1z) (e1.extBut s1.extBut D.l1z) hv fun p2 s2 => ?_
  have z2 : ZipS p2 z ti to .ellipsis := s2 _ _ D.i1z.symm z1
  refine wpAny_bind (wpAny_setField_rec z2 (by simp) fun p3 z3 s3 => ?_)
  refine wpAny_bind ?_
  show wpAny _ _ (forIn [(Value.ref j2, 1)] PUnit.unit _ >>= _) _ _ _
  refine wpAny_bind ?_
  simp only [List.forIn_cons, List.forIn_nil]
  have g3 : p3.IsTupleIter j2 t2 n2 := ((g2.extBut s1.extBut D.i2z).extBut s2 D.i12.symm).extBut s3.extBut D.i2z
  have q3 : p3.IsTuple t2 us := ((e2.extBut s1.extBut D.l2z).extBut s2 D.l2i1).extBut s3.extBut D.l2z
  refine wpAny_bind (wpAny_bind (noe_end hd g3 q3 hu fun p4 s4 => ?_))
  show wpAny _ _ (pure (ForInStep.yield PUnit.unit)) _ _ _
  refine wpAny_pure (wpAny_pure ?_)
  refine wpAny_bind (wpAny_rule ?_)
  show wpAny _ _ (newExc (.type "StopIteration") [] >>= _) _ _ _
  refine wpAny_bind ?_
  simp only [newExc, newTuple]
  refine wpAny_bind (wpAny_newObj_type ?_ (by size_fits))
  refine wpAny_bind (m := firstArgMember _ _) (wpAny_of_eq (a := Value.none) (by first | rfl | (simp only [firstArgMember]; rfl)) ?_)
  refine wpAny_newObj_type ?_ (by size_fits)
  simp only [raiseNew]
  refine wpAny_bind (wpAny_handled ?_)
  rw [hd]
  refine wpAny_bind (wpAny_pure (wpAny_throw ?_))
  have kp : ∀ d x, d ≠ z → d ≠ to → d ≠ j1 → d ≠ j2 → sh.heap.get? d = some x → p4.get? d = some x := fun d x c1 c2 c3 c4 e => s4 _ _ c4 (s3.extBut _ _ c1 (s2 _ _ c3 (s1.extBut _ _ c1 e)))
  exact hE _ _ (fun d x c1 c2 c3 c4 e => Heap.get?_push_of_some _ (Heap.get?_push_of_some _ (kp d x c1 c2 c3 c4 e))) ⟨_, Heap.get?_push_size _ rfl, rfl⟩
theorem pnext_item {z ti to j1 j2 t1 t2 : Addr} {n1 n2 : Nat} {vs us : Array Value} {v u a b : Value} {Q : Option Value → Shared → Prop} (D : ZipApart z ti to j1 j2 t1 t2)
    (hz : ZipS sh.heap z ti to .none) (hi : IsPair sh.heap ti (.ref j1) (.ref j2)) (ho : IsPair sh.heap to a b)
    (g1 : sh.heap.IsTupleIter j1 t1 n1) (g2 : sh.heap.IsTupleIter j2 t2 n2) (e1 : sh.heap.IsTuple t1 vs) (e2 : sh.heap.IsTuple t2 us) (hv : vs[n1]? = some v) (hu : us[n2]? = some u)
    (hQ : ∀ hp, ZipS hp z ti to (rawInt sh.heap.objs.size) → IsPair hp to v u → hp.IsTupleIter j1 t1 (n1 + 1) → hp.IsTupleIter j2 t2 (n2 + 1) → IsPair hp sh.heap.objs.size v u → hp.objs.size = sh.heap.objs.size + 1 →
      (∀ d x, d ≠ z → d ≠ to → d ≠ j1 → d ≠ j2 → sh.heap.get? d = some x → hp.get? d = some x) → Q (some (.ref sh.heap.objs.size)) { sh with heap := hp }) :
    wpAny (model pg wd) Ar (pyNext (.ref z)) Q Er sh := by
  have ht : sh.TypeIs (.ref z) "zip" := ⟨_, hz, rfl⟩
  unfold pyNext
  refine wpAny_bind (wpAny_attempt (wpAny_callSpecial?_slot (name := Str.ofString "__next__") ht F.slot_zip_next (wpAny_call_entry F.slot_zip_next ht F.entry_zip_next ?_ (F.args_zip_next_1 _))))
  exact znext_item D hz hi ho g1 g2 e1 e2 hv hu fun hp a1 a2 a3 a4 a5 a6 a7 => wpAny_pure (hQ hp a1 a2 a3 a4 a5 a6 a7)
theorem pnext_end {z ti to j1 j2 t1 t2 : Addr} {n1 n2 : Nat} {vs us : Array Value} {a b : Value} {Q : Option Value → Shared → Prop} (hd : Ar.handled = none) (D : ZipApart z ti to j1 j2 t1 t2)
    (hz : ZipS sh.heap z ti to .none) (hi : IsPair sh.heap ti (.ref j1) (.ref j2)) (ho : IsPair sh.heap to a b)
    (g1 : sh.heap.IsTupleIter j1 t1 n1) (g2 : sh.heap.IsTupleIter j2 t2 n2) (e1 : sh.heap.IsTuple t1 vs) (e2 : sh.heap.IsTuple t2 us) (hv : vs[n1]? = none) (hu : us[n2]? = none)
    (hQ : ∀ hp, (∀ d x, d ≠ z → d ≠ to → d ≠ j1 → d ≠ j2 → sh.heap.get? d = some x → hp.get? d = some x) → Q none { sh with heap := hp }) : wpAny (model pg wd) Ar (pyNext (.ref z)) Q Er sh := by
  have ht : sh.TypeIs (.ref z) "zip" := ⟨_, hz, rfl⟩
  unfold pyNext
  refine wpAny_bind (wpAny_attempt (wpAny_callSpecial?_slot (name := Str.ofString "__next__") ht F.slot_zip_next (wpAny_call_entry F.slot_zip_next ht F.entry_zip_next ?_ (F.args_zip_next_1 _))))
  refine znext_end hd D hz hi ho g1 g2 e1 e2 hv hu fun hp e k he => ?_
  obtain ⟨o, h1, h2⟩ := he
  refine wpAny_bind (wpAny_isInstance (T := "StopIteration") (b := true) ⟨o, h1, h2⟩ isSubtype_stop ?_)
  exact wpAny_pure (hQ hp k)
theorem go_owned {es : List Expr} {x1} {pos : Pos} {z ti to t : Addr} {Q : Unit → Shared → Prop} (hz : ZipS sh.heap z ti to (rawInt t))
    (hQ : ∀ hp, ZipS hp z ti to .none → Heap.SameBut z sh.heap hp → Q () { sh with heap := hp }) : wpAny (model pg wd) Ar (letOwnedTupleGo (.Tuple es x1 pos) (.ref z) (.ref t)) Q Er sh := by
  unfold letOwnedTupleGo
  refine wpAny_bind (wpAny_load hz ?_)
  show wpAny _ _ (ite _ _ _) Q Er sh
  rw [if_pos (by simp)]
  refine wpAny_bind (wpAny_rule ?_)
  show wpAny _ _ (setField (.ref z) 0 .none) Q Er sh
  exact wpAny_setField_rec hz (by simp) fun hp z' s' => hQ hp z' s'
theorem iter_self {z ti to : Addr} {f : Value} {Q : Value → Shared → Prop} (hz : ZipS sh.heap z ti to f) (h : Q (.ref z) sh) : wpAny (model pg wd) Ar (pyIter (.ref z)) Q Er sh := by
  have ht : sh.TypeIs (.ref z) "zip" := ⟨_, hz, rfl⟩
  refine wpAny_pyIter_slot ht F.slot_zip_iter (wpAny_call_entry F.slot_zip_iter ht F.entry_zip_iter ?_ (F.args_zip_iter_1 _))
  show wpAny _ _ (ret (.ref z)) _ _ sh
  exact wpAny_pure ⟨_, rfl, "zip", _, ht, F.slot_zip_next.lookup, h⟩
end
abbrev hS5 (h : Heap) (t1 t2 : Addr) : Heap := (RZ.zipTH4 h t1 t2).push { cls := .type "zip", data := .fields #[.none, .bool false, .bool true, .ref (RZ.zipTH2 h t1 t2).objs.size, .ref (RZ.zipTH3 h t1 t2).objs.size] }
theorem tc_zip (a b c : Value) : checkTypeCall "zip" ⟨[a, b], [(Str.ofString "strict", c)]⟩ = pure () := by kernel_rfl
theorem nc_zip (a b c : Value) : checkBuiltinCall "zip.__new__" ⟨[.type "zip", a, b], [(Str.ofString "strict", c)]⟩ = pure () := by kernel_rfl
theorem oi_zip (o a b c : Value) : argsOk "object.__init__" ⟨[o, a, b], [(Str.ofString "strict", c)]⟩ := by unfold argsOk; kernel_rfl
theorem meets_new (t1 t2 : Addr) (vs us : Array Value) :
    Meets (Builtin.«zip.__new__» ⟨[.type "zip", .ref t1, .ref t2], [(Str.ofString "strict", .bool true)]⟩) (fun _ R s => s.heap.IsTuple t1 vs ∧ s.heap.IsTuple t2 us ∧ R (.ok (.ret (.ref (RZ.zipTH4 s.heap t1 t2).objs.size))) { s with heap := hS5 s.heap t1 t2 }) :=
  .of_wp fun prog w A R s h => by
    obtain ⟨hp, g, d, tk, os⟩ := s
    obtain ⟨a1, a2, h⟩ := h
    have hsub := sub_zip
    have b1 : Heap.IsTuple (Shared.heap ⟨hp, g, d, tk, os⟩) t1 vs := a1
    have b2 : Heap.IsTuple (Shared.heap ⟨hp.push { cls := .type "tuple_iterator", data := .fields #[.ref t1, .int 0 0] }, g, d, tk, os⟩) t2 us := Heap.IsTuple.push a2 _
    have c1 : (Str.ofString "strict" == ("strict" : Str)) = true := by decide +kernel
    have c2 : (Str.ofString "strict" != ("strict" : Str)) = false := by decide +kernel
    have c3 : (("strict" : Str) == Str.ofString "strict") = true := by decide +kernel
    wp_walk using wpAny_pyIter_tuple b1, wpAny_pyIter_tuple b2
    exact ⟨_, rfl, h⟩
section
variable {pg : Program} {wd : World} {Ar : Around} {Er : Value → Shared → Prop} {sh : Shared}
theorem call_new {t1 t2 : Addr} {vs us : Array Value} {Q : Value → Shared → Prop} (a1 : sh.heap.IsTuple t1 vs) (a2 : sh.heap.IsTuple t2 us)
    (h : ∀ hp, ZipS hp (sh.heap.objs.size + 4) (sh.heap.objs.size + 2) (sh.heap.objs.size + 3) .none → IsPair hp (sh.heap.objs.size + 2) (.ref sh.heap.objs.size) (.ref (sh.heap.objs.size + 1)) →
      IsPair hp (sh.heap.objs.size + 3) .none .none → hp.IsTupleIter sh.heap.objs.size t1 0 → hp.IsTupleIter (sh.heap.objs.size + 1) t2 0 →
      (∀ d x, sh.heap.get? d = some x → hp.get? d = some x) → Q (.ref (sh.heap.objs.size + 4)) { sh with heap := hp }) :
    wpAny (model pg wd) Ar (call (.type "zip") [.ref t1, .ref t2] [(Str.ofString "strict", .bool true)]) Q Er sh := by
  refine callType_newKw F.called_zip (by decide) (tc_zip _ _ _) (nc_zip _ _ _) (fun o => oi_zip o _ _ _) F.entry_zip_new (meets_new t1 t2 vs us) ⟨a1, a2, ?_⟩
  have z1 : (RZ.zipTH1 sh.heap t1).objs.size = sh.heap.objs.size + 1 := Heap.size_push ..
  have z2 : (RZ.zipTH2 sh.heap t1 t2).objs.size = sh.heap.objs.size + 2 := by rw [Heap.size_push, z1]
  have z3 : (RZ.zipTH3 sh.heap t1 t2).objs.size = sh.heap.objs.size + 3 := by rw [Heap.size_push, z2]
  have z4 : (RZ.zipTH4 sh.heap t1 t2).objs.size = sh.heap.objs.size + 4 := by rw [Heap.size_push, z3]
  have w5 : (hS5 sh.heap t1 t2).get? (RZ.zipTH4 sh.heap t1 t2).objs.size = some _ := Heap.get?_push_size _ rfl
  have w4 : (hS5 sh.heap t1 t2).get? (RZ.zipTH3 sh.heap t1 t2).objs.size = some _ := Heap.get?_push_of_some _ (Heap.get?_push_size _ rfl)
  have w3 : (hS5 sh.heap t1 t2).get? (RZ.zipTH2 sh.heap t1 t2).objs.size = some _ := Heap.get?_push_of_some _ (Heap.get?_push_of_some _ (Heap.get?_push_size _ rfl))
  have w2 : (hS5 sh.heap t1 t2).get? (RZ.zipTH1 sh.heap t1).objs.size = some _ := Heap.get?_push_of_some _ (Heap.get?_push_of_some _ (Heap.get?_push_of_some _ (Heap.get?_push_size _ rfl)))
  have w1 : (hS5 sh.heap t1 t2).get? sh.heap.objs.size = some _ := Heap.get?_push_of_some _ (Heap.get?_push_of_some _ (Heap.get?_push_of_some _ (Heap.get?_push_of_some _ (Heap.get?_push_size _ rfl))))
  show _ ∧ _
  rw [z2, z3, z4] at w5
  rw [z1, z2] at w3
  rw [z3] at w4
  rw [z1] at w2
  rw [z4]
  exact ⟨⟨_, w5, rfl⟩, h _ w5 w3 w4 ⟨_, w1, rfl, rfl⟩ ⟨_, w2, rfl, rfl⟩ fun d x q => Heap.get?_push_of_some _ (Heap.get?_push_of_some _ (Heap.get?_push_of_some _ (Heap.get?_push_of_some _ (Heap.get?_push_of_some _ q))))⟩
end
theorem cw_tkw {M : Model} {Ar : Around} {Er : Value → Shared → Prop} {sh : Shared} {env : Env} {pos : Pos} {T : String} {e : Expr} {rest : List Expr} {kws : List Keyword} {Q : Value → Shared → Prop}
    (h : wpAny M Ar (spliced (backTo pos (starEach (e :: rest) env))) (fun vs s₁ => wpAny M Ar (evalAll ((backToKw pos (keywordEach kws env)).map (·.2)))
      (fun kvs s₂ => wpAny M Ar (call (.type T) vs (((backToKw pos (keywordEach kws env)).filterMap (·.1)).zip kvs)) Q Er s₂) Er s₁) Er sh)
    (he : backTo pos (starEach (e :: rest) env) = (false, eval e env) :: backTo pos (starEach rest env))
    (hp : (backTo pos (starEach (e :: rest) env)).any (·.1) = false) (ha : (backToKw pos (keywordEach kws env)).all (·.1.isSome) = true) (hk : (backToKw pos (keywordEach kws env)).any (·.1.isNone) = false) :
    wpAny M Ar (callWith pos (.type T) [] (backTo pos (starEach (e :: rest) env)) (backToKw pos (keywordEach kws env))) Q Er sh := by
  have h2 : wpAny M Ar (evalArgs (.type T) true (backTo pos (starEach (e :: rest) env)) (backToKw pos (keywordEach kws env))) (fun a s₁ => wpAny M Ar (call (.type T) ([] ++ a.pos) a.kw) Q Er s₁) Er sh := by
    rw [he] at h ⊢
    exact PyProof.Rows.evalArgs_kwB ha h
  unfold callWith
  refine wpAny_bind (wpAny_holding (wpAny_mono h2 (fun a s1 g => wpAny_bind (wpAny_standAt ?_)) fun _ _ x => x))
  simp only [hp, hk, Bool.or_false]
  refine wpAny_bind (wpAny_pure ?_)
  exact wpAny_bind (wpAny_mono g (fun r s2 hr => wpAny_bind (wpAny_holding (wpAny_point (wpAny_pure hr)))) fun _ _ x => x)
open PySem.Spec PyProof.Rows L2
/-- two tuples of one length, the items in new pairs -/
def ItS (K : PySem.W.Frag) (a b : Addr) : It :=
  ⟨fun i H => ∃ (xs ys : List V) (x y : V), SqT K H a xs ∧ SqT K H b ys ∧ xs[i]? = some x ∧ ys[i]? = some y,
    fun i H v H' => ∃ T x y, v = .ref T ∧ H T = none ∧ H' = upd H T (.tup [x, y]) ∧ (∀ xs, SqT K H a xs → xs[i]? = some x) ∧ ∀ ys, SqT K H b ys → ys[i]? = some y,
    fun i H => ∃ xs ys : List V, SqT K H a xs ∧ SqT K H b ys ∧ xs.length ≤ i ∧ ys.length ≤ i⟩
theorem turn_S {P : Program} {w : World} {K : PySem.W.Frag} {es : List Expr} {kk : Nat} {tp : Pos} {a b z ti to j1 j2 : Addr} (D : ZipApart z ti to j1 j2 a b) :
    Turn P w K (.Tuple es kk tp) (ItS K a b) [z, ti, to, j1, j2] z (fun i h => ZipS h z ti to .none ∧ IsPair h ti (.ref j1) (.ref j2) ∧ (∃ x y, IsPair h to x y) ∧ h.IsTupleIter j1 a i ∧ h.IsTupleIter j2 b i) where
  mem := by simp
  obj := fun i h st c hc => by
    obtain ⟨hz, hi, ⟨x, y, ho⟩, ⟨o1, e1, _, d1⟩, ⟨o2, e2, _, d2⟩⟩ := st
    have cs : c = z ∨ c = ti ∨ c = to ∨ c = j1 ∨ c = j2 := by simpa using hc
    rcases cs with q | q | q | q | q <;> rw [q]
    · exact ⟨_, hz, fun v q => nomatch q⟩
    · exact ⟨_, hi, fun v q => nomatch q⟩
    · exact ⟨_, ho, fun v q => nomatch q⟩
    · exact ⟨o1, e1, fun v q => by rw [d1] at q; cases q⟩
    · exact ⟨o2, e2, fun v q => by rw [d2] at q; cases q⟩
  keep := fun i h h' st k => by
    obtain ⟨hz, hi, ⟨x, y, ho⟩, g1, g2⟩ := st
    exact ⟨k z (by simp) _ hz, k ti (by simp) _ hi, ⟨x, y, k to (by simp) _ ho⟩, g1.at fun o q => k j1 (by simp) o q, g2.at fun o q => k j2 (by simp) o q⟩
  item := by
    intro X hP hw hK hc i pins s σ H E I hf st hg
    subst hP hw hK
    obtain ⟨hz, hi, ⟨x0, y0, ho⟩, g1, g2⟩ := st
    obtain ⟨xs, ys, x, y, qx, qy, hx, hy⟩ := hg
    obtain ⟨its, rv, p, _⟩ := I.tuple qx
    obtain ⟨its2, rv2, p2, _⟩ := I.tuple qy
    obtain ⟨u, hu, ru⟩ := rv.get hx
    obtain ⟨u2, hu2, ru2⟩ := rv2.get hy
    have lz : z < s.heap.objs.size := Heap.lt_size hz
    refine pnext_item D hz hi ho g1 g2 p p2 (v := u) (u := u2) (by simpa using hu) (by simpa using hu2) fun hp z' to' g1' g2' hT sz hk => ?_
    refine ⟨_, rfl, go_owned (sh := { s with heap := hp }) z' fun hq z'' sb => ?_⟩
    have hT2 : hq.get? s.heap.objs.size = some { cls := .type "tuple", data := .seq #[u, u2] } := (sb.2 _ (Nat.ne_of_gt lz)).trans hT
    have new : ObjOk X.prog X.w (upd H s.heap.objs.size (.tup [x, y])) hq s.heap.objs.size (.tup [x, y]) := ⟨by show 2 ≤ sizeLine; decide, [u, u2], .cons ru (.cons ru2 .nil), ⟨_, hT2, rfl, _, rfl⟩⟩
    have I1 : Inv X pins σ (upd H s.heap.objs.size (.tup [x, y])) { s with heap := hq } :=
      I.turnedNew (t' := s.toks) (ch := [z, ti, to, j1, j2]) (fun c o hb q => (sb.2 c (fun q' => hb (by simp [q']))).trans (hk c o (fun q' => hb (by simp [q'])) (fun q' => hb (by simp [q'])) (fun q' => hb (by simp [q'])) (fun q' => hb (by simp [q'])) q)) hf (Nat.le_refl _) new
    refine ⟨.ref s.heap.objs.size, _, I1, rfl, ⟨_, x, y, rfl, I.hok.fresh (Nat.le_refl _), rfl, fun l hl => by rw [I.tuple_inj hl qx]; exact hx, fun l hl => by rw [I.tuple_inj hl qy]; exact hy⟩, ⟨z'', ?_, ⟨u, u2, ?_⟩, ?_, ?_⟩, fun c hcm => ?_⟩
    · exact (sb.2 _ D.TIz).trans (hk _ _ D.TIz D.TITO D.TIi1 D.TIi2 hi)
    · exact (sb.2 _ D.TOz).trans to'
    · exact g1'.at fun o q => (sb.2 _ D.i1z).trans q
    · exact g2'.at fun o q => (sb.2 _ D.i2z).trans q
    · have hlt : c < s.heap.objs.size := by
        have cs : c = z ∨ c = ti ∨ c = to ∨ c = j1 ∨ c = j2 := by simpa using hcm
        rcases cs with q | q | q | q | q <;> rw [q]
        · exact lz
        · exact Heap.lt_size hi
        · exact Heap.lt_size ho
        · obtain ⟨_, e1, _⟩ := g1; exact Heap.lt_size e1
        · obtain ⟨_, e2, _⟩ := g2; exact Heap.lt_size e2
      rw [upd_ne (Nat.ne_of_lt hlt)]
      exact (hf c hcm).1
  done := by
    intro X hP hw hK hc i pins s σ H E I hf st hg
    subst hP hw hK
    obtain ⟨hz, hi, ⟨x0, y0, ho⟩, g1, g2⟩ := st
    obtain ⟨xs, ys, qx, qy, l1, l2⟩ := hg
    obtain ⟨its, rv, p, _⟩ := I.tuple qx
    obtain ⟨its2, rv2, p2, _⟩ := I.tuple qy
    have r1 := rv.length
    have r2 := rv2.length
    exact pnext_end (I.ok.hd hc) D hz hi ho g1 g2 p p2 (by simp; omega) (by simp; omega) fun hp hk => ⟨rfl, I.turnedL (t' := s.toks) (ch := [z, ti, to, j1, j2]) (fun c o hb q =>
      hk c o (fun q' => hb (by simp [q'])) (fun q' => hb (by simp [q'])) (fun q' => hb (by simp [q'])) (fun q' => hb (by simp [q'])) q) hf⟩
  self := fun A i s Q E st h => iter_self st.1 h
def iZS (K : PySem.W.Frag) (ta : TA) : TI := fun σ H R => ta σ H fun vs H1 => ∃ a b xs ys, vs = [.ref a, .ref b] ∧ SqT K H1 a xs ∧ SqT K H1 b ys ∧ R (ItS K a b) H1
theorem pi_S {X : Cx} {e e2 : Expr} {ta : TA} {p pos tpos kp cp : Pos} {ck : Nat} {elts : List Expr} {kk : Nat} (hg : Gl X "zip") (hm : X.mg "zip" = none) (ha : PA X [e, e2] ta)
    (hs : starEach [e, e2] X.env = (false, eval e X.env) :: starEach [e2] X.env) (hpl : (backTo pos (starEach [e2] X.env)).any (·.1) = false) :
    PI X (.Tuple elts kk tpos) (.Call (.Name "zip" p) [e, e2] [⟨some "strict", .Constant (.bool true) ck cp, kp⟩] pos) (iZS X.K ta) := by
  refine ⟨fun pins s σ H R I h => ?_⟩
  refine wpAny_Call_Name_kw (ld_blt I hg hm PyProof.Rows.boot_zip (cw_tkw (thn (ha.run pos pins s σ H _ I h) fun us s1 ⟨vs, H1, I1, r1, q1⟩ => ?_) (by rw [hs]; rfl) (by rw [hs]; show (false || (backTo pos (starEach [e2] X.env)).any (·.1)) = false; rw [hpl]; rfl) rfl rfl))
  obtain ⟨a, b, xs, ys, ex, qx, qy, q⟩ := q1
  subst ex
  cases r1 with
  | cons r rr =>
    cases rr with
    | cons r' rr =>
      cases rr
      cases r
      cases r'
      refine PyProof.Rows.kws_cons (wpAny_pure (PyProof.Rows.kws_nil ?_))
      show wpAny _ _ (call (.type "zip") [.ref a, .ref b] [(Str.ofString "strict", .bool true)]) _ _ s1
      have fresh5 : ∀ c, c ∈ [s1.heap.objs.size + 4, s1.heap.objs.size + 2, s1.heap.objs.size + 3, s1.heap.objs.size, s1.heap.objs.size + 1] → FpOk X pins H1 c := fun c hcm => by
        have cs : c = s1.heap.objs.size + 4 ∨ c = s1.heap.objs.size + 2 ∨ c = s1.heap.objs.size + 3 ∨ c = s1.heap.objs.size ∨ c = s1.heap.objs.size + 1 := by simpa using hcm
        have hle : s1.heap.objs.size ≤ c := by
          rcases cs with z | z | z | z | z <;> (rw [z]; first | exact Nat.le_add_right _ _ | exact Nat.le_refl _)
        exact I1.fpOk hle (I1.hok.fresh hle)
      obtain ⟨its, rv, p1, _⟩ := I1.tuple qx
      obtain ⟨its2, rv2, p2, _⟩ := I1.tuple qy
      obtain ⟨o1, ho1, _⟩ := id p1
      obtain ⟨o2, ho2, _⟩ := id p2
      refine call_new (show s1.heap.IsTuple a its.toArray from p1) (show s1.heap.IsTuple b its2.toArray from p2) fun hp hz hi ho g1 g2 hk => iter_self hz ?_
      have I2 : Inv X pins σ H1 { s1 with heap := hp } := I1.kept (t' := s1.toks) hk
      exact ⟨s1.heap.objs.size + 4, [s1.heap.objs.size + 4, s1.heap.objs.size + 2, s1.heap.objs.size + 3, s1.heap.objs.size, s1.heap.objs.size + 1], _, _, H1, rfl, I2, turn_S (PySem.W.ktu_apart s1.heap.objs.size a b (Heap.lt_size ho1) (Heap.lt_size ho2)), ⟨hz, hi, ⟨_, _, ho⟩, g1, g2⟩, fresh5, q⟩
end Wm.ZS

/-! sorted of a tuple, max with a default, a tuple turned about -/
namespace WmY
open PySem PyProof.Rows SrtO Srt
section
variable {prog : Program} {w : World} {A : Around} {E : Value → Shared → Prop} {s : Shared}
/-- what stands behind the collecting -/
abbrev colH (h : Heap) (vs : List Value) : Heap := (h.push (seqObj "list" #[] 0)).update h.objs.size (Obj.mapSeq (· ++ vs.toArray))
theorem coll_T {t : Addr} {vs : List Value} {Q : List Value → Shared → Prop} (ht : s.heap.IsTuple t vs.toArray) (hz : vs.length ≤ sizeLine) (h : Q vs { s with heap := colH s.heap vs }) : wpAny (model prog w) A (collect (.ref t)) Q E s := by
  obtain ⟨ob, e1, ec, n, ed⟩ := id ht
  have e2 : (s.heap.push (seqObj "list" #[] 0)).get? t = some ob := Heap.get?_push_of_some _ e1
  unfold collect
  refine wpAny_bind (wpAny_runValue (codeAny_builtin entry_proto_collect' ?_))
  show wpAny _ _ (do again (.builtin "list.__iadd__" ⟨[← newList [], .ref t], []⟩)) _ _ s
  refine wpAny_bind (wpAny_newList (wpAny_pure ⟨Code.quiet_builtin _ (by decide +kernel), codeAny_builtin entry_list_iadd' ?_⟩))
  show wpAny _ _ (Builtin.List.listExtendWith (.ref s.heap.objs.size) (.ref t) (.ref s.heap.objs.size)) _ _ { s with heap := s.heap.push (seqObj "list" #[] 0) }
  unfold Builtin.List.listExtendWith
  refine wpAny_bind (wpAny_typeOf (T := "tuple") ⟨ob, e2, ec⟩ ?_)
  have tt : (Value.type "tuple" == Value.type "tuple") = true := by rfl
  rw [if_pos (by rw [tt, Bool.or_true])]
  refine wpAny_bind (listItems_at e2 ed (wpAny_bind (listItems_at (xs := #[]) (n := 0) (Heap.get?_push_size _ rfl) rfl ?_)))
  rw [if_neg (by simp)]
  refine wpAny_bind (listUpdate_at (xs := #[]) (n := 0) (Heap.get?_push_size _ rfl) rfl ?_ (Nat.zero_le _) (by show (#[] ++ vs.toArray).size ≤ sizeLine + 1; rw [Array.size_append, List.size_toArray]; simp; omega))
  refine wpAny_pure ?_
  show wpAny (model prog w) A (do
    let ob ← load s.heap.objs.size
    match ob.data with
    | .seq zs _ => pure zs.toList
    | _ => unsupported "internal:collect") Q E { s with heap := colH s.heap vs }
  refine wpAny_bind (wpAny_load (get?_update_seq (Heap.get?_push_size _ rfl) _) ?_)
  show wpAny _ _ (pure ((#[] : Array Value) ++ vs.toArray).toList) Q E _
  have ez : ((#[] : Array Value) ++ vs.toArray).toList = vs := by simp
  rw [ez]
  exact wpAny_pure h
theorem sortT {t : Addr} {vs : List Value} {ltv : Value → Value → Bool} {Q : Value → Shared → Prop} (O : Swo ltv) (ht : s.heap.IsTuple t vs.toArray) (hz : vs.length ≤ sizeLine)
    (hS : 2 ≤ vs.length → ∀ (h1 : Heap) (a : Addr), h1.get? a = some (seqObj "list" vs.toArray 0) → SortableO prog w A.in1.in1 { s with heap := h1 } a vs ltv)
    (h : ∀ out : List Value, Srtd ltv out → Stb ltv out vs → Q (.ref (s.heap.objs.size + 1)) { s with heap := sortedAll s.heap vs out.toArray }) : wpAny (model prog w) A (call (.builtin "sorted") [.ref t]) Q E s := by
  have e0 : (colH s.heap vs).objs.size = s.heap.objs.size + 1 := by rw [Heap.size_update, size_push']
  have e1 : ((colH s.heap vs).push (seqObj "list" vs.toArray 0)).get? (s.heap.objs.size + 1) = some (seqObj "list" vs.toArray 0) := by rw [← e0]; exact Heap.get?_push_size _ rfl
  refine Calls.call_function_entry kind_sorted plain_sorted entry_sorted (args_sorted1 _) ?_
  unfold Builtin.«sorted»
  refine wpAny_bind (m := checkCount "sorted" 1 1 _) (wpAny_pure (wpAny_bind (coll_T ht hz (wpAny_bind (wpAny_newList ?_ hz)))))
  show wpAny _ _ _ _ _ { s with heap := (colH s.heap vs).push (seqObj "list" vs.toArray 0) }
  rw [e0]
  refine wpAny_bind (wpAny_holding (wpAny_call_entry slot_list_sort ⟨_, e1, rfl⟩ entry_list_sort (list_sort_ord O e1 hz (fun h2 => hS h2 _ _ e1) fun out k1 k2 => ⟨_, rfl, ?_⟩) (args_list_sort _)))
  exact wpAny_pure ⟨_, rfl, h out k1 k2⟩
end
/-! max(xs, default=d) -/
section
variable {prog : Program} {w : World} {A : Around} {R : Result → Shared → Prop} {I : Addr} {fp wr : List Addr} {n : Nat} {P : Nat → Value → Prop} {St : Nat → Heap → Prop} {kw : List (Str × Value)}
abbrev two (v : Value) (c : Nat) : Obj := { cls := .type "list", dict := none, data := .seq #[v, v] c, slots := #[] }
theorem nm : (toString "max" ++ toString ".loop" : String) = "max.loop" := by decide
theorem md_loop (W : Walks prog w A.in1 I fp wr n P St) (bt : Nat → Nat → Bool) (hc : CmpOf prog w A.in1 .Gt P bt) (S : Addr) (hf : S ∉ fp) : ∀ (m j : Nat) (s : Shared) (b : Value) (c : Nat), n - (j + 1) = m → j + 1 ≤ n → St (j + 1) s.heap → P (argBest bt j) b → s.heap.get? S = some (two b c) →
    (∀ v h' tk, P (argBest bt (n - 1)) v → (∀ a o, a ∉ wr → a ≠ S → s.heap.get? a = some o → h'.get? a = some o) → R (.ok (.ret v)) { s with heap := h', toks := tk }) → codeAny (model prog w) A (.builtin "max.loop" ⟨[.ref I, .none, .ref S], kw⟩) R s
  | 0, j, s, b, c, hm, hj, st, pb, hS, hR => by
    have ej : j + 1 = n := by omega
    have hw : S ∉ wr := fun z => hf (W.sub _ z)
    refine codeAny_builtin F.entry_max_loop ?_
    rw [Around.under_plainId F.plain_max_loop _]
    show wpAny _ A.in1 (seqItems? (.ref S) >>= _) _ _ s
    refine wpAny_bind (wpAny_seqItems hS rfl (wpAny_bind (wpAny_tryCatch (W.done s _ _ (ej ▸ st) fun h' tk hk => ?_))))
    refine wpAny_bind (wpAny_updateSeq (hk S _ hw hS) rfl (wpAny_bind (wpAny_letGo (wpAny_pure (hR b _ tk (by rw [← ej]; exact pb) fun a o h1 h2 e => ?_)))))
    exact (Heap.get?_update_other _ _ (Ne.symm h2)).trans (hk a o h1 e)
  | m + 1, j, s, b, c, hm, hj, st, pb, hS, hR => by
    have ej : j + 1 < n := by omega
    have hw : S ∉ wr := fun z => hf (W.sub _ z)
    refine codeAny_builtin F.entry_max_loop ?_
    rw [Around.under_plainId F.plain_max_loop _]
    show wpAny _ A.in1 (seqItems? (.ref S) >>= _) _ _ s
    refine wpAny_bind (wpAny_seqItems hS rfl (wpAny_bind (wpAny_tryCatch (W.item (j + 1) s _ _ ej st fun v h' tk pv st' hk => ?_))))
    have hS' := hk S _ hw hS
    show wpAny _ A.in1 (tryCatch (holding [v, v] (richCompare .Gt v b >>= _)) _ >>= _) _ _ _
    refine wpAny_bind (wpAny_tryCatch (wpAny_holding (wpAny_bind (hc (j + 1) (argBest bt j) v b _ _ _ pv pb (wpAny_bind (wpAny_holding (wpAny_truthy_bool (wpAny_bind (wpAny_letGo (wpAny_pure ?_))))))))))
    cases q : bt (j + 1) (argBest bt j) with
    | false =>
      rw [if_neg (by simp)]
      refine wpAny_bind (wpAny_letGo ?_)
      rw [nm]
      have pn : P (argBest bt (j + 1)) b := by unfold argBest; rw [q]; exact pb
      exact wpAny_pure ⟨plainId_quiet F.plain_max_loop _, md_loop W bt hc S hf m (j + 1) _ b c (by omega) ej st' pn hS' fun u h2 t2 p2 k2 => hR u h2 t2 p2 fun a o h1 hs e => k2 a o h1 hs (hk a o h1 e)⟩
    | true =>
      rw [if_pos rfl]
      refine wpAny_bind (wpAny_updateSeq hS' rfl (wpAny_bind (wpAny_letGo ?_)))
      rw [nm]
      have pn : P (argBest bt (j + 1)) v := by unfold argBest; rw [q]; exact pv
      refine wpAny_pure ⟨plainId_quiet F.plain_max_loop _, md_loop W bt hc S hf m (j + 1) _ v _ (by omega) ej (W.frame _ _ _ st' fun a ha o e => ?_) pn (Heap.get?_update_self _ hS' rfl) fun u h2 t2 p2 k2 => hR u h2 t2 p2 fun a o h1 hs e => k2 a o h1 hs ?_⟩
      · exact (Heap.get?_update_other _ _ (fun z : S = a => hf (z ▸ ha))).trans e
      · exact (Heap.get?_update_other _ _ (Ne.symm hs)).trans (hk a o h1 e)
theorem md_first (W : Walks prog w A.in1 I fp wr n P St) (bt : Nat → Nat → Bool) (hc : CmpOf prog w A.in1 .Gt P bt) (S : Addr) (hf : S ∉ fp) {s : Shared} {c : Nat} {d : Value} (st : St 0 s.heap) (hS : s.heap.get? S = some { cls := .type "list", dict := none, data := .seq #[] c, slots := #[] })
    (h0 : n = 0 → ∀ h' tk, (∀ a o, a ∉ wr → a ≠ S → s.heap.get? a = some o → h'.get? a = some o) → R (.ok (.ret d)) { s with heap := h', toks := tk })
    (hR : 0 < n → ∀ v h' tk, P (argBest bt (n - 1)) v → (∀ a o, a ∉ wr → a ≠ S → s.heap.get? a = some o → h'.get? a = some o) → R (.ok (.ret v)) { s with heap := h', toks := tk }) : codeAny (model prog w) A (.builtin "max.loop" ⟨[.ref I, .none, .ref S], [("default", d)]⟩) R s := by
  have hw : S ∉ wr := fun z => hf (W.sub _ z)
  refine codeAny_builtin F.entry_max_loop ?_
  rw [Around.under_plainId F.plain_max_loop _]
  show wpAny _ A.in1 (seqItems? (.ref S) >>= _) _ _ s
  by_cases hn : n = 0
  · refine wpAny_bind (wpAny_seqItems hS rfl (wpAny_bind (wpAny_tryCatch (W.done s _ _ (hn ▸ st) fun h' tk hk => ?_))))
    exact wpAny_bind (wpAny_rule (wpAny_pure (h0 hn h' tk fun a o h1 _ e => hk a o h1 e)))
  · have hp : 0 < n := by omega
    refine wpAny_bind (wpAny_seqItems hS rfl (wpAny_bind (wpAny_tryCatch (W.item 0 s _ _ hp st fun v h' tk pv st' hk => ?_))))
    have hS' := hk S _ hw hS
    show wpAny _ A.in1 (updateSeq S (fun _ => #[v, v]) >>= _) _ _ _
    refine wpAny_bind ?_
    refine wpAny_updateSeq hS' rfl ?_
    rw [nm]
    refine wpAny_pure ⟨plainId_quiet F.plain_max_loop _, md_loop W bt hc S hf _ 0 _ v _ rfl hp (W.frame _ _ _ st' fun a ha o e => ?_) pv (Heap.get?_update_self _ hS' rfl) fun u h2 t2 p2 k2 => hR hp u h2 t2 p2 fun a o h1 hs e => k2 a o h1 hs ?_⟩
    · exact (Heap.get?_update_other _ _ (fun z : S = a => hf (z ▸ ha))).trans e
    · exact (Heap.get?_update_other _ _ (Ne.symm hs)).trans (hk a o h1 e)
end
section
variable {prog : Program} {w : World} {A : Around} {E : Value → Shared → Prop} {s : Shared} {l : Addr} {its : List Value} {ns : List Int}
theorem args_md (a d : Value) : argsOk "max" ⟨[a], [(Str.ofString "default", d)]⟩ := by unfold argsOk; kernel_rfl
theorem bind_md (d : Value) : Builtin.Builtins.bindParams "max" ["key", "default"] 0 ⟨[], [(Str.ofString "default", d)]⟩ = pure [none, some d] := by kernel_rfl
/-- a built-in function by keywords, which may go on -/
theorem goes_kw {id : String} {b : Builtin} {xs : List Value} {kw : List (Str × Value)} {Q : Value → Shared → Prop} (k0 : builtinKind id = none) (k1 : plainId id = true) (k2 : entryFor table id = some b) (k3 : argsOk id ⟨xs, kw⟩)
    (hb : wpAny (model prog w) A.in1 (b ⟨xs, kw⟩) (fun fin t => match fin with
      | .done f => (match (Except.ok f : Result) with | .ok (.ret v) => Q v t | .ok _ => False | .error e => E e t)
      | .again c => c.quiet = true ∧ codeAny (model prog w) A c (fun r u => match r with | .ok (.ret v) => Q v u | .ok _ => False | .error e => E e u) t) E s) : wpAny (model prog w) A (call (.builtin id) xs kw) Q E s := by
  refine wpAny_call (codeAny_call_builtin k1 k2 ?_)
  simp only [checkBuiltinCall, k0]
  cases q : Manifest.signature? id with
  | none => exact wpAny_pure hb
  | some sg =>
    have k4 : Bind.checkArgs id sg ⟨xs, kw⟩ = pure () := by simpa only [argsOk, q] using k3
    simp only [k4]
    exact wpAny_pure hb
theorem maxd_raw {d : Value} {Q : Value → Shared → Prop} (hh : A.handled = none) (hl : s.heap.IsList l its.toArray) (hi : IntsAre its ns)
    (h0 : ns = [] → ∀ h' tk, (∀ b o, s.heap.get? b = some o → h'.get? b = some o) → Q d { s with heap := h', toks := tk })
    (h : ∀ h' tk M t', (∀ b o, s.heap.get? b = some o → h'.get? b = some o) → M ∈ ns → (∀ a, a ∈ ns → a ≤ M) → Q (.int M t') { s with heap := h', toks := tk }) : wpAny (model prog w) A (call (.builtin "max") [.ref l] [(Str.ofString "default", d)]) Q E s := by
  obtain ⟨xs, e⟩ := hi.allInts.items
  have hn : numsOf (intItems xs).toList = ns := by rw [← e]; exact hi.numsOf
  rw [nums_intItems] at hn
  subst hn
  rw [e] at hl
  refine goes_kw F.kind_max F.plain_max F.entry_max (args_md _ _) ?_
  show wpAny _ A.in1 (Builtin.Builtins.bindParams "max" ["key", "default"] 0 ⟨[], [(Str.ofString "default", d)]⟩ >>= _) _ _ s
  refine wpAny_bind (wpAny_of_eq (bind_md d) (wpAny_bind (wpAny_pure ?_)))
  refine wpAny_bind (iter_intList hl fun s2 e2 st hfp hlI => ?_)
  subst e2
  have W := Walks.list (prog := prog) (w := w) (A := A.in1) hh s.heap.objs.size l hlI (intItems xs)
  refine wpAny_bind (wpAny_newObj_type ?_)
  rw [nm]
  have hsz : (intItems xs).size = xs.size := by simp [intItems]
  generalize hT : s.heap.push { cls := .type "list_iterator", data := .fields #[.ref l, .int 0 0] } = T at st hfp ⊢
  have hlt : l < s.heap.objs.size := by
    obtain ⟨_, q, _⟩ := hl
    exact Heap.lt_size q
  have hTs : T.objs.size = s.heap.objs.size + 1 := by rw [← hT]; exact Heap.size_push _ _
  have old : ∀ (h' : Heap), (∀ a o, a ∉ [s.heap.objs.size] → a ≠ T.objs.size → (T.push { cls := .type "list", data := .seq ([] : List Value).toArray }).get? a = some o → h'.get? a = some o) → ∀ b o, s.heap.get? b = some o → h'.get? b = some o := fun h' hk b o q => by
    have hb := Heap.lt_size q
    refine hk b o (by simpa using Nat.ne_of_lt hb) (by rw [hTs]; exact Nat.ne_of_lt (Nat.lt_succ_of_lt hb)) (Heap.get?_push_of_some _ ?_)
    rw [← hT]
    exact Heap.get?_push_of_some _ q
  have hf : T.objs.size ∉ [s.heap.objs.size, l] := fun z => Nat.lt_irrefl _ (hfp _ z)
  refine wpAny_pure ⟨plainId_quiet F.plain_max_loop _, md_first W (fun i j => decide (numAt xs i > numAt xs j)) (CmpOf.ints_gt (numAt xs) (fun _ _ => intItems_at)) T.objs.size hf (W.frame _ _ _ st fun b _ o q => Heap.get?_push_of_some _ q) (Heap.get?_push_size _ rfl) (fun hz h' tk hk => ?_) fun hz v h' tk hv hk => ?_⟩
  · refine h0 ?_ h' tk (old h' hk)
    rw [hsz] at hz
    simpa using hz
  · rw [hsz] at hv hz
    obtain ⟨t, rfl⟩ := intItems_at hv
    obtain ⟨h1, h2⟩ := argBest_gt (numAt xs) (xs.size - 1)
    refine h h' tk _ t (old h' hk) ?_ fun a ha => ?_
    · rw [numAt_eq]
      exact getD_mem (by rw [List.length_map, Array.length_toList]; omega)
    · obtain ⟨j, hj, rfl⟩ := mem_getD ha
      rw [← numAt_eq]
      refine h2 j ?_
      simp at hj
      omega
end
end WmY

/-! enumerate(tuple) -/
namespace WmE
open PySem PySem.Spec PyProof.Rows L2
open Sem (wp)
open AutoSeq1 (wpAny_loadPart')
theorem meets_enumerate_newT (l : Addr) (items : Array Value) (n : Nat) (dct : Option Addr) (sl : Array (Option Value)) :
    Meets (Builtin.«enumerate.__new__» ⟨[.type "enumerate", .ref l], []⟩) (fun _ R s => s.heap.get? l = some { cls := .type "tuple", dict := dct, data := .seq items n, slots := sl } ∧
      R (.ok (.ret (.ref (s.heap.push { cls := .type "tuple_iterator", data := .fields #[.ref l, .int 0 0] }).objs.size)))
        { s with heap := (s.heap.push { cls := .type "tuple_iterator", data := .fields #[.ref l, .int 0 0] }).push { cls := .type "enumerate", data := .fields #[.none, .bool false, .ref s.heap.objs.size, rawInt 0, .none, .none] } }) :=
  .of_wp fun prog w A R s h => by
    obtain ⟨hp, g, d, tk, os⟩ := s; obtain ⟨hl, h⟩ := h
    have hsub := sub_enumerate
    have hL : Heap.IsTuple (Shared.heap ⟨hp, g, d, tk, os⟩) l items := ⟨_, hl, rfl, n, rfl⟩
    wp_walk using wpAny_loadPart' hl
    refine wpAny_stack_any fun st => wpAny_pure ?_
    split
    · rename_i c _ _ _ _ _
      cases (c == Value.type "enumerate")
      · wp_walk using wpAny_loadPart' hl, wpAny_pyIter_tuple hL
        exact ⟨_, rfl, h⟩
      · wp_walk using wpAny_loadPart' hl, wpAny_pyIter_tuple hL
        exact ⟨_, rfl, h⟩
    · wp_walk using wpAny_loadPart' hl, wpAny_pyIter_tuple hL
      exact ⟨_, rfl, h⟩
section
variable {prog : Program} {w : World} {A : Around} {E : Value → Shared → Prop} {s : Shared}
theorem call_enumerate_tuple {l : Addr} {items : Array Value} {Q : Value → Shared → Prop} (hL : s.heap.IsTuple l items)
    (h : ∀ h', IsEnum h' (s.heap.objs.size + 1) s.heap.objs.size 0 .none → h'.IsTupleIter s.heap.objs.size l 0 → h'.objs.size = s.heap.objs.size + 2 →
      (∀ b o, s.heap.get? b = some o → h'.get? b = some o) → Q (.ref (s.heap.objs.size + 1)) { s with heap := h' }) :
    wpAny (model prog w) A (call (.type "enumerate") [.ref l]) Q E s := by
  obtain ⟨⟨c, dct, dt, sl⟩, hl, hc, n, hd⟩ := hL
  replace hc : c = .type "tuple" := hc
  replace hd : dt = .seq items n := hd
  subst hc hd
  refine callType_new F.called_enumerate (by decide) (F.typeCall_enumerate_1 _) (F.newCall_enumerate_1 _) (fun obj => F.args_object_init_2 obj _) F.entry_enumerate_new
    (meets_enumerate_newT l items n dct sl) ⟨hl, ?_⟩
  have hz : (s.heap.push { cls := .type "tuple_iterator", data := .fields #[.ref l, .int 0 0] }).objs.size = s.heap.objs.size + 1 := Heap.size_push ..
  show _ ∧ _
  rw [hz]
  have he : IsEnum ((s.heap.push { cls := .type "tuple_iterator", data := .fields #[.ref l, .int 0 0] }).push
      { cls := .type "enumerate", data := .fields #[.none, .bool false, .ref s.heap.objs.size, rawInt 0, .none, .none] }) (s.heap.objs.size + 1) s.heap.objs.size 0 .none := by
    have := Heap.get?_push_size (s.heap.push { cls := .type "tuple_iterator", data := .fields #[.ref l, .int 0 0] })
      (o := { cls := .type "enumerate", data := .fields #[.none, .bool false, .ref s.heap.objs.size, rawInt 0, .none, .none] }) rfl
    rw [hz] at this; exact this
  refine ⟨⟨_, he, rfl⟩, h _ he ⟨_, Heap.get?_push_of_some _ (Heap.get?_push_size _ rfl), rfl, rfl⟩ (by rw [Heap.size_push, hz]) fun b o x => Heap.get?_push_of_some _ (Heap.get?_push_of_some _ x)⟩
end
theorem enum_end_tuple {prog : Program} {w : World} {A : Around} {E : Value → Shared → Prop} {s : Shared} {e it t : Addr} {i : Nat} {items : Array Value} {c : Int} {old : Value} {Q : Option Value → Shared → Prop}
    (hh : A.in1.handled = none) (he : IsEnum s.heap e it c old) (hi : s.heap.IsTupleIter it t i) (ht : s.heap.IsTuple t items) (hn : items.size ≤ i)
    (hQ : ∀ h', Heap.ExtBut it s.heap h' → Q none { s with heap := h' }) : wpAny (model prog w) A (pyNext (.ref e)) Q E s := by
  have hT : s.TypeIs (.ref e) "enumerate" := ⟨_, he, rfl⟩
  unfold pyNext
  refine wpAny_bind (wpAny_attempt (wpAny_callSpecial?_slot (name := Str.ofString "__next__") hT F.slot_enumerate_next
    (wpAny_call_entry F.slot_enumerate_next hT F.entry_enumerate_next ?_ (F.args_enumerate_next_1 _))))
  show wpAny _ _ (field (.ref e) 2 >>= _) _ _ _
  refine wpAny_bind (wpAny_field he rfl (x := .ref it) rfl ?_)
  refine wpAny_bind (wpAny_nextOf_tuple_end hh hi ht (by simp; omega) fun h' x he' hx' => ?_)
  obtain ⟨o, ho, hc⟩ := hx'
  refine wpAny_bind (wpAny_isInstance (T := "StopIteration") (b := true) ⟨o, ho, hc⟩ isSubtype_stop ?_)
  exact wpAny_pure (hQ _ he')
/-- the tuple at a, each item in a new pair -/
def IteT (K : PySem.W.Frag) (a : Addr) : It :=
  ⟨fun i H => ∃ (xs : List V) (x : V), SqT K H a xs ∧ xs[i]? = some x, fun i H v H' => ∃ T x, v = .ref T ∧ H T = none ∧ H' = upd H T (.tup [.int (i : Nat), x]) ∧ ∀ xs, SqT K H a xs → xs[i]? = some x, fun i H => ∃ xs : List V, SqT K H a xs ∧ xs.length ≤ i⟩
theorem turn_enumT {P : Program} {w : World} {K : PySem.W.Frag} {elts : List Expr} {kk : Nat} {tpos : Pos} (a e it : Addr) :
    Turn P w K (.Tuple elts kk tpos) (IteT K a) [e, it] e (fun i h => (∃ old, IsEnum h e it ((i : Nat) : Int) old) ∧ h.IsTupleIter it a i ∧ e ≠ it ∧ a ≠ it ∧ e ≠ a) where
  mem := by simp
  obj := fun i h st b hb => by
    obtain ⟨⟨old, he⟩, ⟨o, ho, hc, hd⟩, _⟩ := st
    have e' : b = e ∨ b = it := by simpa using hb
    rcases e' with z | z
    · rw [z]; exact ⟨_, he, fun v q => nomatch q⟩
    · rw [z]; exact ⟨o, ho, fun v q => by rw [hd] at q; cases q⟩
  keep := fun i h h' st k => let ⟨⟨old, he⟩, hi, hne⟩ := st; ⟨⟨old, k e (by simp) _ he⟩, hi.at fun o q => k it (by simp) o q, hne⟩
  item := by
    intro X hP hw hK hc i pins s σ H E I hf st hg
    subst hP hw hK
    obtain ⟨⟨old, he⟩, hit, hne, hne2, hne3⟩ := st
    obtain ⟨xs, x, hq, hx⟩ := hg
    obtain ⟨its, rv, p, hz⟩ := I.tuple hq
    obtain ⟨u, hu, ru⟩ := rv.get hx
    have hel : e < s.heap.objs.size := Heap.lt_size he
    have hil : it < s.heap.objs.size := by obtain ⟨_, q, _⟩ := hit; exact Heap.lt_size q
    have tp : s.heap.IsTuple a its.toArray := p
    have hlt : i < its.toArray.size := by simpa using (List.getElem?_eq_some_iff.mp hu).1
    refine wpAny_pyNext_enum_itemD (Draws.tuple (A := X.A.in1) (show X.A.in1.handled = none from I.ok.hd hc) it a hne2 its.toArray) he ⟨hit, tp⟩ hlt hne (by simp [hne, hne3]) fun u' h' tk hu' ho hst hT hsz hk => ?_
    have eu : u' = u := by
      have : its.toArray[i]? = some u := by simpa using hu
      rw [this] at hu'
      exact (Option.some.inj hu').symm
    subst eu
    refine ⟨_, rfl, wpAny_letOwnedTupleGo_enum (s := { s with heap := h', toks := tk + 1 }) ho fun h'' he' sb => ?_⟩
    have hT2 : h''.get? s.heap.objs.size = some { cls := .type "tuple", data := .seq #[.int i tk, u'] } := (sb.2 _ (Nat.ne_of_gt hel)).trans hT
    have new : ObjOk X.prog X.w (upd H s.heap.objs.size (.tup [.int (i : Nat), x])) h'' s.heap.objs.size (.tup [.int (i : Nat), x]) :=
      ⟨by show 2 ≤ sizeLine; decide, [.int i tk, u'], .cons ⟨_, rfl⟩ (.cons ru .nil), ⟨_, hT2, rfl, _, rfl⟩⟩
    have I1 : L2.Inv X pins σ (upd H s.heap.objs.size (.tup [.int (i : Nat), x])) { s with heap := h'', toks := tk + 1 } :=
      I.turnedNew (ch := [e, it]) (fun b ob hb q => (sb.2 b (fun z => hb (by simp [z]))).trans (hk b ob (fun z => hb (by simp [z])) (fun z => hb (by simp [z])) q)) hf (Nat.le_refl _) new
    refine ⟨.ref s.heap.objs.size, _, I1, rfl, ⟨_, x, rfl, I.hok.fresh (Nat.le_refl _), rfl, fun ys hy => by rw [I.tuple_inj hy hq]; exact hx⟩, ⟨⟨u', ?_⟩, hst.1.at fun o q => (sb.2 it (Ne.symm hne)).trans q, hne, hne2, hne3⟩, fun b hb => ?_⟩
    · have e1 : ((i + 1 : Nat) : Int) = (i : Int) + 1 := by omega
      rw [e1]; exact he'
    · have hb' : b < s.heap.objs.size := by
        have e' : b = e ∨ b = it := by simpa using hb
        rcases e' with z | z
        · rw [z]; exact hel
        · rw [z]; exact hil
      rw [upd_ne (Nat.ne_of_lt hb')]
      exact (hf b hb).1
  done := by
    intro X hP hw hK hc i pins s σ H E I hf st hg
    subst hP hw hK
    obtain ⟨⟨old, he⟩, hit, hne, hne2, hne3⟩ := st
    obtain ⟨xs, hq, hx⟩ := hg
    obtain ⟨its, rv, p, hz⟩ := I.tuple hq
    obtain ⟨f0, f1, f2, f3, f4, f5⟩ := hf it (by simp)
    have hl := rv.length
    have tp : s.heap.IsTuple a its.toArray := p
    exact enum_end_tuple (show X.A.in1.handled = none from I.ok.hd hc) he hit tp (by simp; omega) fun h' eb => ⟨rfl, I.turned (t' := s.toks) (fun b o hb q => eb b o hb q) f0 f1 f3 f4 f5⟩
  self := fun A i s Q E st h => let ⟨⟨_, he⟩, _⟩ := st; wpAny_pyIter_enum he h
def iEnumT (K : PySem.W.Frag) (ta : TA) : TI := fun σ H R => ta σ H fun vs H1 => ∃ a xs, vs = [.ref a] ∧ ((SqL K H1 a xs ∧ R (Ite K a) H1) ∨ (SqT K H1 a xs ∧ R (IteT K a) H1))
theorem pi_enumT {X : Cx} {e : Expr} {ta : TA} {p pos tpos : Pos} {elts : List Expr} {kk : Nat} (hg : Gl X "enumerate") (hm : X.mg "enumerate" = none) (ha : PA X [e] ta) (hs : starEach [e] X.env = [(false, eval e X.env)] := by rfl) :
    PI X (.Tuple elts kk tpos) (.Call (.Name "enumerate" p) [e] [] pos) (iEnumT X.K ta) := by
  refine ⟨fun pins s σ H R I h => ?_⟩
  refine Call_ (ld_blt I hg hm boot_enumerate (PyProof.Rows.callWith_type1 (thn (ha.run pos pins s σ H _ I h) fun us s1 ⟨vs, H1, I1, r1, q1⟩ => ?_) hs rfl))
  obtain ⟨a, xs, ex, q1⟩ := q1
  subst ex
  cases r1 with
  | cons r rr =>
    cases rr
    cases r
    rcases q1 with ⟨hq, q⟩ | ⟨hq, q⟩
    · obtain ⟨its, rv, p', hz⟩ := I1.list hq
      refine call_enumerate_list p'.isList fun h' he hit hsz hk => wpAny_pyIter_enum he ?_
      have I2 : L2.Inv X pins σ H1 { s1 with heap := h' } := I1.kept (t' := s1.toks) hk
      refine ⟨s1.heap.objs.size + 1, [s1.heap.objs.size + 1, s1.heap.objs.size], _, _, H1, rfl, I2, turn_enum a (s1.heap.objs.size + 1) s1.heap.objs.size, ⟨⟨.none, he⟩, hit, Nat.succ_ne_self _⟩, fun b hb => ?_, q⟩
      have e' : b = s1.heap.objs.size + 1 ∨ b = s1.heap.objs.size := by simpa using hb
      have hle : s1.heap.objs.size ≤ b := by
        rcases e' with z | z
        · rw [z]; exact Nat.le_add_right _ _
        · rw [z]; exact Nat.le_refl _
      exact I1.fpOk hle (I1.hok.fresh hle)
    · obtain ⟨its, rv, p', hz⟩ := I1.tuple hq
      have tp : s1.heap.IsTuple a its.toArray := p'
      have hal : a < s1.heap.objs.size := by obtain ⟨_, q, _⟩ := tp; exact Heap.lt_size q
      refine call_enumerate_tuple tp fun h' he hit hsz hk => wpAny_pyIter_enum he ?_
      have I2 : L2.Inv X pins σ H1 { s1 with heap := h' } := I1.kept (t' := s1.toks) hk
      refine ⟨s1.heap.objs.size + 1, [s1.heap.objs.size + 1, s1.heap.objs.size], _, _, H1, rfl, I2, turn_enumT a (s1.heap.objs.size + 1) s1.heap.objs.size, ⟨⟨.none, he⟩, hit, Nat.succ_ne_self _, Nat.ne_of_lt hal, Ne.symm (Nat.ne_of_lt (Nat.lt_succ_of_lt hal))⟩, fun b hb => ?_, q⟩
      have e' : b = s1.heap.objs.size + 1 ∨ b = s1.heap.objs.size := by simpa using hb
      have hle : s1.heap.objs.size ≤ b := by
        rcases e' with z | z
        · rw [z]; exact Nat.le_add_right _ _
        · rw [z]; exact Nat.le_refl _
      exact I1.fpOk hle (I1.hok.fresh hle)
end WmE

/-! t[::-1]; t == (); repr of things with {} in them -/
namespace Wm
open PySem PySem.Spec PyProof.Rows L2
section
variable {prog : Program} {w : World} {A : Around} {E : Value → Shared → Prop} {s : Shared}
theorem filterMap_same {α β : Type} {f g : α → Option β} : ∀ {l : List α}, (∀ x ∈ l, f x = g x) → l.filterMap f = l.filterMap g
  | [], _ => rfl
  | x :: l, h => by
    rw [List.filterMap_cons, List.filterMap_cons, h x List.mem_cons_self, filterMap_same fun y hy => h y (List.mem_cons_of_mem _ hy)]
theorem pick_rev (xs : Array Value) : ((List.range xs.size).filterMap fun (m : Nat) => xs[(((xs.size : Int) - 1) + (m : Int) * (-1)).toNat]?).toArray = xs.toList.reverse.toArray := by
  have e := HT.pick_gen xs.toList.reverse.toArray 0 xs.size
  have e2 : ((List.range xs.size).filterMap fun (m : Nat) => xs[(((xs.size : Int) - 1) + (m : Int) * (-1)).toNat]?) = (List.range xs.size).filterMap fun (m : Nat) => xs.toList.reverse.toArray[(((0 : Nat) : Int) + (m : Int) * 1).toNat]? := by
    refine filterMap_same fun m hm => ?_
    have hm : m < xs.size := by simpa using hm
    have h1 : (((0 : Nat) : Int) + (m : Int) * 1).toNat = m := by omega
    have h2 : (((xs.size : Int) - 1) + (m : Int) * (-1)).toNat = xs.size - 1 - m := by omega
    have h3 : xs.toList.reverse.toArray[m]? = xs.toList.reverse[m]? := by simp
    have h4 : xs[xs.size - 1 - m]? = xs.toList[xs.size - 1 - m]? := by simp
    rw [h1, h2, h3, h4, List.getElem?_reverse (by simpa using hm)]
    simp
  rw [e2, e]
  have : (xs.toList.reverse.toArray.toList.drop 0).take xs.size = xs.toList.reverse := by
    rw [List.drop_zero]
    show xs.toList.reverse.take xs.size = _
    exact List.take_of_length_le (by simp)
  rw [this]
theorem getItem_tuple_rev {t sl : Addr} {items : Array Value} {vl vu vs : Value} {Q : Value → Shared → Prop} (ht : IsTup s.heap t items) (hs : s.heap.IsSliceOf sl vl vu vs) (pl : IsPart vl none) (pu : IsPart vu none) (ps : IsPart vs (some (-1)))
    (h : Q (.ref s.heap.objs.size) { s with heap := s.heap.push { cls := .type "tuple", data := .seq items.toList.reverse.toArray } }) (hsz : items.size ≤ sizeLine) : wpAny (model prog w) A (getItem (.ref t) (.ref sl)) Q E s := by
  have hrev : sizeOk (.seq items.toList.reverse.toArray) := by
    show items.toList.reverse.toArray.size ≤ sizeLine
    rw [List.size_toArray, List.length_reverse, Array.length_toList]
    exact hsz
  obtain ⟨os, hos, hcs, hds⟩ := id hs
  have hTs : s.TypeIs (.ref sl) "slice" := ⟨os, hos, hcs⟩
  unfold getItem
  try with_reducible refine wpAny_holding ?_
  first | refine wpAny_bind (wpAny_pure ?_) | skip
  refine wpAny_bind (wpAny_sequenceKey ht.typeIs (by decide) ?_)
  refine wpAny_bind (wpAny_callSpecial?_slot (name := Str.ofString "__getitem__") ht.typeIs PyProof.Rows.slot_tuple_getitem
    (wpAny_call_entry PyProof.Rows.slot_tuple_getitem ht.typeIs entry_tuple_getitem ?_ (args_tuple_getitem _ _)))
  show wpAny _ _ (Builtin.Tuple.tupleItemsOf (.ref t) >>= _) _ _ s
  refine wpAny_bind (tupleItemsOf_ ht ?_)
  refine wpAny_bind (wpAny_typeOf hTs ?_)
  rw [if_pos (by decide)]
  have app : ∀ {R : Int × Int × Nat → Shared → Prop}, R (((items.size : Int) - 1), -1, items.size) s → wpAny (model prog w) A.in1 (Builtin.Slice.sliceApplied (.ref sl) (pure (items.size : Int))) R E s := fun {R} q => by
    unfold Builtin.Slice.sliceApplied Builtin.Slice.sliceFields
    refine wpAny_bind (wpAny_bind (wpAny_field hos hds (x := vl) rfl (wpAny_bind (wpAny_field hos hds (x := vu) rfl (wpAny_bind (wpAny_field hos hds (x := vs) rfl (wpAny_pure ?_)))))))
    refine wpAny_bind (HT.slicePart_ ps ?_)
    show wpAny _ _ (if ((-1 : Int) == 0) = true then _ else _) _ _ s
    rw [if_neg (by decide)]
    refine wpAny_bind (HT.slicePart_ pl (wpAny_bind (HT.slicePart_ pu (wpAny_bind (wpAny_pure ?_)))))
    show wpAny _ _ (match Builtin.Slice.sliceAdjust none none (-1) (items.size : Int) with | (lo, hi) => pure (lo, (-1 : Int), Builtin.Slice.slicePlaces lo hi (-1))) _ _ s
    have e1 : Builtin.Slice.sliceAdjust none none (-1) (items.size : Int) = ((items.size : Int) - 1, -1) := rfl
    have e2 : Builtin.Slice.slicePlaces ((items.size : Int) - 1) (-1) (-1) = items.size := by
      unfold Builtin.Slice.slicePlaces
      have h1 : ¬ ((-1 : Int) > 0) := by omega
      simp only [h1, if_false]
      split
      · have : (-(-1 : Int)) = 1 := rfl
        rw [this, Int.ediv_one]
        omega
      · omega
    rw [e1]
    show wpAny _ _ (pure ((items.size : Int) - 1, (-1 : Int), Builtin.Slice.slicePlaces ((items.size : Int) - 1) (-1) (-1))) _ _ s
    rw [e2]
    exact wpAny_pure q
  refine wpAny_bind (app ?_)
  have hno : ¬ (((((items.size : Int) - 1) == 0 && (-1 : Int) == 1 && items.size == items.size)) = true) := by
    intro q
    rw [Bool.and_eq_true, Bool.and_eq_true] at q
    exact absurd q.1.2 (by decide)
  show wpAny _ _ (if (((items.size : Int) - 1) == 0 && (-1 : Int) == 1 && items.size == items.size) = true then _ else _) _ _ s
  rw [if_neg hno, pick_rev]
  first
    | exact wpAny_bind (m := Builtin.Tuple.tupleExact _) (wpAny_newObj_type (wpAny_pure ⟨_, rfl, wpAny_pure h⟩) hrev)
    | exact wpAny_bind (m := Builtin.Tuple.tupleExact _) (wpAny_newObj_type (wpAny_bind (wpAny_pure (wpAny_pure ⟨_, rfl, wpAny_pure h⟩))) hrev)
    | exact wpAny_bind (wpAny_bind (m := Builtin.Tuple.tupleExact _) (wpAny_newObj_type (wpAny_pure (wpAny_pure ⟨_, rfl, wpAny_pure h⟩)) hrev))
    | exact wpAny_bind (wpAny_bind (m := Builtin.Tuple.tupleExact _) (wpAny_newObj_type (wpAny_pure ⟨_, rfl, wpAny_pure h⟩) hrev))
end
/-- x[::-1] of a list or a tuple -/
def tRevA (K : PySem.W.Frag) (te : TE) : TE := fun σ H Q => te σ H fun x H1 => ∃ a xs, x = .ref a ∧ ((SqL K H1 a xs ∧ ∀ p, H1 p = none → Q (.ref p) (upd H1 p (.lst xs.reverse))) ∨ (SqT K H1 a xs ∧ ∀ p, H1 p = none → Q (.ref p) (upd H1 p (.tup xs.reverse))))
section
variable {X : Cx}
theorem pe_revA {e : Expr} {te : TE} {k : Nat} {p1 p2 p3 pos : Pos} (he : PE X e te) : PE X (.Subscript e (.Slice none none (some (.UnaryOp .USub (.Constant (.int 1) k p1) p2)) p3) pos) (tRevA X.K te) := by
  refine ⟨fun pins s σ H Q I h => ?_⟩
  refine Subscript_ (thn (he.run pins s σ H _ I h) fun v s1 ⟨x, H1, I1, r1, q1⟩ => ?_)
  obtain ⟨a, xs, ex, q⟩ := q1
  subst ex
  cases r1
  have hst : PO X (some (.UnaryOp .USub (.Constant (.int 1) k p1) p2)) (tPart (tUn (rU fun i => .int (-i)) (tC (.int 1)))) := po_some (pe_un un_neg pe_int)
  refine wpAny_Slice (thn (po_none.run pins s1 σ H1 (fun o H2 => o = none ∧ H2 = H1) I1 ⟨rfl, rfl⟩) fun vl s2 ⟨l, H2, I2, pl, el, e2⟩ => ?_)
  subst el e2
  refine thn (po_none.run pins s2 σ H2 (fun o H3 => o = none ∧ H3 = H2) I2 ⟨rfl, rfl⟩) fun vu s3 ⟨u, H3, I3, pu, eu, e3⟩ => ?_
  subst eu e3
  refine thn (hst.run pins s3 σ H3 (fun o H4 => o = some (-1) ∧ H4 = H3) I3 ⟨1, rfl, -1, rfl, rfl, rfl⟩) fun vs s4 ⟨o, H4, I4, ps, eo, e4⟩ => ?_
  subst eo e4
  have I5 : Inv X pins σ H4 { s4 with heap := s4.heap.push { cls := .type "slice", data := .fields #[vl, vu, vs] } } := I4.kept (t' := s4.toks) fun b ob q => Heap.get?_push_of_some _ q
  show wpAny (model X.prog X.w) X.A (subscriptTail e (.Slice none none (some (.UnaryOp .USub (.Constant (.int 1) k p1) p2)) p3) (.ref a) (.ref s4.heap.objs.size)) (EP X pins σ Q) X.xe { s4 with heap := s4.heap.push { cls := .type "slice", data := .fields #[vl, vu, vs] } }
  rcases q with ⟨hx, q⟩ | ⟨hx, q⟩
  · obtain ⟨its, r, ht, hz⟩ := I5.list hx
    have hlen := r.length
    refine tail_any (ops := [.ref a, .ref s4.heap.objs.size]) ht.isList.typeIs (PySem.slot_list_getitem.lookup) ?_ (by with_unfolding_all rfl)
    refine wpAny_getItem_list_slice ht.isList (Heap.IsSliceOf.new _ vl vu vs) pl pu ps (by decide) ?_ (by rw [List.size_toArray]; omega)
    rw [PySem.W.krv_pick]
    refine ⟨.ref _, _, I5.laid (t' := s4.toks) (o := .lst xs.reverse) (fun b ob q => Heap.get?_push_of_some _ q) (Nat.le_refl _) ?_, rfl, q _ (I5.hok.fresh (Nat.le_refl _))⟩
    exact ⟨by rw [List.length_reverse]; exact hz, _, 0, r.reverse, Heap.get?_push_size _ rfl⟩
  · obtain ⟨its, r, ht, hz⟩ := I5.tuple hx
    have hlen := r.length
    refine tail_any (ops := [.ref a, .ref s4.heap.objs.size]) ht.typeIs (PyProof.Rows.slot_tuple_getitem.lookup) ?_ (by with_unfolding_all rfl)
    refine getItem_tuple_rev ht (Heap.IsSliceOf.new _ vl vu vs) pl pu ps ?_ (by rw [List.size_toArray]; omega)
    refine ⟨.ref _, _, I5.laid (t' := s4.toks) (o := .tup xs.reverse) (fun b ob q => Heap.get?_push_of_some _ q) (Nat.le_refl _) ?_, rfl, q _ (I5.hok.fresh (Nat.le_refl _))⟩
    exact ⟨by rw [List.length_reverse]; exact hz, _, r.reverse, IsTup.new _ _⟩
/-! ### t == () -/
def rEqN (K : PySem.W.Frag) (f : Bool → Bool) : R2 := fun x y H Q => ∃ a b xs, x = .ref a ∧ y = .ref b ∧ SqT K H a xs ∧ SqT K H b [] ∧ Q (.bl (f xs.isEmpty)) H
theorem op_eqN (hu : X.A.units + 64 < cLine) : OpR X (compareOp .Eq) (rEqN X.K id) := by
  intro pins s σ H x y v u Q I rx ry h
  obtain ⟨a, b, xs, rfl, rfl, ha, hb, q⟩ := h
  cases rx
  cases ry
  obtain ⟨its, r, ht, hz⟩ := I.tuple ha
  obtain ⟨its2, r2, ht2, _⟩ := I.tuple hb
  cases r2
  have hl := r.length
  refine (SeqAt.RcAt.tuples (e := fun _ => true) ht ht2 (by omega) (fun j _ h2 => absurd h2 (by simp))) X.prog X.w _ _ ⟨.bl xs.isEmpty, H, I, ?_, q⟩
  show Value.bool _ = Value.bool _
  congr 1
  cases xs with
  | nil =>
    cases its with
    | nil => rfl
    | cons _ _ => cases hl
  | cons x xs =>
    cases its with
    | nil => cases hl
    | cons _ _ => simp
theorem op_neN (hu : X.A.units + 64 < cLine) : OpR X (compareOp .NotEq) (rEqN X.K not) := by
  intro pins s σ H x y v u Q I rx ry h
  obtain ⟨a, b, xs, rfl, rfl, ha, hb, q⟩ := h
  cases rx
  cases ry
  obtain ⟨its, r, ht, hz⟩ := I.tuple ha
  obtain ⟨its2, r2, ht2, _⟩ := I.tuple hb
  cases r2
  have hl := r.length
  refine (SeqAt.RcNeAt.tuples (e := fun _ => true) ht ht2 (by omega) (fun j _ h2 => absurd h2 (by simp))) X.prog X.w _ _ ⟨.bl (!xs.isEmpty), H, I, ?_, q⟩
  show Value.bool _ = Value.bool _
  congr 1
  cases xs with
  | nil =>
    cases its with
    | nil => rfl
    | cons _ _ => cases hl
  | cons x xs =>
    cases its with
    | nil => cases hl
    | cons _ _ => simp
/-! ### things with {} -/
mutual
inductive DpX (K : PySem.W.Frag) (H : Hp) : V → PyData → Prop
  | non : DpX K H .non .none
  | bl (b : Bool) : DpX K H (.bl b) (.bool b)
  | int (i : Int) : DpX K H (.int i) (.int i)
  | str (x : Str) : DpX K H (.str x) (.str x)
  | lst {a : Addr} {xs : List V} {ds : List PyData} : SqL K H a xs → DpXs K H xs ds → DpX K H (.ref a) (.list ds)
  | tup {a : Addr} {xs : List V} {ds : List PyData} : SqT K H a xs → DpXs K H xs ds → DpX K H (.ref a) (.tuple ds)
  | dk {a : Addr} : H a = some (.dK []) → DpX K H (.ref a) (.dict [])
inductive DpXs (K : PySem.W.Frag) (H : Hp) : List V → List PyData → Prop
  | nil : DpXs K H [] []
  | cons {v : V} {vs : List V} {d : PyData} {ds : List PyData} : DpX K H v d → DpXs K H vs ds → DpXs K H (v :: vs) (d :: ds)
end
/-- the book of modules is a dict -/
def SmOk (K : PySem.W.Frag) : Prop := ∃ o, K.lookup sysModules = some o ∧ o.cls = .type "dict"
variable {pins : List (Addr × Obj)} {σ : L2.St} {H : Hp} {s : Shared}
theorem list_far (sm : SmOk X.K) (I : Inv X pins σ H s) {a : Addr} {o : Obj} (h : s.heap.get? a = some o) (hc : o.cls = .type "list") : a ≠ sysModules := fun z => by
  obtain ⟨om, h1, h2⟩ := sm
  have h3 := I.kIn _ _ h1
  rw [z, h3] at h
  cases h
  rw [h2] at hc
  exact absurd hc (by decide)
mutual
theorem DpX.reads (sm : SmOk X.K) (I : Inv X pins σ H s) : ∀ (d : PyData) (v : V) (u : Value), DpX X.K H v d → RelV v u → ∃ as, Reads s.heap u d as ∧ ∀ a ∈ as, a ≠ sysModules
  | .none, _, _, h, r => by
    cases h
    cases r
    exact ⟨_, .none, fun a h => by cases h⟩
  | .bool b, _, _, h, r => by
    cases h
    cases r
    exact ⟨_, .bool b, fun a h => by cases h⟩
  | .int i, _, _, h, r => by
    cases h
    obtain ⟨t, rfl⟩ := r
    exact ⟨_, .int i t, fun a h => by cases h⟩
  | .str x, _, _, h, r => by
    cases h
    obtain ⟨t, rfl⟩ := r
    exact ⟨_, .str x t, fun a h => by cases h⟩
  | .list ds, _, _, h, r => by
    cases h with
    | lst hq hs =>
      cases r
      obtain ⟨its, rv, ⟨o, n, ho, hc, hdn, hd⟩, hz⟩ := I.list hq
      obtain ⟨as, h1, h2⟩ := DpXs.reads sm I ds _ its hs rv
      refine ⟨_, .list ho hc hd h1, fun b hb => ?_⟩
      rcases List.mem_cons.mp hb with rfl | hb
      · exact list_far sm I ho hc
      · exact h2 b hb
  | .tuple ds, _, _, h, r => by
    cases h with
    | tup hq hs =>
      cases r
      obtain ⟨its, rv, ht, hz⟩ := I.tuple hq
      obtain ⟨o, ho, hc, n, hd⟩ := id ht
      obtain ⟨as, h1, h2⟩ := DpXs.reads sm I ds _ its hs rv
      exact ⟨_, .tuple ho hc hd h1, h2⟩
  | .dict kvs, _, _, h, r => by
    cases h with
    | dk hk =>
      cases r
      obtain ⟨_, hne, vs, kv, hd⟩ := dk_of I.hok hk
      cases kv
      obtain ⟨o, es, ep, ho, hx, hdt, _, hp, _⟩ := hd
      have hnil : es.toList = [] := by
        cases e : es.toList with
        | nil => rfl
        | cons a l => rw [e] at hp; cases hp
      refine ⟨[_], .dict (as := []) (bs := []) ho hx.1 hdt (by rw [hnil]; exact .nil) (by rw [hnil]; exact .nil), fun b hb => ?_⟩
      rw [List.mem_singleton.mp hb]
      intro z
      rw [z] at hne
      exact absurd hne (by decide)
theorem DpXs.reads (sm : SmOk X.K) (I : Inv X pins σ H s) : ∀ (ds : List PyData) (vs : List V) (us : List Value), DpXs X.K H vs ds → Vals vs us → ∃ as, ReadsAll s.heap us ds as ∧ ∀ a ∈ as, a ≠ sysModules
  | [], _, _, h, r => by
    cases h
    cases r
    exact ⟨_, .nil, fun a h => by cases h⟩
  | d :: ds, _, _, h, r => by
    cases h with
    | cons h1 h2 =>
      cases r with
      | cons r1 r2 =>
        obtain ⟨as, a1, a2⟩ := DpX.reads sm I d _ _ h1 r1
        obtain ⟨bs, b1, b2⟩ := DpXs.reads sm I ds _ _ h2 r2
        exact ⟨_, .cons a1 b1, fun a ha => (List.mem_append.mp ha).elim (a2 a) (b2 a)⟩
end
end
end Wm

namespace Wm
open PySem PySem.Spec PyProof.Rows L2

inductive Ob where
  | lst (xs : List Dt)
  | frz (xs : List Dt)
  | ins (c : Nat) (fs : List (Str × Dt))
  | dct (kvs : List (Key × Dt))
  | exc (x : Xc)

abbrev Gh := List Ob
abbrev En := List (Option Dt)
abbrev QE := Dt → Gh → Prop
abbrev XQ := Xc → Gh → Prop

structure Kn where
  nx : En → Gh → Prop
  rt : Dt → Gh → Prop
  bk : En → Gh → Prop := fun _ _ => False
  ct : En → Gh → Prop := fun _ _ => False
  xc : Xc → En → Gh → Prop := fun _ _ _ => False

/-- what a for walks: the items, and the lists that must stay as they are meanwhile -/
structure Iv where
  items : List Dt
  watch : List (Nat × List Dt)

/-! ### syntax: one type for all -/
inductive Op2 where
  | add | sub | mul | fdiv | mod | pow | bor | shl | shr | addF
  deriving DecidableEq
inductive Cm where
  | eq | ne | lt | le | gt | ge | is_ | isnot | in_ | notin
  deriving DecidableEq
/-- built-ins, called by name -/
inductive Bi where
  | len | abs | min | max | sum | all | any | int | tuple | list | divmod | sorted | repr | str
  deriving DecidableEq
/-- methods of built-in types -/
inductive Mt where
  | append | extend | pop | popAt | insert | count | index | clear
  deriving DecidableEq
inductive Tg where
  | ty (n : String)
  | own (c : Nat)
  deriving DecidableEq

inductive Cd where
  -- expressions
  | var (i : Nat)
  | kint (i : Int) | kstr (s : Str) | kbl (b : Bool) | knon
  | gk (d : Dt)
  | bin (o : Op2) (a b : Cd)
  | neg (a : Cd)
  | notv (a : Cd)
  | cmp (o : Cm) (a b : Cd)
  | chain (o o2 : Cm) (a b c : Cd)
  | andv (a b : Cd) | orv (a b : Cd)
  | ifx (c a b : Cd)
  | tup (as : Cd) | lst (as : Cd)
  | call (f : Nat) (as : Cd)
  | callk (f : Nat) (as : Cd) (ks : List Str) (ws : Cd)
  | ix (a b : Cd)
  | sl (a lo hi : Cd)
  | bi (b : Bi) (as : Cd)
  | mt (m : Mt) (o : Cd) (as : Cd)
  | isi (a : Cd) (ts : List Tg)
  | comp (elt g it cond : Cd) (own : List Nat)
  | comp2 (elt g it cond g1 it1 cond1 : Cd) (own : List Nat)
  | dic (ks : List Str) (as : Cd)
  | rev (a : Cd) | maxd (a : Cd) (i : Int) | sortr (a : Cd)
  | attr (c : Nat) (o : Cd) (f : Str)
  | meth (c f : Nat) (m : Str) (o as : Cd)
  | mk (c f : Nat) (as : Cd)
  -- tests
  | tand (a b : Cd) | tor (a b : Cd) | tnot (a : Cd) | tval (a : Cd) | ttrue | tcmp (o : Cm) (a b : Cd) | tchain (o o2 : Cm) (a b c : Cd)
  -- lists of expressions, of targets; the empty block
  | nil | cons (a b : Cd)
  -- targets
  | gn (i : Nat) | gt (ts : Cd) | gsub (o i : Cd) | gstar (ts : Cd) | gst (i : Nat) | gattr (c : Nat) (o : Cd) (f : Str)
  -- what is walked
  | iseq (a : Cd) | irange1 (a : Cd) | irange2 (a b : Cd) | irangeD (a b : Cd) | izip (a b : Cd) | izips (a b : Cd) | ienum (a : Cd)
  -- statements
  | asg (g e : Cd)
  | asg2 (g h e : Cd)
  | asg3 (g h i e : Cd)
  | aug (i : Nat) (o : Op2) (e : Cd)
  | ife (c a b : Cd)
  | whl (c b : Cd)
  | forr (g it b : Cd)
  | ret (e : Cd) | retn
  | expr (e : Cd)
  | pass | brk | cnt
  | seq (a b : Cd)
  | raise (c : Nat)
  | raisen (c : Nat) (e : Cd)
  /-- try b except c: s; try b except c as i: s; try a finally f; try a, return e finally f -/
  | tryo (b : Cd) (c : Nat) (s : Cd)
  | trya (b : Cd) (c i : Nat) (s : Cd)
  | tryf (a f : Cd)
  | tryr (a e f : Cd)
  | xnum (o : Cd)
  | auga (c : Nat) (o : Cd) (f : Str) (op : Op2) (e : Cd)
  | dead

/-! ### helpers of the semantics -/
def lstAt (G : Gh) (n : Nat) : Option (List Dt) := match G[n]? with
  | some (.lst xs) => some xs
  | some (.frz xs) => some xs
  | _ => none
def seqOf (G : Gh) : Dt → Option (List Dt)
  | .tup xs => some xs
  | .ref n => lstAt G n
  | _ => none

/-- the lists that are walked stand as they were -/
def Stands (w : List (Nat × List Dt)) (G : Gh) : Prop := ∀ p ∈ w, lstAt G p.1 = some p.2

mutual
def pdN : Nat → Gh → Dt → Option PyData
  | _, _, .non => some .none
  | _, _, .bl b => some (.bool b)
  | _, _, .int i => some (.int i)
  | _, _, .str s => some (.str s)
  | 0, _, _ => none
  | n + 1, G, .tup xs => (pdL n G xs).map PyData.tuple
  | n + 1, G, .ref k => match lstAt G k with
    | some xs => (pdL n G xs).map PyData.list
    | none => none
def pdL : Nat → Gh → List Dt → Option (List PyData)
  | _, _, [] => some []
  | 0, _, _ :: _ => none
  | n + 1, G, x :: xs => match pdN n G x, pdL n G xs with
    | some p, some ps => some (p :: ps)
    | _, _ => none
end

mutual
/-- what a thing is, {} too -/
def pxN : Nat → Gh → Dt → Option PyData
  | _, _, .non => some .none
  | _, _, .bl b => some (.bool b)
  | _, _, .int i => some (.int i)
  | _, _, .str s => some (.str s)
  | 0, _, _ => none
  | n + 1, G, .tup xs => (pxL n G xs).map PyData.tuple
  | n + 1, G, .ref k => match lstAt G k with
    | some xs => (pxL n G xs).map PyData.list
    | none => match G[k]? with
      | some (.dct []) => some (.dict [])
      | _ => none
def pxL : Nat → Gh → List Dt → Option (List PyData)
  | _, _, [] => some []
  | 0, _, _ :: _ => none
  | n + 1, G, x :: xs => match pxN n G x, pxL n G xs with
    | some p, some ps => some (p :: ps)
    | _, _ => none
end

def catD : Dt → Dt → Gh → QE → Prop
  | .int i, .int j, G, Q => Q (.int (i + j)) G
  | .str a, .str b, G, Q => a.length + b.length ≤ sizeLine ∧ Q (.str (a ++ b)) G
  | .tup a, .tup b, G, Q => a.length + b.length ≤ sizeLine ∧ Q (.tup (a ++ b)) G
  | .ref m, .ref n, G, Q => ∃ a b, G[m]? = some (.lst a) ∧ G[n]? = some (.lst b) ∧ a.length + b.length ≤ sizeLine ∧ Q (.ref G.length) (G ++ [.lst (a ++ b)])
  | _, _, _, _ => False
/-- own list + a list that stands as it is -/
def catF : Dt → Dt → Gh → QE → Prop
  | .ref m, .ref n, G, Q => ∃ a b, G[m]? = some (.lst a) ∧ G[n]? = some (.frz b) ∧ a.length + b.length ≤ sizeLine ∧ Q (.ref G.length) (G ++ [.lst (a ++ b)])
  | _, _, _, _ => False
def MulOk (i j : Int) : Prop := CMul i j ∨ CMulX i j
def mulD : Dt → Dt → Gh → QE → Prop
  | .int i, .int j, G, Q => MulOk i j ∧ Q (.int (i * j)) G
  | .ref m, .int k, G, Q => ∃ a, G[m]? = some (.lst a) ∧ 0 ≤ k ∧ k < 2 ^ 62 ∧ a.length * k.toNat ≤ sizeLine ∧ Q (.ref G.length) (G ++ [.lst (List.replicate k.toNat a).flatten])
  | .tup a, .int k, G, Q => a ≠ [] ∧ 0 ≤ k ∧ k ≤ 1000 ∧ a.length ≤ 1000 ∧ Q (.tup (List.replicate k.toNat a).flatten) G
  | _, _, _, _ => False
def intD (C : Int → Int → Prop) (f : Int → Int → Int) : Dt → Dt → Gh → QE → Prop
  | .int i, .int j, G, Q => C i j ∧ Q (.int (f i j)) G
  | _, _, _, _ => False
def PowOk (i j : Int) : Prop := 0 ≤ j ∧ (Builtin.Int.intBits i : Int) * j ≤ 2 ^ 27
def op2D : Op2 → Dt → Dt → Gh → QE → Prop
  | .add => catD
  | .sub => intD (fun _ _ => True) fun i j => i - j
  | .mul => mulD
  | .fdiv => intD CDivW fun i j => i / j
  | .mod => intD (fun _ j => 0 < j) fun i j => i % j
  | .pow => intD PowOk fun i j => i ^ j.toNat
  | .bor => intD (fun _ _ => True) Builtin.bitOr
  | .shl => intD CShl fun i j => i * 2 ^ j.toNat
  | .shr => intD (fun _ j => 0 ≤ j) fun i j => i / 2 ^ j.toNat
  | .addF => catF

/-- + before =, of ints and tuples -/
def iaddD : Dt → Dt → Gh → QE → Prop
  | .int i, .int j, G, Q => Q (.int (i + j)) G
  | .tup a, .tup b, G, Q => a.length + b.length ≤ sizeLine ∧ Q (.tup (a ++ b)) G
  | _, _, _, _ => False
def augD : Op2 → Dt → Dt → Gh → QE → Prop
  | .add => iaddD
  | o => op2D o
def cmpI (f : Int → Int → Bool) : Dt → Dt → (Bool → Prop) → Prop
  | .int i, .int j, Q => Q (f i j)
  | _, _, _ => False
def isNonD : Dt → Bool
  | .non => true
  | _ => false
def isD : Dt → Dt → Option Bool
  | x, .non => some (isNonD x)
  | .bl a, .bl b => some (a == b)
  | _, _ => none
def eqOf (G : Gh) (x y : Dt) (Q : Bool → Prop) : Prop := ((∃ a b, x = .str a ∧ y = .str b ∧ Q (a == b)) ∨ ∃ xs, x = .tup xs ∧ y = .tup [] ∧ Q xs.isEmpty) ∨ ∃ n p q, pdN n G x = some p ∧ pdN n G y = some q ∧ SeqAt.shaped p = true ∧ SeqAt.shaped q = true ∧ Q (PyData.eqv p q)
def flatD : Dt → Bool
  | .tup _ => false
  | .ref _ => false
  | _ => true
/-- == of flat things -/
def eqF : Dt → Dt → Bool
  | .non, .non => true
  | .bl a, .bl b => a == b
  | .bl a, .int b => (if a then 1 else 0) == b
  | .int a, .bl b => a == (if b then 1 else 0)
  | .int a, .int b => a == b
  | .str a, .str b => a == b
  | _, _ => false
def inOf (G : Gh) (x : Dt) : Dt → (Bool → Prop) → Prop
  | .tup ys, Q => flatD x = true ∧ ys.all flatD = true ∧ Q (ys.any fun y => eqF y x)
  | .ref k, Q => ∃ n p ys qs, pdN n G x = some p ∧ lstAt G k = some ys ∧ pdL n G ys = some qs ∧ SeqAt.shaped p = true ∧ SeqAt.shaped (.list qs) = true ∧ Q (qs.any fun z => PyData.eqv z p)
  | _, _ => False
def cmpD : Cm → Dt → Dt → Gh → (Bool → Prop) → Prop
  | .eq, x, y, G, Q => eqOf G x y Q
  | .ne, x, y, G, Q => eqOf G x y fun b => Q !b
  | .lt, x, y, _, Q => cmpI (fun i j => decide (i < j)) x y Q
  | .le, x, y, _, Q => cmpI (fun i j => decide (i ≤ j)) x y Q
  | .gt, x, y, _, Q => cmpI (fun i j => decide (j < i)) x y Q
  | .ge, x, y, _, Q => cmpI (fun i j => decide (j ≤ i)) x y Q
  | .is_, x, y, _, Q => ∃ b, isD x y = some b ∧ Q b
  | .isnot, x, y, _, Q => ∃ b, isD x y = some b ∧ Q !b
  | .in_, x, y, G, Q => inOf G x y Q
  | .notin, x, y, G, Q => inOf G x y fun b => Q !b

def truD (G : Gh) : Dt → Option Bool
  | .non => some false
  | .bl b => some b
  | .int i => some (i != 0)
  | .str _ => none
  | .tup xs => some !xs.isEmpty
  | .ref n => (lstAt G n).map fun xs => !xs.isEmpty

/-- dicts -/
def valG (kvs : List (Key × Dt)) (k : Key) : Option Dt := (kvs.find? fun kv => decide (kv.1 = k)).map (·.2)
def putG (kvs : List (Key × Dt)) (k : Key) (v : Dt) : List (Key × Dt) :=
  if (kvs.any fun kv => decide (kv.1 = k)) = true then kvs.map (fun kv => if kv.1 = k then (kv.1, v) else kv) else kvs ++ [(k, v)]
def mergeG (kvs : List (Key × Dt)) : List (Str × Dt) → List (Key × Dt)
  | [] => kvs
  | (k, v) :: r => mergeG (putG kvs (.inr k) v) r
/-- fields of an instance -/
def putA (f : Str) (d : Dt) : List (Str × Dt) → List (Str × Dt)
  | [] => [(f, d)]
  | (g, x) :: r => if g = f then (g, d) :: r else (g, x) :: putA f d r
def revD : Dt → Gh → QE → Prop
  | .tup xs, G, Q => Q (.tup xs.reverse) G
  | .ref n, G, Q => ∃ xs, lstAt G n = some xs ∧ Q (.ref G.length) (G ++ [.lst xs.reverse])
  | _, _, _ => False
def atD (xs : List Dt) (i : Int) : Option Dt := atI xs i
def ixD : Dt → Dt → Gh → QE → Prop
  | .tup xs, .int i, G, Q => ∃ d, atI xs i = some d ∧ Q d G
  | .ref n, .int i, G, Q => ∃ xs d, lstAt G n = some xs ∧ atI xs i = some d ∧ Q d G
  | .ref n, .str k, G, Q => ∃ kvs d, G[n]? = some (.dct kvs) ∧ valG kvs (.inr k) = some d ∧ Q d G
  | _, _, _, _ => False
def cutD (xs : List Dt) (lo hi : Option Int) : List Dt := (xs.drop (HT.sIx xs.length 0 lo)).take (HT.sIx xs.length xs.length hi - HT.sIx xs.length 0 lo)
def slD : Dt → Option Int → Option Int → Gh → QE → Prop
  | .tup xs, lo, hi, G, Q => Q (.tup (cutD xs lo hi)) G
  | .ref n, lo, hi, G, Q => ∃ xs, lstAt G n = some xs ∧ Q (.ref G.length) (G ++ [.lst (cutD xs lo hi)])
  | _, _, _, _, _ => False

def intsOf : List Dt → Option (List Int)
  | [] => some []
  | .int i :: r => (intsOf r).map (i :: ·)
  | _ :: _ => none
def blsOf : List Dt → Option (List Bool)
  | [] => some []
  | .bl b :: r => (blsOf r).map (b :: ·)
  | _ :: _ => none

def biD : Bi → List Dt → Gh → QE → Prop
  | .len, [d], G, Q => ∃ xs, seqOf G d = some xs ∧ Q (.int xs.length) G
  | .abs, [.int i], G, Q => Q (.int (if i < 0 then -i else i)) G
  | .min, [.int i, .int j], G, Q => Q (.int (if j < i then j else i)) G
  | .max, [.int i, .int j], G, Q => Q (.int (if j > i then j else i)) G
  | .max, [.int i, .int j, .int k], G, Q => Q (.int (if j > i then (if k > j then k else j) else (if k > i then k else i))) G
  | .sum, [.ref n], G, Q => ∃ xs ns, lstAt G n = some xs ∧ intsOf xs = some ns ∧ Q (.int ns.sum) G
  | .max, [.ref n], G, Q => ∃ xs ns, lstAt G n = some xs ∧ intsOf xs = some ns ∧ 0 < ns.length ∧ ∀ m, m ∈ ns → (∀ y, y ∈ ns → y ≤ m) → Q (.int m) G
  | .min, [.ref n], G, Q => ∃ xs ns, lstAt G n = some xs ∧ intsOf xs = some ns ∧ 0 < ns.length ∧ ∀ m, m ∈ ns → (∀ y, y ∈ ns → m ≤ y) → Q (.int m) G
  | .sorted, [d], G, Q => ∃ xs ns, seqOf G d = some xs ∧ intsOf xs = some ns ∧ ∀ ms : List Int, ms.Perm ns → ms.Pairwise (· ≤ ·) → Q (.ref G.length) (G ++ [.lst (ms.map .int)])
  | .all, [.ref n], G, Q => ∃ xs bs, lstAt G n = some xs ∧ blsOf xs = some bs ∧ Q (.bl (bs.all id)) G
  | .any, [.ref n], G, Q => ∃ xs bs, lstAt G n = some xs ∧ blsOf xs = some bs ∧ Q (.bl (bs.any id)) G
  | .int, [.int i], G, Q => Q (.int i) G
  | .int, [.bl b], G, Q => Q (.int (if b then 1 else 0)) G
  | .tuple, [d], G, Q => ∃ xs, seqOf G d = some xs ∧ Q (.tup xs) G
  | .list, [d], G, Q => ∃ xs, seqOf G d = some xs ∧ Q (.ref G.length) (G ++ [.lst xs])
  | .divmod, [.int i, .int j], G, Q => CDiv i j ∧ Q (.tup [.int (i / j), .int (i % j)]) G
  | .repr, [d], G, Q => ∃ n p, pxN n G d = some p ∧ p.showable = true ∧ p.depth ≤ 60 ∧ p.shown.length ≤ sizeLine ∧ Q (.str p.shown) G
  | _, _, _, _ => False

/-- max(xs, default=i) -/
def maxdD (i : Int) : Dt → Gh → QE → Prop
  | .ref n, G, Q => ∃ xs ns, lstAt G n = some xs ∧ intsOf xs = some ns ∧ (ns = [] → Q (.int i) G) ∧ ∀ m, m ∈ ns → (∀ y, y ∈ ns → y ≤ m) → Q (.int m) G
  | _, _, _ => False
/-- sorted(xs, reverse=True) -/
def sortrD : Dt → Gh → QE → Prop
  | .ref n, G, Q => ∃ xs ns, lstAt G n = some xs ∧ intsOf xs = some ns ∧ ∀ ms : List Int, ms.Perm ns → ms.Pairwise (fun a b => b ≤ a) → Q (.ref G.length) (G ++ [.lst (ms.map .int)])
  | _, _, _ => False
def mtD : Mt → Dt → List Dt → Gh → QE → Prop
  | .append, .ref n, [d], G, Q => ∃ xs, G[n]? = some (.lst xs) ∧ xs.length < sizeLine ∧ Q .non (G.set n (.lst (xs ++ [d])))
  | .extend, .ref n, [.ref b], G, Q => ∃ xs zs, G[n]? = some (.lst xs) ∧ G[b]? = some (.lst zs) ∧ xs.length + zs.length ≤ sizeLine ∧ Q .non (G.set n (.lst (xs ++ zs)))
  | .extend, .ref n, [.tup zs], G, Q => ∃ xs, G[n]? = some (.lst xs) ∧ xs.length + zs.length ≤ sizeLine ∧ Q .non (G.set n (.lst (xs ++ zs)))
  | .pop, .ref n, [], G, Q => ∃ xs d, G[n]? = some (.lst xs) ∧ xs[xs.length - 1]? = some d ∧ Q d (G.set n (.lst xs.dropLast))
  | .popAt, .ref n, [.int i], G, Q => ∃ xs d, ∃ k : Nat, G[n]? = some (.lst xs) ∧ i = k ∧ k < 2 ^ 62 ∧ xs[k]? = some d ∧ Q d (G.set n (.lst (xs.eraseIdx k)))
  | .index, .ref n, [.int i], G, Q => ∃ (ns : List Int) (k : Nat), G[n]? = some (.lst (ns.map .int)) ∧ ns[k]? = some i ∧ (∀ m : Nat, m < k → ns[m]? ≠ some i) ∧ Q (.int k) G
  | .index, .ref n, [.bl b], G, Q => ∃ (xs : List Dt) (k : Nat) (z : Dt), G[n]? = some (.lst xs) ∧ xs.all flatD = true ∧ xs[k]? = some z ∧ eqF z (.bl b) = true ∧ (∀ (m : Nat) (y : Dt), m < k → xs[m]? = some y → eqF y (.bl b) = false) ∧ Q (.int k) G
  | .count, .ref n, [d], G, Q => ∃ xs : List Dt, G[n]? = some (.lst xs) ∧ flatD d = true ∧ xs.all flatD = true ∧ Q (.int ((xs.countP fun z => eqF z d : Nat) : Int)) G
  | _, _, _, _, _ => False

/-- a thing's built-in type -/
def tyD (G : Gh) : Dt → Option String
  | .non => some "NoneType"
  | .bl _ => some "bool"
  | .int _ => some "int"
  | .str _ => some "str"
  | .tup _ => some "tuple"
  | .ref k => match G[k]? with
    | some (.lst _) => some "list"
    | some (.dct _) => some "dict"
    | _ => none
/-- isinstance against one class; isa: of own classes -/
def excD (G : Gh) : Dt → Option Xc
  | .ref k => match G[k]? with
    | some (.exc x) => some x
    | _ => none
  | _ => none
def isTy (G : Gh) (isa : Nat → Nat → Bool) (d : Dt) : Tg → Option Bool
  | .ty n => match excD G d with
    | some _ => if n = "ValueError" then some true else none
    | none => (tyD G d).bind fun t => kitB t n
  | .own c => (excD G d).map fun x => isa x.cls c
def isAny (G : Gh) (isa : Nat → Nat → Bool) (d : Dt) : List Tg → Option Bool
  | [] => some false
  | t :: ts => match isTy G isa d t, isAny G isa d ts with
    | some b, some c => some (b || c)
    | _, _ => none

def storeD : Dt → Dt → Dt → Gh → (Gh → Prop) → Prop
  | .ref n, .int k, d, G, Q => ∃ xs j, G[n]? = some (.lst xs) ∧ ixN xs.length k = some j ∧ Q (G.set n (.lst (xs.set j d)))
  | .ref n, .str k, d, G, Q => ∃ kvs, G[n]? = some (.dct kvs) ∧ kvs.length < sizeLine ∧ Q (G.set n (.dct (putG kvs (.inr k) d)))
  | _, _, _, _, _ => False

def isTupD : Dt → Bool
  | .tup _ => true
  | _ => false
/-- a range's items -/
def rangeD (lo hi : Int) : List Dt := (List.range (hi - lo).toNat).map fun (i : Nat) => Dt.int (lo + i)
/-- range(i, j, -1) -/
def downD (hi lo : Int) : List Dt := (List.range (hi - lo).toNat).map fun (i : Nat) => Dt.int (hi - i)
def zipD : List Dt → List Dt → List Dt
  | x :: xs, y :: ys => .tup [x, y] :: zipD xs ys
  | _, _ => []
def enumD : Nat → List Dt → List Dt
  | _, [] => []
  | k, x :: xs => .tup [.int k, x] :: enumD (k + 1) xs
def watchOf : Dt → List Dt → List (Nat × List Dt)
  | .ref n, xs => [(n, xs)]
  | _, _ => []

/-- how many items in a written list -/
def lenA : Cd → Nat
  | .cons _ b => lenA b + 1
  | _ => 0
/-- the slots that a target writes -/
def slotsG : Cd → List Nat
  | .gn i => [i]
  | .gt ts => slotsG ts
  | .gstar ts => slotsG ts
  | .gst i => [i]
  | .cons a b => slotsG a ++ slotsG b
  | _ => []
/-! ### the semantics -/
structure Sm where
  e : En → Gh → QE → XQ → Prop := fun _ _ _ _ => False
  t : En → Gh → (Bool → Gh → Prop) → XQ → Prop := fun _ _ _ _ => False
  a : En → Gh → (List Dt → Gh → Prop) → XQ → Prop := fun _ _ _ _ => False
  g : Dt → En → Gh → (En → Gh → Prop) → XQ → Prop := fun _ _ _ _ _ => False
  gs : List Dt → En → Gh → (En → Gh → Prop) → XQ → Prop := fun _ _ _ _ _ => False
  i : En → Gh → (Iv → Gh → Prop) → XQ → Prop := fun _ _ _ _ => False
  o : En → Gh → (Option Int → Gh → Prop) → XQ → Prop := fun _ _ _ _ => False
  s : En → Gh → Kn → Prop := fun _ _ _ => False

abbrev CallT := Nat → List Dt → Gh → QE → XQ → Prop

def wipeD (env : En) : List Nat → En
  | [] => env
  | v :: vs => (wipeD env vs).set v none

def whileN (t : En → Gh → (Bool → Gh → Prop) → XQ → Prop) (b : En → Gh → Kn → Prop) : Nat → En → Gh → Kn → Prop
  | 0, _, _, _ => False
  | n + 1, env, G, K => t env G (fun c G1 => if c = true then b env G1 { K with nx := fun env2 G2 => whileN t b n env2 G2 K, ct := fun env2 G2 => whileN t b n env2 G2 K, bk := K.nx } else K.nx env G1) fun x G1 => K.xc x env G1
def forD (g : Dt → En → Gh → (En → Gh → Prop) → XQ → Prop) (b : En → Gh → Kn → Prop) (w : List (Nat × List Dt)) : List Dt → En → Gh → Kn → Prop
  | [], env, G, K => Stands w G ∧ K.nx env G
  | x :: xs, env, G, K => Stands w G ∧ g x env G (fun env1 G1 => b env1 G1 { K with nx := fun env2 G2 => forD g b w xs env2 G2 K, ct := fun env2 G2 => forD g b w xs env2 G2 K, bk := K.nx }) fun _ _ => False
/-- a comprehension's turns, the new list at n: what is made so far, then the rest -/
def compD (g : Dt → En → Gh → (En → Gh → Prop) → XQ → Prop) (c : En → Gh → (Bool → Gh → Prop) → XQ → Prop) (e : En → Gh → QE → XQ → Prop) (w : List (Nat × List Dt)) (own : List Nat) (env : En) (n : Nat) : List Dt → List Dt → Gh → (Gh → Prop) → Prop
  | [], acc, G, Q => Stands w G ∧ G[n]? = some (.lst acc) ∧ Q G
  | x :: xs, acc, G, Q => Stands w G ∧ g x (wipeD env own) G (fun env1 G1 => c env1 G1 (fun b G2 => if b = true then e env1 G2 (fun d G3 => G3[n]? = some (.lst acc) ∧ acc.length < sizeLine ∧ compD g c e w own env n xs (acc ++ [d]) (G3.set n (.lst (acc ++ [d]))) Q) (fun _ _ => False) else compD g c e w own env n xs acc G2 Q) fun _ _ => False) fun _ _ => False

/-- the inner turns of a comprehension of two clauses: what is made so far, then what comes behind -/
def compIn (g : Dt → En → Gh → (En → Gh → Prop) → XQ → Prop) (c : En → Gh → (Bool → Gh → Prop) → XQ → Prop) (e : En → Gh → QE → XQ → Prop) (w : List (Nat × List Dt)) (vs : List Nat) (n : Nat) (env : En) : List Dt → List Dt → Gh → (List Dt → Gh → Prop) → Prop
  | [], acc, G, N => Stands w G ∧ N acc G
  | x :: xs, acc, G, N => Stands w G ∧ g x (wipeD env vs) G (fun env1 G1 => c env1 G1 (fun b G2 => if b = true then e env1 G2 (fun d G3 => G3[n]? = some (.lst acc) ∧ acc.length < sizeLine ∧ compIn g c e w vs n env xs (acc ++ [d]) (G3.set n (.lst (acc ++ [d]))) N) (fun _ _ => False) else compIn g c e w vs n env xs acc G2 N) fun _ _ => False) fun _ _ => False
def compD2 (g : Dt → En → Gh → (En → Gh → Prop) → XQ → Prop) (c : En → Gh → (Bool → Gh → Prop) → XQ → Prop) (it1 : En → Gh → (Iv → Gh → Prop) → XQ → Prop) (g1 : Dt → En → Gh → (En → Gh → Prop) → XQ → Prop) (c1 : En → Gh → (Bool → Gh → Prop) → XQ → Prop) (e : En → Gh → QE → XQ → Prop) (w : List (Nat × List Dt)) (own vs : List Nat) (env : En) (n : Nat) : List Dt → List Dt → Gh → (Gh → Prop) → Prop
  | [], acc, G, Q => Stands w G ∧ G[n]? = some (.lst acc) ∧ Q G
  | x :: xs, acc, G, Q => Stands w G ∧ g x (wipeD env own) G (fun env1 G1 => c env1 G1 (fun b G2 => if b = true then it1 env1 G2 (fun J1 G3 => compIn g1 c1 e J1.watch vs n env1 J1.items acc G3 fun acc' G4 => compD2 g c it1 g1 c1 e w own vs env n xs acc' G4 Q) (fun _ _ => False) else compD2 g c it1 g1 c1 e w own vs env n xs acc G2 Q) fun _ _ => False) fun _ _ => False
def sem (call : CallT) (kw : Nat → List Dt → List Str → List Dt → List Dt) (isa : Nat → Nat → Bool) : Cd → Sm
  | .var i => { e := fun env G Q _ => ∃ d, env[i]? = some (some d) ∧ Q d G }
  | .kint i => { e := fun _ G Q _ => Q (.int i) G, o := fun _ G Q _ => Q (some i) G }
  | .kstr s => { e := fun _ G Q _ => Q (.str s) G }
  | .kbl b => { e := fun _ G Q _ => Q (.bl b) G }
  | .knon => { e := fun _ G Q _ => Q .non G }
  | .gk d => { e := fun _ G Q _ => Q d G }
  | .bin o a b => { e := fun env G Q E => (sem call kw isa a).e env G (fun x G1 => (sem call kw isa b).e env G1 (fun y G2 => op2D o x y G2 Q) E) E }
  | .neg a => { e := fun env G Q E => (sem call kw isa a).e env G (fun x G1 => ∃ i, x = .int i ∧ Q (.int (-i)) G1) E }
  | .notv a => { e := fun env G Q E => (sem call kw isa a).e env G (fun x G1 => ∃ b, truD G1 x = some b ∧ Q (.bl !b) G1) E }
  | .cmp o a b => { e := fun env G Q E => (sem call kw isa a).e env G (fun x G1 => (sem call kw isa b).e env G1 (fun y G2 => cmpD o x y G2 fun c => Q (.bl c) G2) E) E }
  | .chain o o2 a b c => { e := fun env G Q E => (sem call kw isa a).e env G (fun x G1 => (sem call kw isa b).e env G1 (fun y G2 => cmpD o x y G2 fun k => if k = true then (sem call kw isa c).e env G2 (fun z G3 => cmpD o2 y z G3 fun k2 => Q (.bl k2) G3) E else Q (.bl false) G2) E) E }
  | .andv a b => { e := fun env G Q E => (sem call kw isa a).e env G (fun x G1 => ∃ c, x = .bl c ∧ if c = true then (sem call kw isa b).e env G1 Q E else Q (.bl false) G1) E }
  | .orv a b => { e := fun env G Q E => (sem call kw isa a).e env G (fun x G1 => ∃ c, x = .bl c ∧ if c = true then Q (.bl true) G1 else (sem call kw isa b).e env G1 Q E) E }
  | .ifx c a b => { e := fun env G Q E => (sem call kw isa c).t env G (fun k G1 => if k = true then (sem call kw isa a).e env G1 Q E else (sem call kw isa b).e env G1 Q E) E }
  | .tup as => { e := fun env G Q E => (sem call kw isa as).a env G (fun xs G1 => xs.length ≤ sizeLine ∧ Q (.tup xs) G1) E }
  | .lst as => { e := fun env G Q E => (sem call kw isa as).a env G (fun xs G1 => xs.length ≤ sizeLine ∧ Q (.ref G1.length) (G1 ++ [.lst xs])) E }
  | .call f as => { e := fun env G Q E => (sem call kw isa as).a env G (fun xs G1 => call f (kw f xs [] []) G1 Q E) E }
  | .callk f as ks ws => { e := fun env G Q E => (sem call kw isa as).a env G (fun xs G1 => (sem call kw isa ws).a env G1 (fun ys G2 => call f (kw f xs ks ys) G2 Q E) E) E }
  | .ix a b => { e := fun env G Q E => (sem call kw isa a).e env G (fun x G1 => (sem call kw isa b).e env G1 (fun y G2 => ixD x y G2 Q) E) E }
  | .sl a lo hi => { e := fun env G Q E => (sem call kw isa a).e env G (fun x G1 => (sem call kw isa lo).o env G1 (fun l G2 => (sem call kw isa hi).o env G2 (fun h G3 => slD x l h G3 Q) E) E) E }
  | .bi b as => { e := fun env G Q E => (sem call kw isa as).a env G (fun xs G1 => biD b xs G1 Q) E }
  | .mt m o as => { e := fun env G Q E => (sem call kw isa o).e env G (fun x G1 => (∃ n ys, x = .ref n ∧ lstAt G1 n = some ys) ∧ (sem call kw isa as).a env G1 (fun xs G2 => mtD m x xs G2 Q) E) E }
  | .isi a ts => { e := fun env G Q E => (sem call kw isa a).e env G (fun x G1 => ∃ b, isAny G1 isa x ts = some b ∧ Q (.bl b) G1) E }
  | .comp elt g it cond own => { e := fun env G Q E => (sem call kw isa it).i env G (fun J G1 => compD (sem call kw isa g).g (sem call kw isa cond).t (sem call kw isa elt).e J.watch own env G1.length J.items [] (G1 ++ [.lst []]) fun G2 => Q (.ref G1.length) G2) E }
  | .comp2 elt g it cond g1 it1 cond1 own => { e := fun env G Q E => (sem call kw isa it).i env G (fun J G1 => compD2 (sem call kw isa g).g (sem call kw isa cond).t (sem call kw isa it1).i (sem call kw isa g1).g (sem call kw isa cond1).t (sem call kw isa elt).e J.watch own (slotsG g1) env G1.length J.items [] (G1 ++ [.lst []]) fun G2 => Q (.ref G1.length) G2) E }
  | .dic ks as => { e := fun env G Q E => (sem call kw isa as).a env (G ++ [.dct []]) (fun xs G1 => G1[G.length]? = some (.dct []) ∧ ks.length = xs.length ∧ ks.length ≤ 15 ∧ Q (.ref G.length) (G1.set G.length (.dct (mergeG [] (ks.zip xs))))) E }
  | .rev a => { e := fun env G Q E => (sem call kw isa a).e env G (fun x G1 => revD x G1 Q) E }
  | .maxd a i => { e := fun env G Q E => (sem call kw isa a).e env G (fun x G1 => maxdD i x G1 Q) E }
  | .sortr a => { e := fun env G Q E => (sem call kw isa a).e env G (fun x G1 => sortrD x G1 Q) E }
  | .attr c o f => { e := fun env G Q E => (sem call kw isa o).e env G (fun x G1 => ∃ n fs, x = .ref n ∧ G1[n]? = some (.ins c fs) ∧ ∃ d, fs.lookup f = some d ∧ Q d G1) E }
  | .meth c f m o as => { e := fun env G Q E => (sem call kw isa o).e env G (fun x G1 => ∃ n fs, x = .ref n ∧ G1[n]? = some (.ins c fs) ∧ fs.lookup m = none ∧ (sem call kw isa as).a env G1 (fun xs G2 => call f (kw f (x :: xs) [] []) G2 Q E) E) E }
  | .mk c f as => { e := fun env G Q E => (sem call kw isa as).a env G (fun xs G1 => call f (kw f (.ref G1.length :: xs) [] []) (G1 ++ [.ins c []]) (fun v G2 => v = .non ∧ Q (.ref G1.length) G2) E) E }
  | .tand a b => { t := fun env G Q E => (sem call kw isa a).t env G (fun c G1 => if c = true then (sem call kw isa b).t env G1 Q E else Q false G1) E }
  | .tor a b => { t := fun env G Q E => (sem call kw isa a).t env G (fun c G1 => if c = true then Q true G1 else (sem call kw isa b).t env G1 Q E) E }
  | .tnot a => { t := fun env G Q E => (sem call kw isa a).t env G (fun c G1 => Q (!c) G1) E }
  | .tval a => { t := fun env G Q E => (sem call kw isa a).e env G (fun x G1 => ∃ b, truD G1 x = some b ∧ Q b G1) E }
  | .ttrue => { t := fun _ G Q _ => Q true G }
  | .tcmp o a b => { t := fun env G Q E => (sem call kw isa a).e env G (fun x G1 => (sem call kw isa b).e env G1 (fun y G2 => cmpD o x y G2 fun c => Q c G2) E) E }
  | .tchain o o2 a b c => { t := fun env G Q E => (sem call kw isa a).e env G (fun x G1 => (sem call kw isa b).e env G1 (fun y G2 => cmpD o x y G2 fun k => if k = true then (sem call kw isa c).e env G2 (fun z G3 => cmpD o2 y z G3 fun k2 => Q k2 G3) E else Q false G2) E) E }
  | .nil => { a := fun _ G Q _ => Q [] G, gs := fun xs env G Q _ => xs = [] ∧ Q env G, o := fun _ G Q _ => Q none G, s := fun env G K => K.nx env G }
  | .cons a b => { a := fun env G Q E => (sem call kw isa a).e env G (fun x G1 => (sem call kw isa b).a env G1 (fun xs G2 => Q (x :: xs) G2) E) E
                   gs := fun xs env G Q E => ∃ d r, xs = d :: r ∧ (sem call kw isa a).g d env G (fun env1 G1 => (sem call kw isa b).gs r env1 G1 Q E) E
                   o := fun env G Q E => (sem call kw isa a).e env G (fun x G1 => ∃ i, x = .int i ∧ Q (some i) G1) E }
  | .gn i => { g := fun d env G Q _ => Q (env.set i (some d)) G }
  | .gt ts => { g := fun d env G Q E => ∃ xs, seqOf G d = some xs ∧ xs.length = lenA ts ∧ (sem call kw isa ts).gs xs env G Q E }
  | .gsub o i => { g := fun d env G Q E => (sem call kw isa o).e env G (fun x G1 => (sem call kw isa i).e env G1 (fun y G2 => storeD x y d G2 fun G3 => Q env G3) E) E }
  | .gstar ts => { g := fun d env G Q E => ∃ xs, d = .tup xs ∧ lenA ts ≤ xs.length ∧ (sem call kw isa ts).gs (xs.take (lenA ts) ++ [.ref G.length]) env (G ++ [.lst (xs.drop (lenA ts))]) Q E }
  | .gst i => { gs := fun xs env G Q _ => ∃ d, xs = [d] ∧ Q (env.set i (some d)) G }
  | .gattr c o f => { g := fun d env G Q E => (sem call kw isa o).e env G (fun x G1 => ∃ n fs, x = .ref n ∧ G1[n]? = some (.ins c fs) ∧ fs.length < 1000 ∧ Q env (G1.set n (.ins c (putA f d fs)))) E }
  | .iseq a => { i := fun env G R E => (sem call kw isa a).e env G (fun x G1 => ∃ xs, seqOf G1 x = some xs ∧ R ⟨xs, watchOf x xs⟩ G1) E }
  | .irange1 a => { i := fun env G R E => (sem call kw isa a).e env G (fun x G1 => ∃ j, x = .int j ∧ -(2 ^ 62) ≤ j ∧ j < 2 ^ 62 ∧ R ⟨rangeD 0 j, []⟩ G1) E }
  | .irange2 a b => { i := fun env G R E => (sem call kw isa a).e env G (fun x G1 => (sem call kw isa b).e env G1 (fun y G2 => ∃ i j, x = .int i ∧ y = .int j ∧ -(2 ^ 62) ≤ i ∧ i < 2 ^ 62 ∧ -(2 ^ 62) ≤ j ∧ j < 2 ^ 62 ∧ R ⟨rangeD i j, []⟩ G2) E) E }
  | .irangeD a b => { i := fun env G R E => (sem call kw isa a).e env G (fun x G1 => (sem call kw isa b).e env G1 (fun y G2 => ∃ i j, x = .int i ∧ y = .int j ∧ -(2 ^ 62) ≤ i ∧ i < 2 ^ 62 ∧ -(2 ^ 62) ≤ j ∧ j < 2 ^ 62 ∧ R ⟨downD i j, []⟩ G2) E) E }
  | .izip a b => { i := fun env G R E => (sem call kw isa a).e env G (fun x G1 => (sem call kw isa b).e env G1 (fun y G2 => ∃ xs ys, isTupD x = isTupD y ∧ seqOf G2 x = some xs ∧ seqOf G2 y = some ys ∧ R ⟨zipD xs ys, watchOf x xs ++ watchOf y ys⟩ G2) E) E }
  | .izips a b => { i := fun env G R E => (sem call kw isa a).e env G (fun x G1 => (sem call kw isa b).e env G1 (fun y G2 => ∃ xs ys, x = .tup xs ∧ y = .tup ys ∧ xs.length = ys.length ∧ R ⟨zipD xs ys, []⟩ G2) E) E }
  | .ienum a => { i := fun env G R E => (sem call kw isa a).e env G (fun x G1 => ∃ xs, seqOf G1 x = some xs ∧ R ⟨enumD 0 xs, watchOf x xs⟩ G1) E }
  | .asg g e => { s := fun env G K => (sem call kw isa e).e env G (fun x G1 => (sem call kw isa g).g x env G1 K.nx fun _ _ => False) fun x G1 => K.xc x env G1 }
  | .asg2 g h e => { s := fun env G K => (sem call kw isa e).e env G (fun x G1 => (sem call kw isa g).g x env G1 (fun env1 G2 => (sem call kw isa h).g x env1 G2 K.nx fun _ _ => False) fun _ _ => False) fun x G1 => K.xc x env G1 }
  | .asg3 g h i e => { s := fun env G K => (sem call kw isa e).e env G (fun x G1 => (sem call kw isa g).g x env G1 (fun env1 G2 => (sem call kw isa h).g x env1 G2 (fun env2 G3 => (sem call kw isa i).g x env2 G3 K.nx fun _ _ => False) fun _ _ => False) fun _ _ => False) fun x G1 => K.xc x env G1 }
  | .aug i o e => { s := fun env G K => ∃ x, env[i]? = some (some x) ∧ (sem call kw isa e).e env G (fun y G1 => augD o x y G1 fun z G2 => K.nx (env.set i (some z)) G2) fun x G1 => K.xc x env G1 }
  | .ife c a b => { s := fun env G K => (sem call kw isa c).t env G (fun k G1 => if k = true then (sem call kw isa a).s env G1 K else (sem call kw isa b).s env G1 K) fun x G1 => K.xc x env G1 }
  | .whl c b => { s := fun env G K => ∃ n, whileN (sem call kw isa c).t (sem call kw isa b).s n env G K }
  | .forr g it b => { s := fun env G K => (sem call kw isa it).i env G (fun J G1 => forD (sem call kw isa g).g (sem call kw isa b).s J.watch J.items env G1 K) fun x G1 => K.xc x env G1 }
  | .ret e => { s := fun env G K => (sem call kw isa e).e env G K.rt fun x G1 => K.xc x env G1 }
  | .retn => { s := fun _ G K => K.rt .non G }
  | .expr e => { s := fun env G K => (sem call kw isa e).e env G (fun _ G1 => K.nx env G1) fun x G1 => K.xc x env G1 }
  | .pass => { s := fun env G K => K.nx env G }
  | .brk => { s := fun env G K => K.bk env G }
  | .cnt => { s := fun env G K => K.ct env G }
  | .seq a b => { s := fun env G K => (sem call kw isa a).s env G { K with nx := fun env1 G1 => (sem call kw isa b).s env1 G1 K } }
  | .raise c => { s := fun env G K => K.xc ⟨c, none⟩ env G }
  | .raisen c e => { s := fun env G K => (sem call kw isa e).e env G (fun v G1 => K.xc ⟨c, some v⟩ env G1) fun x G1 => K.xc x env G1 }
  | .tryo b c s => { s := fun env G K => (sem call kw isa b).s env G { K with xc := fun x env1 G1 => if isa x.cls c = true then (sem call kw isa s).s env1 G1 { K with xc := fun _ _ _ => False } else K.xc x env1 G1 } }
  | .trya b c i s => { s := fun env G K => (sem call kw isa b).s env G { K with xc := fun x env1 G1 => if isa x.cls c = true then (sem call kw isa s).s (env1.set i (some (.ref G1.length))) (G1 ++ [.exc x]) { nx := fun e G2 => K.nx (e.set i none) G2, rt := K.rt, bk := fun e G2 => K.bk (e.set i none) G2, ct := fun e G2 => K.ct (e.set i none) G2, xc := fun _ _ _ => False } else K.xc x env1 G1 } }
  | .tryf a f => { s := fun env G K => (sem call kw isa a).s env G { nx := fun env1 G1 => (sem call kw isa f).s env1 G1 { nx := K.nx, rt := fun _ _ => False }, rt := fun _ _ => False, xc := fun x env1 G1 => (sem call kw isa f).s env1 G1 { nx := fun env2 G2 => K.xc x env2 G2, rt := fun _ _ => False } } }
  | .tryr a e f => { s := fun env G K => (sem call kw isa a).s env G { nx := fun env1 G1 => (sem call kw isa e).e env1 G1 (fun v G2 => (sem call kw isa f).s env1 G2 { nx := fun _ G3 => K.rt v G3, rt := fun _ _ => False }) (fun x G2 => (sem call kw isa f).s env1 G2 { nx := fun env2 G3 => K.xc x env2 G3, rt := fun _ _ => False }), rt := fun _ _ => False, xc := fun x env1 G1 => (sem call kw isa f).s env1 G1 { nx := fun env2 G2 => K.xc x env2 G2, rt := fun _ _ => False } } }
  | .xnum o => { e := fun env G Q E => (sem call kw isa o).e env G (fun x G1 => ∃ y v, excD G1 x = some y ∧ y.num = some v ∧ Q v G1) E }
  | .auga c o f op e => { s := fun env G K => (sem call kw isa o).e env G (fun x G1 => ∃ n fs, x = .ref n ∧ G1[n]? = some (.ins c fs) ∧ ∃ v, fs.lookup f = some v ∧ (sem call kw isa e).e env G1 (fun y G2 => augD op v y G2 fun z G3 => ∃ fs', G3[n]? = some (.ins c fs') ∧ fs'.length < 1000 ∧ K.nx env (G3.set n (.ins c (putA f z fs')))) fun x G1 => K.xc x env G1) fun x G1 => K.xc x env G1 }
  | .dead => {}
/-! ### monotone -/
structure MonoS (s : Sm) : Prop where
  e : ∀ {env G} {Q Q' : QE} {E E' : XQ}, (∀ d G', Q d G' → Q' d G') → (∀ x G', E x G' → E' x G') → s.e env G Q E → s.e env G Q' E'
  t : ∀ {env G} {Q Q' : Bool → Gh → Prop} {E E' : XQ}, (∀ d G', Q d G' → Q' d G') → (∀ x G', E x G' → E' x G') → s.t env G Q E → s.t env G Q' E'
  a : ∀ {env G} {Q Q' : List Dt → Gh → Prop} {E E' : XQ}, (∀ d G', Q d G' → Q' d G') → (∀ x G', E x G' → E' x G') → s.a env G Q E → s.a env G Q' E'
  g : ∀ {d env G} {Q Q' : En → Gh → Prop} {E E' : XQ}, (∀ d G', Q d G' → Q' d G') → (∀ x G', E x G' → E' x G') → s.g d env G Q E → s.g d env G Q' E'
  gs : ∀ {d env G} {Q Q' : En → Gh → Prop} {E E' : XQ}, (∀ d G', Q d G' → Q' d G') → (∀ x G', E x G' → E' x G') → s.gs d env G Q E → s.gs d env G Q' E'
  i : ∀ {env G} {Q Q' : Iv → Gh → Prop} {E E' : XQ}, (∀ d G', Q d G' → Q' d G') → (∀ x G', E x G' → E' x G') → s.i env G Q E → s.i env G Q' E'
  o : ∀ {env G} {Q Q' : Option Int → Gh → Prop} {E E' : XQ}, (∀ d G', Q d G' → Q' d G') → (∀ x G', E x G' → E' x G') → s.o env G Q E → s.o env G Q' E'
  s : ∀ {env G} {K K' : Kn}, (∀ e G', K.nx e G' → K'.nx e G') → (∀ d G', K.rt d G' → K'.rt d G') → (∀ e G', K.bk e G' → K'.bk e G') → (∀ e G', K.ct e G' → K'.ct e G') → (∀ x e G', K.xc x e G' → K'.xc x e G') → s.s env G K → s.s env G K'
structure MonoC (call : CallT) : Prop where
  m : ∀ {f ds G} {Q Q' : QE} {E E' : XQ}, (∀ d G', Q d G' → Q' d G') → (∀ x G', E x G' → E' x G') → call f ds G Q E → call f ds G Q' E'

theorem catD_mono {x y : Dt} {G : Gh} {Q Q' : QE} (h : ∀ d G', Q d G' → Q' d G') : catD x y G Q → catD x y G Q' := by
  intro q
  unfold catD at q ⊢
  split at q <;> simp_all
  obtain ⟨a, e1, b, e2, h1, h2⟩ := q
  exact ⟨a, e1, b, e2, h1, h _ _ h2⟩
theorem catF_mono {x y : Dt} {G : Gh} {Q Q' : QE} (h : ∀ d G', Q d G' → Q' d G') : catF x y G Q → catF x y G Q' := by
  intro q
  unfold catF at q ⊢
  split at q <;> simp_all
  obtain ⟨a, e1, b, e2, h1, h2⟩ := q
  exact ⟨a, e1, b, e2, h1, h _ _ h2⟩
theorem mulD_mono {x y : Dt} {G : Gh} {Q Q' : QE} (h : ∀ d G', Q d G' → Q' d G') : mulD x y G Q → mulD x y G Q' := by
  intro q
  unfold mulD at q ⊢
  split at q <;> simp_all
  obtain ⟨a, e1, h1, h2, h3, h4⟩ := q
  exact ⟨a, e1, h1, h2, h3, h _ _ h4⟩
theorem intD_mono {C : Int → Int → Prop} {f : Int → Int → Int} {x y : Dt} {G : Gh} {Q Q' : QE} (h : ∀ d G', Q d G' → Q' d G') : intD C f x y G Q → intD C f x y G Q' := by
  intro q
  unfold intD at q ⊢
  split at q <;> simp_all
theorem op2D_mono {o : Op2} {x y : Dt} {G : Gh} {Q Q' : QE} (h : ∀ d G', Q d G' → Q' d G') : op2D o x y G Q → op2D o x y G Q' := by
  cases o <;> first | exact catD_mono h | exact mulD_mono h | exact intD_mono h | exact catF_mono h
theorem iaddD_mono {x y : Dt} {G : Gh} {Q Q' : QE} (h : ∀ d G', Q d G' → Q' d G') : iaddD x y G Q → iaddD x y G Q' := by
  intro q
  unfold iaddD at q ⊢
  split at q
  · exact h _ _ q
  · exact ⟨q.1, h _ _ q.2⟩
  · exact q.elim
theorem augD_mono {o : Op2} {x y : Dt} {G : Gh} {Q Q' : QE} (h : ∀ d G', Q d G' → Q' d G') : augD o x y G Q → augD o x y G Q' := by
  cases o <;> first | exact iaddD_mono h | exact intD_mono h | exact mulD_mono h | exact catF_mono h
theorem cmpD_mono {o : Cm} {x y : Dt} {G : Gh} {Q Q' : Bool → Prop} (h : ∀ d, Q d → Q' d) : cmpD o x y G Q → cmpD o x y G Q' := by
  have hI : ∀ f, cmpI f x y Q → cmpI f x y Q' := fun f q => by
    unfold cmpI at q ⊢
    split at q
    · exact h _ q
    · exact q.elim
  have hN : ∀ {P P' : Bool → Prop}, (∀ b, P b → P' b) → inOf G x y P → inOf G x y P' := fun hh q => by
    unfold inOf at q ⊢
    split at q
    · exact ⟨q.1, q.2.1, hh _ q.2.2⟩
    · obtain ⟨n, p, ys, qs, h1, h2, h3, h4, h5, h6⟩ := q
      exact ⟨n, p, ys, qs, h1, h2, h3, h4, h5, hh _ h6⟩
    · exact q.elim
  intro q
  cases o
  · rcases q with (⟨a, b, h1, h2, h3⟩ | ⟨xs, h1, h2, h3⟩) | ⟨n, p, r, h1, h2, h3, h4, h5⟩
    · exact .inl (.inl ⟨a, b, h1, h2, h _ h3⟩)
    · exact .inl (.inr ⟨xs, h1, h2, h _ h3⟩)
    · exact .inr ⟨n, p, r, h1, h2, h3, h4, h _ h5⟩
  · rcases q with (⟨a, b, h1, h2, h3⟩ | ⟨xs, h1, h2, h3⟩) | ⟨n, p, r, h1, h2, h3, h4, h5⟩
    · exact .inl (.inl ⟨a, b, h1, h2, h _ h3⟩)
    · exact .inl (.inr ⟨xs, h1, h2, h _ h3⟩)
    · exact .inr ⟨n, p, r, h1, h2, h3, h4, h _ h5⟩
  · exact hI _ q
  · exact hI _ q
  · exact hI _ q
  · exact hI _ q
  · obtain ⟨b, e, q⟩ := q
    exact ⟨b, e, h _ q⟩
  · obtain ⟨b, e, q⟩ := q
    exact ⟨b, e, h _ q⟩
  · exact hN (fun b => h b) q
  · exact hN (fun b => h (!b)) q
theorem ixD_mono {x y : Dt} {G : Gh} {Q Q' : QE} (h : ∀ d G', Q d G' → Q' d G') : ixD x y G Q → ixD x y G Q' := by
  intro q
  unfold ixD at q ⊢
  split at q
  · obtain ⟨d, e, q⟩ := q
    exact ⟨d, e, h _ _ q⟩
  · obtain ⟨xs, d, e, e2, q⟩ := q
    exact ⟨xs, d, e, e2, h _ _ q⟩
  · obtain ⟨xs, d, e, e2, q⟩ := q
    exact ⟨xs, d, e, e2, h _ _ q⟩
  · exact q.elim
theorem slD_mono {x : Dt} {l u : Option Int} {G : Gh} {Q Q' : QE} (h : ∀ d G', Q d G' → Q' d G') : slD x l u G Q → slD x l u G Q' := by
  intro q
  unfold slD at q ⊢
  split at q
  · exact h _ _ q
  · obtain ⟨xs, e, q⟩ := q
    exact ⟨xs, e, h _ _ q⟩
  · exact q.elim
theorem biD_mono {b : Bi} {xs : List Dt} {G : Gh} {Q Q' : QE} (h : ∀ d G', Q d G' → Q' d G') : biD b xs G Q → biD b xs G Q' := by
  intro q
  unfold biD at q ⊢
  split at q
  · obtain ⟨xs, e, q⟩ := q; exact ⟨xs, e, h _ _ q⟩
  · exact h _ _ q
  · exact h _ _ q
  · exact h _ _ q
  · exact h _ _ q
  · obtain ⟨xs, ns, e, e2, q⟩ := q; exact ⟨xs, ns, e, e2, h _ _ q⟩
  · obtain ⟨xs, ns, e, e2, h1, q⟩ := q; exact ⟨xs, ns, e, e2, h1, fun m a b => h _ _ (q m a b)⟩
  · obtain ⟨xs, ns, e, e2, h1, q⟩ := q; exact ⟨xs, ns, e, e2, h1, fun m a b => h _ _ (q m a b)⟩
  · obtain ⟨xs, ns, e, e2, q⟩ := q; exact ⟨xs, ns, e, e2, fun m a b => h _ _ (q m a b)⟩
  · obtain ⟨xs, ns, e, e2, q⟩ := q; exact ⟨xs, ns, e, e2, h _ _ q⟩
  · obtain ⟨xs, ns, e, e2, q⟩ := q; exact ⟨xs, ns, e, e2, h _ _ q⟩
  · exact h _ _ q
  · exact h _ _ q
  · obtain ⟨xs, e, q⟩ := q; exact ⟨xs, e, h _ _ q⟩
  · obtain ⟨xs, e, q⟩ := q; exact ⟨xs, e, h _ _ q⟩
  · exact ⟨q.1, h _ _ q.2⟩
  · obtain ⟨n, p, e, e1, e2, e3, q⟩ := q; exact ⟨n, p, e, e1, e2, e3, h _ _ q⟩
  · exact q.elim
theorem revD_mono {x : Dt} {G : Gh} {Q Q' : QE} (h : ∀ d G', Q d G' → Q' d G') : revD x G Q → revD x G Q' := by
  intro q
  unfold revD at q ⊢
  split at q
  · exact h _ _ q
  · obtain ⟨xs, e, q⟩ := q
    exact ⟨xs, e, h _ _ q⟩
  · exact q.elim
theorem maxdD_mono {i : Int} {x : Dt} {G : Gh} {Q Q' : QE} (h : ∀ d G', Q d G' → Q' d G') : maxdD i x G Q → maxdD i x G Q' := by
  intro q
  unfold maxdD at q ⊢
  split at q
  · obtain ⟨xs, ns, e, e2, h1, q⟩ := q
    exact ⟨xs, ns, e, e2, fun z => h _ _ (h1 z), fun m a b => h _ _ (q m a b)⟩
  · exact q.elim
theorem sortrD_mono {x : Dt} {G : Gh} {Q Q' : QE} (h : ∀ d G', Q d G' → Q' d G') : sortrD x G Q → sortrD x G Q' := by
  intro q
  unfold sortrD at q ⊢
  split at q
  · obtain ⟨xs, ns, e, e2, q⟩ := q
    exact ⟨xs, ns, e, e2, fun m a b => h _ _ (q m a b)⟩
  · exact q.elim
theorem mtD_mono {m : Mt} {x : Dt} {xs : List Dt} {G : Gh} {Q Q' : QE} (h : ∀ d G', Q d G' → Q' d G') : mtD m x xs G Q → mtD m x xs G Q' := by
  intro q
  unfold mtD at q ⊢
  split at q
  · obtain ⟨xs, e, e2, q⟩ := q; exact ⟨xs, e, e2, h _ _ q⟩
  · obtain ⟨xs, zs, e, e2, e3, q⟩ := q; exact ⟨xs, zs, e, e2, e3, h _ _ q⟩
  · obtain ⟨xs, e, e2, q⟩ := q; exact ⟨xs, e, e2, h _ _ q⟩
  · obtain ⟨xs, d, e, e2, q⟩ := q; exact ⟨xs, d, e, e2, h _ _ q⟩
  · obtain ⟨xs, d, k, e, e2, e3, e4, q⟩ := q; exact ⟨xs, d, k, e, e2, e3, e4, h _ _ q⟩
  · obtain ⟨ns, k, e, e2, e3, q⟩ := q; exact ⟨ns, k, e, e2, e3, h _ _ q⟩
  · obtain ⟨xs, k, z, e, e2, e3, e4, e5, q⟩ := q; exact ⟨xs, k, z, e, e2, e3, e4, e5, h _ _ q⟩
  · obtain ⟨xs, e, e2, e3, q⟩ := q; exact ⟨xs, e, e2, e3, h _ _ q⟩
  · exact q.elim
theorem storeD_mono {x y d : Dt} {G : Gh} {Q Q' : Gh → Prop} (h : ∀ G', Q G' → Q' G') : storeD x y d G Q → storeD x y d G Q' := by
  intro q
  unfold storeD at q ⊢
  split at q
  · obtain ⟨xs, j, e, e2, q⟩ := q; exact ⟨xs, j, e, e2, h _ q⟩
  · obtain ⟨kvs, e, e2, q⟩ := q; exact ⟨kvs, e, e2, h _ q⟩
  · exact q.elim

section
variable {call : CallT} {kw : Nat → List Dt → List Str → List Dt → List Dt} {isa : Nat → Nat → Bool}
theorem whileN_mono {c b : Sm} (mc : MonoS c) (mb : MonoS b) : ∀ (n : Nat) {env G} {K K' : Kn}, (∀ e G', K.nx e G' → K'.nx e G') → (∀ d G', K.rt d G' → K'.rt d G') → (∀ x e G', K.xc x e G' → K'.xc x e G') → whileN c.t b.s n env G K → whileN c.t b.s n env G K'
  | 0, _, _, _, _, _, _, _, q => q
  | n + 1, env, G, K, K', h1, h2, h3, q => by
    refine mc.t (fun k G1 q => ?_) (fun x G1 => h3 x env G1) q
    cases k with
    | false => exact h1 _ _ q
    | true => exact mb.s (K := { K with nx := fun env2 G2 => whileN c.t b.s n env2 G2 K, ct := fun env2 G2 => whileN c.t b.s n env2 G2 K, bk := K.nx }) (fun e G' q => whileN_mono mc mb n h1 h2 h3 q) h2 h1 (fun e G' q => whileN_mono mc mb n h1 h2 h3 q) h3 q
theorem forD_mono {g b : Sm} (mg : MonoS g) (mb : MonoS b) {w : List (Nat × List Dt)} : ∀ (xs : List Dt) {env G} {K K' : Kn}, (∀ e G', K.nx e G' → K'.nx e G') → (∀ d G', K.rt d G' → K'.rt d G') → (∀ x e G', K.xc x e G' → K'.xc x e G') → forD g.g b.s w xs env G K → forD g.g b.s w xs env G K'
  | [], _, _, _, _, h1, _, _, q => ⟨q.1, h1 _ _ q.2⟩
  | x :: xs, env, G, K, K', h1, h2, h3, q => by
    refine ⟨q.1, mg.g (fun env1 G1 q => ?_) (fun _ _ z => z) q.2⟩
    exact mb.s (K := { K with nx := fun env2 G2 => forD g.g b.s w xs env2 G2 K, ct := fun env2 G2 => forD g.g b.s w xs env2 G2 K, bk := K.nx }) (fun e G' q => forD_mono mg mb xs h1 h2 h3 q) h2 h1 (fun e G' q => forD_mono mg mb xs h1 h2 h3 q) h3 q
theorem compD_mono {g c e : Sm} (mg : MonoS g) (mc : MonoS c) (me : MonoS e) {w : List (Nat × List Dt)} {own : List Nat} {env : En} {n : Nat} : ∀ (xs acc : List Dt) {G} {Q Q' : Gh → Prop}, (∀ G', Q G' → Q' G') → compD g.g c.t e.e w own env n xs acc G Q → compD g.g c.t e.e w own env n xs acc G Q'
  | [], _, _, _, _, h, q => ⟨q.1, q.2.1, h _ q.2.2⟩
  | x :: xs, acc, G, Q, Q', h, q => by
    refine ⟨q.1, mg.g (fun env1 G1 q => mc.t (fun b G2 q => ?_) (fun _ _ z => z) q) (fun _ _ z => z) q.2⟩
    cases b with
    | false => exact compD_mono mg mc me xs acc h q
    | true => exact me.e (fun d G3 q => ⟨q.1, q.2.1, compD_mono mg mc me xs _ h q.2.2⟩) (fun _ _ z => z) q
theorem compIn_mono {g c e : Sm} (mg : MonoS g) (mc : MonoS c) (me : MonoS e) {w : List (Nat × List Dt)} {vs : List Nat} {env : En} {n : Nat} : ∀ (xs acc : List Dt) {G} {N N' : List Dt → Gh → Prop}, (∀ a G', N a G' → N' a G') → compIn g.g c.t e.e w vs n env xs acc G N → compIn g.g c.t e.e w vs n env xs acc G N'
  | [], _, _, _, _, h, q => ⟨q.1, h _ _ q.2⟩
  | x :: xs, acc, G, N, N', h, q => by
    refine ⟨q.1, mg.g (fun env1 G1 q => mc.t (fun b G2 q => ?_) (fun _ _ z => z) q) (fun _ _ z => z) q.2⟩
    cases b with
    | false => exact compIn_mono mg mc me xs acc h q
    | true => exact me.e (fun d G3 q => ⟨q.1, q.2.1, compIn_mono mg mc me xs _ h q.2.2⟩) (fun _ _ z => z) q
theorem compD2_mono {g c i1 g1 c1 e : Sm} (mg : MonoS g) (mc : MonoS c) (mi : MonoS i1) (mg1 : MonoS g1) (mc1 : MonoS c1) (me : MonoS e) {w : List (Nat × List Dt)} {own vs : List Nat} {env : En} {n : Nat} : ∀ (xs acc : List Dt) {G} {Q Q' : Gh → Prop}, (∀ G', Q G' → Q' G') → compD2 g.g c.t i1.i g1.g c1.t e.e w own vs env n xs acc G Q → compD2 g.g c.t i1.i g1.g c1.t e.e w own vs env n xs acc G Q'
  | [], _, _, _, _, h, q => ⟨q.1, q.2.1, h _ q.2.2⟩
  | x :: xs, acc, G, Q, Q', h, q => by
    refine ⟨q.1, mg.g (fun env1 G1 q => mc.t (fun b G2 q => ?_) (fun _ _ z => z) q) (fun _ _ z => z) q.2⟩
    cases b with
    | false => exact compD2_mono mg mc mi mg1 mc1 me xs acc h q
    | true => exact mi.i (fun J1 G3 q => compIn_mono mg1 mc1 me _ _ (fun a G' q => compD2_mono mg mc mi mg1 mc1 me xs a h q) q) (fun _ _ z => z) q
/-- nothing is monotone -/
theorem mono_f {α β : Prop} (h : False) : β := h.elim
theorem sem_mono (mc : MonoC call) : ∀ c : Cd, MonoS (sem call kw isa c) := by
  intro c
  induction c with
  | nil => exact ⟨fun _ _ q => q.elim, fun _ _ q => q.elim, fun h _ q => h _ _ q, fun _ _ q => q.elim, fun h _ q => ⟨q.1, h _ _ q.2⟩, fun _ _ q => q.elim, fun h _ q => h _ _ q, fun h _ _ _ _ q => h _ _ q⟩
  | cons a b ia ib =>
    refine ⟨fun _ _ q => q.elim, fun _ _ q => q.elim, fun h hE q => ?_, fun _ _ q => q.elim, fun h hE q => ?_, fun _ _ q => q.elim, fun h hE q => ?_, fun _ _ _ _ _ q => q.elim⟩
    · exact ia.e (fun x G1 q => ib.a (fun xs G2 q => h _ _ q) hE q) hE q
    · obtain ⟨d, r, e, q⟩ := q
      exact ⟨d, r, e, ia.g (fun env1 G1 q => ib.gs h hE q) hE q⟩
    · exact ia.e (fun x G1 ⟨i, e, q⟩ => ⟨i, e, h _ _ q⟩) hE q
  | kint i => exact ⟨fun h _ q => h _ _ q, fun _ _ q => q.elim, fun _ _ q => q.elim, fun _ _ q => q.elim, fun _ _ q => q.elim, fun _ _ q => q.elim, fun h _ q => h _ _ q, fun _ _ _ _ _ q => q.elim⟩
  | var i => exact ⟨fun h _ ⟨d, e, q⟩ => ⟨d, e, h _ _ q⟩, fun _ _ q => q.elim, fun _ _ q => q.elim, fun _ _ q => q.elim, fun _ _ q => q.elim, fun _ _ q => q.elim, fun _ _ q => q.elim, fun _ _ _ _ _ q => q.elim⟩
  | kstr _ => exact ⟨fun h _ q => h _ _ q, fun _ _ q => q.elim, fun _ _ q => q.elim, fun _ _ q => q.elim, fun _ _ q => q.elim, fun _ _ q => q.elim, fun _ _ q => q.elim, fun _ _ _ _ _ q => q.elim⟩
  | kbl _ => exact ⟨fun h _ q => h _ _ q, fun _ _ q => q.elim, fun _ _ q => q.elim, fun _ _ q => q.elim, fun _ _ q => q.elim, fun _ _ q => q.elim, fun _ _ q => q.elim, fun _ _ _ _ _ q => q.elim⟩
  | knon => exact ⟨fun h _ q => h _ _ q, fun _ _ q => q.elim, fun _ _ q => q.elim, fun _ _ q => q.elim, fun _ _ q => q.elim, fun _ _ q => q.elim, fun _ _ q => q.elim, fun _ _ _ _ _ q => q.elim⟩
  | gk _ => exact ⟨fun h _ q => h _ _ q, fun _ _ q => q.elim, fun _ _ q => q.elim, fun _ _ q => q.elim, fun _ _ q => q.elim, fun _ _ q => q.elim, fun _ _ q => q.elim, fun _ _ _ _ _ q => q.elim⟩
  | bin o a b ia ib => exact ⟨fun h hE q => ia.e (fun x G1 q => ib.e (fun y G2 q => op2D_mono h q) hE q) hE q, fun _ _ q => q.elim, fun _ _ q => q.elim, fun _ _ q => q.elim, fun _ _ q => q.elim, fun _ _ q => q.elim, fun _ _ q => q.elim, fun _ _ _ _ _ q => q.elim⟩
  | neg a ia => exact ⟨fun h hE q => ia.e (fun x G1 ⟨i, e, q⟩ => ⟨i, e, h _ _ q⟩) hE q, fun _ _ q => q.elim, fun _ _ q => q.elim, fun _ _ q => q.elim, fun _ _ q => q.elim, fun _ _ q => q.elim, fun _ _ q => q.elim, fun _ _ _ _ _ q => q.elim⟩
  | notv a ia => exact ⟨fun h hE q => ia.e (fun x G1 ⟨i, e, q⟩ => ⟨i, e, h _ _ q⟩) hE q, fun _ _ q => q.elim, fun _ _ q => q.elim, fun _ _ q => q.elim, fun _ _ q => q.elim, fun _ _ q => q.elim, fun _ _ q => q.elim, fun _ _ _ _ _ q => q.elim⟩
  | cmp o a b ia ib => exact ⟨fun h hE q => ia.e (fun x G1 q => ib.e (fun y G2 q => cmpD_mono (fun c q => h _ _ q) q) hE q) hE q, fun _ _ q => q.elim, fun _ _ q => q.elim, fun _ _ q => q.elim, fun _ _ q => q.elim, fun _ _ q => q.elim, fun _ _ q => q.elim, fun _ _ _ _ _ q => q.elim⟩
  | chain o o2 a b c ia ib ic =>
    refine ⟨fun h hE q => ia.e (fun x G1 q => ib.e (fun y G2 q => cmpD_mono (fun k q => ?_) q) hE q) hE q, fun _ _ q => q.elim, fun _ _ q => q.elim, fun _ _ q => q.elim, fun _ _ q => q.elim, fun _ _ q => q.elim, fun _ _ q => q.elim, fun _ _ _ _ _ q => q.elim⟩
    cases k with
    | false => exact h _ _ q
    | true => exact ic.e (fun z G3 q => cmpD_mono (fun k q => h _ _ q) q) hE q
  | andv a b ia ib =>
    refine ⟨fun h hE q => ia.e (fun x G1 ⟨c, e, q⟩ => ⟨c, e, ?_⟩) hE q, fun _ _ q => q.elim, fun _ _ q => q.elim, fun _ _ q => q.elim, fun _ _ q => q.elim, fun _ _ q => q.elim, fun _ _ q => q.elim, fun _ _ _ _ _ q => q.elim⟩
    cases c with
    | false => exact h _ _ q
    | true => exact ib.e h hE q
  | orv a b ia ib =>
    refine ⟨fun h hE q => ia.e (fun x G1 ⟨c, e, q⟩ => ⟨c, e, ?_⟩) hE q, fun _ _ q => q.elim, fun _ _ q => q.elim, fun _ _ q => q.elim, fun _ _ q => q.elim, fun _ _ q => q.elim, fun _ _ q => q.elim, fun _ _ _ _ _ q => q.elim⟩
    cases c with
    | true => exact h _ _ q
    | false => exact ib.e h hE q
  | ifx c a b ic ia ib =>
    refine ⟨fun h hE q => ic.t (fun k G1 q => ?_) hE q, fun _ _ q => q.elim, fun _ _ q => q.elim, fun _ _ q => q.elim, fun _ _ q => q.elim, fun _ _ q => q.elim, fun _ _ q => q.elim, fun _ _ _ _ _ q => q.elim⟩
    cases k with
    | true => exact ia.e h hE q
    | false => exact ib.e h hE q
  | tup as ia => exact ⟨fun h hE q => ia.a (fun xs G1 q => ⟨q.1, h _ _ q.2⟩) hE q, fun _ _ q => q.elim, fun _ _ q => q.elim, fun _ _ q => q.elim, fun _ _ q => q.elim, fun _ _ q => q.elim, fun _ _ q => q.elim, fun _ _ _ _ _ q => q.elim⟩
  | lst as ia => exact ⟨fun h hE q => ia.a (fun xs G1 q => ⟨q.1, h _ _ q.2⟩) hE q, fun _ _ q => q.elim, fun _ _ q => q.elim, fun _ _ q => q.elim, fun _ _ q => q.elim, fun _ _ q => q.elim, fun _ _ q => q.elim, fun _ _ _ _ _ q => q.elim⟩
  | call f as ia => exact ⟨fun h hE q => ia.a (fun xs G1 q => mc.m h hE q) hE q, fun _ _ q => q.elim, fun _ _ q => q.elim, fun _ _ q => q.elim, fun _ _ q => q.elim, fun _ _ q => q.elim, fun _ _ q => q.elim, fun _ _ _ _ _ q => q.elim⟩
  | callk f as ks ws ia iw => exact ⟨fun h hE q => ia.a (fun xs G1 q => iw.a (fun ys G2 q => mc.m h hE q) hE q) hE q, fun _ _ q => q.elim, fun _ _ q => q.elim, fun _ _ q => q.elim, fun _ _ q => q.elim, fun _ _ q => q.elim, fun _ _ q => q.elim, fun _ _ _ _ _ q => q.elim⟩
  | ix a b ia ib => exact ⟨fun h hE q => ia.e (fun x G1 q => ib.e (fun y G2 q => ixD_mono h q) hE q) hE q, fun _ _ q => q.elim, fun _ _ q => q.elim, fun _ _ q => q.elim, fun _ _ q => q.elim, fun _ _ q => q.elim, fun _ _ q => q.elim, fun _ _ _ _ _ q => q.elim⟩
  | sl a lo hi ia il ih => exact ⟨fun h hE q => ia.e (fun x G1 q => il.o (fun y G2 q => ih.o (fun z G3 q => slD_mono h q) hE q) hE q) hE q, fun _ _ q => q.elim, fun _ _ q => q.elim, fun _ _ q => q.elim, fun _ _ q => q.elim, fun _ _ q => q.elim, fun _ _ q => q.elim, fun _ _ _ _ _ q => q.elim⟩
  | bi b as ia => exact ⟨fun h hE q => ia.a (fun xs G1 q => biD_mono h q) hE q, fun _ _ q => q.elim, fun _ _ q => q.elim, fun _ _ q => q.elim, fun _ _ q => q.elim, fun _ _ q => q.elim, fun _ _ q => q.elim, fun _ _ _ _ _ q => q.elim⟩
  | mt m o as io ia => exact ⟨fun h hE q => io.e (fun x G1 q => ⟨q.1, ia.a (fun xs G1 q => mtD_mono h q) hE q.2⟩) hE q, fun _ _ q => q.elim, fun _ _ q => q.elim, fun _ _ q => q.elim, fun _ _ q => q.elim, fun _ _ q => q.elim, fun _ _ q => q.elim, fun _ _ _ _ _ q => q.elim⟩
  | isi a ts ia => exact ⟨fun h hE q => ia.e (fun x G1 ⟨i, e, q⟩ => ⟨i, e, h _ _ q⟩) hE q, fun _ _ q => q.elim, fun _ _ q => q.elim, fun _ _ q => q.elim, fun _ _ q => q.elim, fun _ _ q => q.elim, fun _ _ q => q.elim, fun _ _ _ _ _ q => q.elim⟩
  | comp elt g it cond own ie ig ii ic => exact ⟨fun h hE q => ii.i (fun J G1 q => compD_mono ig ic ie _ _ (fun G2 q => h _ _ q) q) hE q, fun _ _ q => q.elim, fun _ _ q => q.elim, fun _ _ q => q.elim, fun _ _ q => q.elim, fun _ _ q => q.elim, fun _ _ q => q.elim, fun _ _ _ _ _ q => q.elim⟩
  | comp2 elt g it cond g1 it1 cond1 own ie ig ii ic ig1 ii1 ic1 => exact ⟨fun h hE q => ii.i (fun J G1 q => compD2_mono ig ic ii1 ig1 ic1 ie _ _ (fun G2 q => h _ _ q) q) hE q, fun _ _ q => q.elim, fun _ _ q => q.elim, fun _ _ q => q.elim, fun _ _ q => q.elim, fun _ _ q => q.elim, fun _ _ q => q.elim, fun _ _ _ _ _ q => q.elim⟩
  | dic ks as ia => exact ⟨fun h hE q => ia.a (fun xs G1 q => ⟨q.1, q.2.1, q.2.2.1, h _ _ q.2.2.2⟩) hE q, fun _ _ q => q.elim, fun _ _ q => q.elim, fun _ _ q => q.elim, fun _ _ q => q.elim, fun _ _ q => q.elim, fun _ _ q => q.elim, fun _ _ _ _ _ q => q.elim⟩
  | rev a ia => exact ⟨fun h hE q => ia.e (fun x G1 q => revD_mono h q) hE q, fun _ _ q => q.elim, fun _ _ q => q.elim, fun _ _ q => q.elim, fun _ _ q => q.elim, fun _ _ q => q.elim, fun _ _ q => q.elim, fun _ _ _ _ _ q => q.elim⟩
  | maxd a i ia => exact ⟨fun h hE q => ia.e (fun x G1 q => maxdD_mono h q) hE q, fun _ _ q => q.elim, fun _ _ q => q.elim, fun _ _ q => q.elim, fun _ _ q => q.elim, fun _ _ q => q.elim, fun _ _ q => q.elim, fun _ _ _ _ _ q => q.elim⟩
  | sortr a ia => exact ⟨fun h hE q => ia.e (fun x G1 q => sortrD_mono h q) hE q, fun _ _ q => q.elim, fun _ _ q => q.elim, fun _ _ q => q.elim, fun _ _ q => q.elim, fun _ _ q => q.elim, fun _ _ q => q.elim, fun _ _ _ _ _ q => q.elim⟩
  | attr c o f io => exact ⟨fun h hE q => io.e (fun x G1 ⟨n, fs, e1, e2, d, e3, q⟩ => ⟨n, fs, e1, e2, d, e3, h _ _ q⟩) hE q, fun _ _ q => q.elim, fun _ _ q => q.elim, fun _ _ q => q.elim, fun _ _ q => q.elim, fun _ _ q => q.elim, fun _ _ q => q.elim, fun _ _ _ _ _ q => q.elim⟩
  | meth c f m o as io ia => exact ⟨fun h hE q => io.e (fun x G1 ⟨n, fs, e1, e2, e3, q⟩ => ⟨n, fs, e1, e2, e3, ia.a (fun xs G2 q => mc.m h hE q) hE q⟩) hE q, fun _ _ q => q.elim, fun _ _ q => q.elim, fun _ _ q => q.elim, fun _ _ q => q.elim, fun _ _ q => q.elim, fun _ _ q => q.elim, fun _ _ _ _ _ q => q.elim⟩
  | mk c f as ia => exact ⟨fun h hE q => ia.a (fun xs G2 q => mc.m (fun d G3 q => ⟨q.1, h _ _ q.2⟩) hE q) hE q, fun _ _ q => q.elim, fun _ _ q => q.elim, fun _ _ q => q.elim, fun _ _ q => q.elim, fun _ _ q => q.elim, fun _ _ q => q.elim, fun _ _ _ _ _ q => q.elim⟩
  | tand a b ia ib =>
    refine ⟨fun _ _ q => q.elim, fun h hE q => ia.t (fun k G1 q => ?_) hE q, fun _ _ q => q.elim, fun _ _ q => q.elim, fun _ _ q => q.elim, fun _ _ q => q.elim, fun _ _ q => q.elim, fun _ _ _ _ _ q => q.elim⟩
    cases k with
    | true => exact ib.t h hE q
    | false => exact h _ _ q
  | tor a b ia ib =>
    refine ⟨fun _ _ q => q.elim, fun h hE q => ia.t (fun k G1 q => ?_) hE q, fun _ _ q => q.elim, fun _ _ q => q.elim, fun _ _ q => q.elim, fun _ _ q => q.elim, fun _ _ q => q.elim, fun _ _ _ _ _ q => q.elim⟩
    cases k with
    | false => exact ib.t h hE q
    | true => exact h _ _ q
  | tnot a ia => exact ⟨fun _ _ q => q.elim, fun h hE q => ia.t (fun k G1 q => h _ _ q) hE q, fun _ _ q => q.elim, fun _ _ q => q.elim, fun _ _ q => q.elim, fun _ _ q => q.elim, fun _ _ q => q.elim, fun _ _ _ _ _ q => q.elim⟩
  | tval a ia => exact ⟨fun _ _ q => q.elim, fun h hE q => ia.e (fun x G1 ⟨i, e, q⟩ => ⟨i, e, h _ _ q⟩) hE q, fun _ _ q => q.elim, fun _ _ q => q.elim, fun _ _ q => q.elim, fun _ _ q => q.elim, fun _ _ q => q.elim, fun _ _ _ _ _ q => q.elim⟩
  | tcmp o a b ia ib => exact ⟨fun _ _ q => q.elim, fun h hE q => ia.e (fun x G1 q => ib.e (fun y G2 q => cmpD_mono (fun c q => h _ _ q) q) hE q) hE q, fun _ _ q => q.elim, fun _ _ q => q.elim, fun _ _ q => q.elim, fun _ _ q => q.elim, fun _ _ q => q.elim, fun _ _ _ _ _ q => q.elim⟩
  | tchain o o2 a b c ia ib ic =>
    refine ⟨fun _ _ q => q.elim, fun h hE q => ia.e (fun x G1 q => ib.e (fun y G2 q => cmpD_mono (fun k q => ?_) q) hE q) hE q, fun _ _ q => q.elim, fun _ _ q => q.elim, fun _ _ q => q.elim, fun _ _ q => q.elim, fun _ _ q => q.elim, fun _ _ _ _ _ q => q.elim⟩
    cases k with
    | false => exact h _ _ q
    | true => exact ic.e (fun z G3 q => cmpD_mono (fun k q => h _ _ q) q) hE q
  | ttrue => exact ⟨fun _ _ q => q.elim, fun h hE q => h _ _ q, fun _ _ q => q.elim, fun _ _ q => q.elim, fun _ _ q => q.elim, fun _ _ q => q.elim, fun _ _ q => q.elim, fun _ _ _ _ _ q => q.elim⟩
  | gn i => exact ⟨fun _ _ q => q.elim, fun _ _ q => q.elim, fun _ _ q => q.elim, fun h _ q => h _ _ q, fun _ _ q => q.elim, fun _ _ q => q.elim, fun _ _ q => q.elim, fun _ _ _ _ _ q => q.elim⟩
  | gt ts it => exact ⟨fun _ _ q => q.elim, fun _ _ q => q.elim, fun _ _ q => q.elim, fun h hE ⟨xs, e, l, q⟩ => ⟨xs, e, l, it.gs h hE q⟩, fun _ _ q => q.elim, fun _ _ q => q.elim, fun _ _ q => q.elim, fun _ _ _ _ _ q => q.elim⟩
  | gsub o i io ii => exact ⟨fun _ _ q => q.elim, fun _ _ q => q.elim, fun _ _ q => q.elim, fun h hE q => io.e (fun x G1 q => ii.e (fun y G2 q => storeD_mono (fun G' q => h _ _ q) q) hE q) hE q, fun _ _ q => q.elim, fun _ _ q => q.elim, fun _ _ q => q.elim, fun _ _ _ _ _ q => q.elim⟩
  | gstar ts it => exact ⟨fun _ _ q => q.elim, fun _ _ q => q.elim, fun _ _ q => q.elim, fun h hE ⟨xs, e, hn, q⟩ => ⟨xs, e, hn, it.gs h hE q⟩, fun _ _ q => q.elim, fun _ _ q => q.elim, fun _ _ q => q.elim, fun _ _ _ _ _ q => q.elim⟩
  | gst i => exact ⟨fun _ _ q => q.elim, fun _ _ q => q.elim, fun _ _ q => q.elim, fun _ _ q => q.elim, fun h hE ⟨d, e, q⟩ => ⟨d, e, h _ _ q⟩, fun _ _ q => q.elim, fun _ _ q => q.elim, fun _ _ _ _ _ q => q.elim⟩
  | gattr c o f io => exact ⟨fun _ _ q => q.elim, fun _ _ q => q.elim, fun _ _ q => q.elim, fun h hE q => io.e (fun x G1 ⟨n, fs, e1, e2, e3, q⟩ => ⟨n, fs, e1, e2, e3, h _ _ q⟩) hE q, fun _ _ q => q.elim, fun _ _ q => q.elim, fun _ _ q => q.elim, fun _ _ _ _ _ q => q.elim⟩
  | iseq a ia => exact ⟨fun _ _ q => q.elim, fun _ _ q => q.elim, fun _ _ q => q.elim, fun _ _ q => q.elim, fun _ _ q => q.elim, fun h hE q => ia.e (fun x G1 ⟨xs, e, q⟩ => ⟨xs, e, h _ _ q⟩) hE q, fun _ _ q => q.elim, fun _ _ _ _ _ q => q.elim⟩
  | irange1 a ia => exact ⟨fun _ _ q => q.elim, fun _ _ q => q.elim, fun _ _ q => q.elim, fun _ _ q => q.elim, fun _ _ q => q.elim, fun h hE q => ia.e (fun x G1 ⟨j, e, h1, h2, q⟩ => ⟨j, e, h1, h2, h _ _ q⟩) hE q, fun _ _ q => q.elim, fun _ _ _ _ _ q => q.elim⟩
  | irange2 a b ia ib => exact ⟨fun _ _ q => q.elim, fun _ _ q => q.elim, fun _ _ q => q.elim, fun _ _ q => q.elim, fun _ _ q => q.elim, fun h hE q => ia.e (fun x G1 q => ib.e (fun y G2 ⟨i, j, e, e2, h1, h2, h3, h4, q⟩ => ⟨i, j, e, e2, h1, h2, h3, h4, h _ _ q⟩) hE q) hE q, fun _ _ q => q.elim, fun _ _ _ _ _ q => q.elim⟩
  | irangeD a b ia ib => exact ⟨fun _ _ q => q.elim, fun _ _ q => q.elim, fun _ _ q => q.elim, fun _ _ q => q.elim, fun _ _ q => q.elim, fun h hE q => ia.e (fun x G1 q => ib.e (fun y G2 ⟨i, j, e, e2, h1, h2, h3, h4, q⟩ => ⟨i, j, e, e2, h1, h2, h3, h4, h _ _ q⟩) hE q) hE q, fun _ _ q => q.elim, fun _ _ _ _ _ q => q.elim⟩
  | izip a b ia ib => exact ⟨fun _ _ q => q.elim, fun _ _ q => q.elim, fun _ _ q => q.elim, fun _ _ q => q.elim, fun _ _ q => q.elim, fun h hE q => ia.e (fun x G1 q => ib.e (fun y G2 ⟨i, j, e, e2, e3, q⟩ => ⟨i, j, e, e2, e3, h _ _ q⟩) hE q) hE q, fun _ _ q => q.elim, fun _ _ _ _ _ q => q.elim⟩
  | izips a b ia ib => exact ⟨fun _ _ q => q.elim, fun _ _ q => q.elim, fun _ _ q => q.elim, fun _ _ q => q.elim, fun _ _ q => q.elim, fun h hE q => ia.e (fun x G1 q => ib.e (fun y G2 ⟨i, j, e, e2, e3, q⟩ => ⟨i, j, e, e2, e3, h _ _ q⟩) hE q) hE q, fun _ _ q => q.elim, fun _ _ _ _ _ q => q.elim⟩
  | ienum a ia => exact ⟨fun _ _ q => q.elim, fun _ _ q => q.elim, fun _ _ q => q.elim, fun _ _ q => q.elim, fun _ _ q => q.elim, fun h hE q => ia.e (fun x G1 ⟨xs, e, q⟩ => ⟨xs, e, h _ _ q⟩) hE q, fun _ _ q => q.elim, fun _ _ _ _ _ q => q.elim⟩
  | asg g e ig ie => exact ⟨fun _ _ q => q.elim, fun _ _ q => q.elim, fun _ _ q => q.elim, fun _ _ q => q.elim, fun _ _ q => q.elim, fun _ _ q => q.elim, fun _ _ q => q.elim, fun h1 h2 h3 h4 h5 q => ie.e (fun x G1 q => ig.g (fun e G' q => h1 _ _ q) (fun x G' q => q) q) (fun x G' q => h5 _ _ _ q) q⟩
  | asg2 g h e ig ih ie => exact ⟨fun _ _ q => q.elim, fun _ _ q => q.elim, fun _ _ q => q.elim, fun _ _ q => q.elim, fun _ _ q => q.elim, fun _ _ q => q.elim, fun _ _ q => q.elim, fun h1 h2 h3 h4 h5 q => ie.e (fun x G1 q => ig.g (fun e G' q => ih.g (fun e G' q => h1 _ _ q) (fun x G' q => q) q) (fun x G' q => q) q) (fun x G' q => h5 _ _ _ q) q⟩
  | asg3 g h i e ig ih ii ie => exact ⟨fun _ _ q => q.elim, fun _ _ q => q.elim, fun _ _ q => q.elim, fun _ _ q => q.elim, fun _ _ q => q.elim, fun _ _ q => q.elim, fun _ _ q => q.elim, fun h1 h2 h3 h4 h5 q => ie.e (fun x G1 q => ig.g (fun e G' q => ih.g (fun e G' q => ii.g (fun e G' q => h1 _ _ q) (fun x G' q => q) q) (fun x G' q => q) q) (fun x G' q => q) q) (fun x G' q => h5 _ _ _ q) q⟩
  | aug i o e ie => exact ⟨fun _ _ q => q.elim, fun _ _ q => q.elim, fun _ _ q => q.elim, fun _ _ q => q.elim, fun _ _ q => q.elim, fun _ _ q => q.elim, fun _ _ q => q.elim, fun h1 h2 h3 h4 h5 ⟨x, ex, q⟩ => ⟨x, ex, ie.e (fun x G1 q => augD_mono (fun d G' q => h1 _ _ q) q) (fun x G' q => h5 _ _ _ q) q⟩⟩
  | ife c a b ic ia ib =>
    refine ⟨fun _ _ q => q.elim, fun _ _ q => q.elim, fun _ _ q => q.elim, fun _ _ q => q.elim, fun _ _ q => q.elim, fun _ _ q => q.elim, fun _ _ q => q.elim, fun h1 h2 h3 h4 h5 q => ic.t (fun k G1 q => ?_) (fun x G' q => h5 _ _ _ q) q⟩
    cases k with
    | true => exact ia.s h1 h2 h3 h4 h5 q
    | false => exact ib.s h1 h2 h3 h4 h5 q
  | whl c b ic ib => exact ⟨fun _ _ q => q.elim, fun _ _ q => q.elim, fun _ _ q => q.elim, fun _ _ q => q.elim, fun _ _ q => q.elim, fun _ _ q => q.elim, fun _ _ q => q.elim, fun h1 h2 h3 h4 h5 ⟨n, q⟩ => ⟨n, whileN_mono ic ib n h1 h2 h5 q⟩⟩
  | forr g it b ig ii ib => exact ⟨fun _ _ q => q.elim, fun _ _ q => q.elim, fun _ _ q => q.elim, fun _ _ q => q.elim, fun _ _ q => q.elim, fun _ _ q => q.elim, fun _ _ q => q.elim, fun h1 h2 h3 h4 h5 q => ii.i (fun J G1 q => forD_mono ig ib _ h1 h2 h5 q) (fun x G' q => h5 _ _ _ q) q⟩
  | ret e ie => exact ⟨fun _ _ q => q.elim, fun _ _ q => q.elim, fun _ _ q => q.elim, fun _ _ q => q.elim, fun _ _ q => q.elim, fun _ _ q => q.elim, fun _ _ q => q.elim, fun h1 h2 h3 h4 h5 q => ie.e h2 (fun x G' q => h5 _ _ _ q) q⟩
  | retn => exact ⟨fun _ _ q => q.elim, fun _ _ q => q.elim, fun _ _ q => q.elim, fun _ _ q => q.elim, fun _ _ q => q.elim, fun _ _ q => q.elim, fun _ _ q => q.elim, fun h1 h2 h3 h4 h5 q => h2 _ _ q⟩
  | expr e ie => exact ⟨fun _ _ q => q.elim, fun _ _ q => q.elim, fun _ _ q => q.elim, fun _ _ q => q.elim, fun _ _ q => q.elim, fun _ _ q => q.elim, fun _ _ q => q.elim, fun h1 h2 h3 h4 h5 q => ie.e (fun d G' q => h1 _ _ q) (fun x G' q => h5 _ _ _ q) q⟩
  | pass => exact ⟨fun _ _ q => q.elim, fun _ _ q => q.elim, fun _ _ q => q.elim, fun _ _ q => q.elim, fun _ _ q => q.elim, fun _ _ q => q.elim, fun _ _ q => q.elim, fun h1 h2 h3 h4 h5 q => h1 _ _ q⟩
  | brk => exact ⟨fun _ _ q => q.elim, fun _ _ q => q.elim, fun _ _ q => q.elim, fun _ _ q => q.elim, fun _ _ q => q.elim, fun _ _ q => q.elim, fun _ _ q => q.elim, fun h1 h2 h3 h4 h5 q => h3 _ _ q⟩
  | cnt => exact ⟨fun _ _ q => q.elim, fun _ _ q => q.elim, fun _ _ q => q.elim, fun _ _ q => q.elim, fun _ _ q => q.elim, fun _ _ q => q.elim, fun _ _ q => q.elim, fun h1 h2 h3 h4 h5 q => h4 _ _ q⟩
  | seq a b ia ib => exact ⟨fun _ _ q => q.elim, fun _ _ q => q.elim, fun _ _ q => q.elim, fun _ _ q => q.elim, fun _ _ q => q.elim, fun _ _ q => q.elim, fun _ _ q => q.elim, fun {env G K K'} h1 h2 h3 h4 h5 q => ia.s (K := { K with nx := fun env1 G1 => (sem call kw isa b).s env1 G1 K }) (fun e G' q => ib.s h1 h2 h3 h4 h5 q) h2 h3 h4 h5 q⟩
  | raise c => exact ⟨fun _ _ q => q.elim, fun _ _ q => q.elim, fun _ _ q => q.elim, fun _ _ q => q.elim, fun _ _ q => q.elim, fun _ _ q => q.elim, fun _ _ q => q.elim, fun h1 h2 h3 h4 h5 q => h5 _ _ _ q⟩
  | raisen c e ie => exact ⟨fun _ _ q => q.elim, fun _ _ q => q.elim, fun _ _ q => q.elim, fun _ _ q => q.elim, fun _ _ q => q.elim, fun _ _ q => q.elim, fun _ _ q => q.elim, fun h1 h2 h3 h4 h5 q => ie.e (fun v G1 q => h5 _ _ _ q) (fun x G' q => h5 _ _ _ q) q⟩
  | tryo b c s ib is =>
    refine ⟨fun _ _ q => q.elim, fun _ _ q => q.elim, fun _ _ q => q.elim, fun _ _ q => q.elim, fun _ _ q => q.elim, fun _ _ q => q.elim, fun _ _ q => q.elim, fun {env G K K'} h1 h2 h3 h4 h5 q => ib.s (K := { K with xc := fun x env1 G1 => if isa x.cls c = true then (sem call kw isa s).s env1 G1 { K with xc := fun _ _ _ => False } else K.xc x env1 G1 }) h1 h2 h3 h4 (fun x e G' q => ?_) q⟩
    by_cases hc : isa x.cls c = true
    · dsimp only at q ⊢
      rw [if_pos hc] at q ⊢
      exact is.s (K := { K with xc := fun _ _ _ => False }) h1 h2 h3 h4 (fun _ _ _ z => z) q
    · dsimp only at q ⊢
      rw [if_neg hc] at q ⊢
      exact h5 _ _ _ q
  | trya b c i s ib is =>
    refine ⟨fun _ _ q => q.elim, fun _ _ q => q.elim, fun _ _ q => q.elim, fun _ _ q => q.elim, fun _ _ q => q.elim, fun _ _ q => q.elim, fun _ _ q => q.elim, fun {env G K K'} h1 h2 h3 h4 h5 q => ib.s (K := { K with xc := fun x env1 G1 => if isa x.cls c = true then (sem call kw isa s).s (env1.set i (some (.ref G1.length))) (G1 ++ [.exc x]) { nx := fun e G2 => K.nx (e.set i none) G2, rt := K.rt, bk := fun e G2 => K.bk (e.set i none) G2, ct := fun e G2 => K.ct (e.set i none) G2, xc := fun _ _ _ => False } else K.xc x env1 G1 }) h1 h2 h3 h4 (fun x e G' q => ?_) q⟩
    by_cases hc : isa x.cls c = true
    · dsimp only at q ⊢
      rw [if_pos hc] at q ⊢
      exact is.s (K := { nx := fun e G2 => K.nx (e.set i none) G2, rt := K.rt, bk := fun e G2 => K.bk (e.set i none) G2, ct := fun e G2 => K.ct (e.set i none) G2, xc := fun _ _ _ => False }) (fun _ _ z => h1 _ _ z) h2 (fun _ _ z => h3 _ _ z) (fun _ _ z => h4 _ _ z) (fun _ _ _ z => z) q
    · dsimp only at q ⊢
      rw [if_neg hc] at q ⊢
      exact h5 _ _ _ q
  | tryf a f ia iff =>
    refine ⟨fun _ _ q => q.elim, fun _ _ q => q.elim, fun _ _ q => q.elim, fun _ _ q => q.elim, fun _ _ q => q.elim, fun _ _ q => q.elim, fun _ _ q => q.elim, fun {env G K K'} h1 h2 h3 h4 h5 q => ia.s (K := { nx := fun env1 G1 => (sem call kw isa f).s env1 G1 { nx := K.nx, rt := fun _ _ => False }, rt := fun _ _ => False, xc := fun x env1 G1 => (sem call kw isa f).s env1 G1 { nx := fun env2 G2 => K.xc x env2 G2, rt := fun _ _ => False } }) (fun e G' q => ?_) (fun _ _ z => z) (fun _ _ z => z) (fun _ _ z => z) (fun x e G' q => ?_) q⟩
    · exact iff.s (K := { nx := K.nx, rt := fun _ _ => False }) h1 (fun _ _ z => z) (fun _ _ z => z) (fun _ _ z => z) (fun _ _ _ z => z) q
    · exact iff.s (K := { nx := fun env2 G2 => K.xc x env2 G2, rt := fun _ _ => False }) (fun _ _ z => h5 _ _ _ z) (fun _ _ z => z) (fun _ _ z => z) (fun _ _ z => z) (fun _ _ _ z => z) q
  | tryr a e f ia ie iff =>
    refine ⟨fun _ _ q => q.elim, fun _ _ q => q.elim, fun _ _ q => q.elim, fun _ _ q => q.elim, fun _ _ q => q.elim, fun _ _ q => q.elim, fun _ _ q => q.elim, fun {env G K K'} h1 h2 h3 h4 h5 q => ia.s (K := { nx := fun env1 G1 => (sem call kw isa e).e env1 G1 (fun v G2 => (sem call kw isa f).s env1 G2 { nx := fun _ G3 => K.rt v G3, rt := fun _ _ => False }) (fun x G2 => (sem call kw isa f).s env1 G2 { nx := fun env2 G3 => K.xc x env2 G3, rt := fun _ _ => False }), rt := fun _ _ => False, xc := fun x env1 G1 => (sem call kw isa f).s env1 G1 { nx := fun env2 G2 => K.xc x env2 G2, rt := fun _ _ => False } }) (fun env1 G' q => ie.e (fun v G2 q => ?_) (fun x G2 q => ?_) q) (fun _ _ z => z) (fun _ _ z => z) (fun _ _ z => z) (fun x e G' q => ?_) q⟩
    · exact iff.s (K := { nx := fun _ G3 => K.rt v G3, rt := fun _ _ => False }) (fun _ _ z => h2 _ _ z) (fun _ _ z => z) (fun _ _ z => z) (fun _ _ z => z) (fun _ _ _ z => z) q
    · exact iff.s (K := { nx := fun env2 G2 => K.xc x env2 G2, rt := fun _ _ => False }) (fun _ _ z => h5 _ _ _ z) (fun _ _ z => z) (fun _ _ z => z) (fun _ _ z => z) (fun _ _ _ z => z) q
    · exact iff.s (K := { nx := fun env2 G2 => K.xc x env2 G2, rt := fun _ _ => False }) (fun _ _ z => h5 _ _ _ z) (fun _ _ z => z) (fun _ _ z => z) (fun _ _ z => z) (fun _ _ _ z => z) q
  | xnum o io => exact ⟨fun h hE q => io.e (fun x G1 ⟨y, v, e1, e2, q⟩ => ⟨y, v, e1, e2, h _ _ q⟩) hE q, fun _ _ q => q.elim, fun _ _ q => q.elim, fun _ _ q => q.elim, fun _ _ q => q.elim, fun _ _ q => q.elim, fun _ _ q => q.elim, fun _ _ _ _ _ q => q.elim⟩
  | auga c o f op e io ie => exact ⟨fun _ _ q => q.elim, fun _ _ q => q.elim, fun _ _ q => q.elim, fun _ _ q => q.elim, fun _ _ q => q.elim, fun _ _ q => q.elim, fun _ _ q => q.elim, fun h1 h2 h3 h4 h5 q => io.e (fun x G1 ⟨n, fs, e1, e2, v, e3, q⟩ => ⟨n, fs, e1, e2, v, e3, ie.e (fun y G2 q => augD_mono (fun z G3 ⟨fs', e4, e5, q⟩ => ⟨fs', e4, e5, h1 _ _ q⟩) q) (fun x G' q => h5 _ _ _ q) q⟩) (fun x G' q => h5 _ _ _ q) q⟩
  | dead => exact ⟨fun _ _ q => q.elim, fun _ _ q => q.elim, fun _ _ q => q.elim, fun _ _ q => q.elim, fun _ _ q => q.elim, fun _ _ q => q.elim, fun _ _ q => q.elim, fun _ _ _ _ _ q => q.elim⟩
end
end Wm

namespace Wm
open PySem PySem.Spec PyProof.Rows L2

/-! ### how data stand in the abstract heap -/
mutual
def Rp (K : PySem.W.Frag) (H : Hp) (μ : List Addr) : Dt → V → Prop
  | .non, v => v = .non
  | .bl b, v => v = .bl b
  | .int i, v => v = .int i
  | .str s, v => v = .str s
  | .tup xs, v => ∃ a vs, v = .ref a ∧ SqT K H a vs ∧ RpL K H μ xs vs
  | .ref n, v => ∃ a, μ[n]? = some a ∧ v = .ref a
def RpL (K : PySem.W.Frag) (H : Hp) (μ : List Addr) : List Dt → List V → Prop
  | [], vs => vs = []
  | d :: ds, vs => ∃ v r, vs = v :: r ∧ Rp K H μ d v ∧ RpL K H μ ds r
end

def KeepI (H H' : Hp) : Prop := (∀ a xs, H a = some (.tup xs) → H' a = some (.tup xs)) ∧ (∀ a o u, H a = some (.frz o u) → H' a = some (.frz o u)) ∧ (∀ a fs, H a = some (.xd fs) → H' a = some (.xd fs))
def Pre (μ μ' : List Addr) : Prop := ∀ (n : Nat) (a : Addr), μ[n]? = some a → μ'[n]? = some a
theorem KeepI.refl (H : Hp) : KeepI H H := ⟨fun _ _ h => h, fun _ _ _ h => h, fun _ _ h => h⟩
theorem KeepI.trans {H H1 H2 : Hp} (a : KeepI H H1) (b : KeepI H1 H2) : KeepI H H2 := ⟨fun c xs h => b.1 c xs (a.1 c xs h), fun c o u h => b.2.1 c o u (a.2.1 c o u h), fun c fs h => b.2.2 c fs (a.2.2 c fs h)⟩
theorem Pre.refl (μ : List Addr) : Pre μ μ := fun _ _ h => h
theorem Pre.trans {a b c : List Addr} (h : Pre a b) (g : Pre b c) : Pre a c := fun n x e => g n x (h n x e)
theorem Pre.snoc (μ : List Addr) (p : Addr) : Pre μ (μ ++ [p]) := fun n a e => by
  rw [List.getElem?_append_left (List.getElem?_eq_some_iff.mp e).1]
  exact e
theorem KeepI.new {H : Hp} {p : Addr} {o : HO} (h : H p = none) : KeepI H (upd H p o) :=
  ⟨fun a xs e => by rw [upd_ne (ne_of_none e h)]; exact e, fun a ob u e => by rw [upd_ne (ne_of_none e h)]; exact e, fun a fs e => by rw [upd_ne (ne_of_none e h)]; exact e⟩
theorem KeepI.lst {H : Hp} {p : Addr} {xs : List V} {o : HO} (h : H p = some (.lst xs)) : KeepI H (upd H p o) :=
  ⟨fun a ys e => by rw [upd_ne (ne_of e h (fun z => by cases z))]; exact e, fun a ob u e => by rw [upd_ne (ne_of e h (fun z => by cases z))]; exact e, fun a fs e => by rw [upd_ne (ne_of e h (fun z => by cases z))]; exact e⟩
theorem KeepI.sqT {K : PySem.W.Frag} {H H' : Hp} {a : Addr} {xs : List V} (k : KeepI H H') (h : SqT K H a xs) : SqT K H' a xs := by
  rcases h with (h | ⟨o, h⟩) | h
  · exact .inl (.inl (k.1 a xs h))
  · exact .inl (.inr ⟨o, k.2.1 a o _ h⟩)
  · exact .inr h

mutual
theorem Rp.mono {K : PySem.W.Frag} {H H' : Hp} {μ μ' : List Addr} (k : KeepI H H') (p : Pre μ μ') : ∀ (d : Dt) (v : V), Rp K H μ d v → Rp K H' μ' d v
  | .non, _, h => by unfold Rp at h ⊢; exact h
  | .bl _, _, h => by unfold Rp at h ⊢; exact h
  | .int _, _, h => by unfold Rp at h ⊢; exact h
  | .str _, _, h => by unfold Rp at h ⊢; exact h
  | .tup xs, v, h => by
    unfold Rp at h ⊢
    obtain ⟨a, vs, e, q, r⟩ := h
    exact ⟨a, vs, e, k.sqT q, RpL.mono k p xs vs r⟩
  | .ref n, v, h => by
    unfold Rp at h ⊢
    obtain ⟨a, e, q⟩ := h
    exact ⟨a, p n a e, q⟩
theorem RpL.mono {K : PySem.W.Frag} {H H' : Hp} {μ μ' : List Addr} (k : KeepI H H') (p : Pre μ μ') : ∀ (ds : List Dt) (vs : List V), RpL K H μ ds vs → RpL K H' μ' ds vs
  | [], _, h => by unfold RpL at h ⊢; exact h
  | d :: ds, vs, h => by
    unfold RpL at h ⊢
    obtain ⟨v, r, e, h1, h2⟩ := h
    exact ⟨v, r, e, Rp.mono k p d v h1, RpL.mono k p ds r h2⟩
end
section
variable {K : PySem.W.Frag} {H : Hp} {μ : List Addr}
theorem rp_non {v : V} : Rp K H μ .non v ↔ v = .non := by unfold Rp; exact Iff.rfl
theorem rp_bl {b : Bool} {v : V} : Rp K H μ (.bl b) v ↔ v = .bl b := by unfold Rp; exact Iff.rfl
theorem rp_int {i : Int} {v : V} : Rp K H μ (.int i) v ↔ v = .int i := by unfold Rp; exact Iff.rfl
theorem rp_str {i : Str} {v : V} : Rp K H μ (.str i) v ↔ v = .str i := by unfold Rp; exact Iff.rfl
theorem rp_tup {xs : List Dt} {v : V} : Rp K H μ (.tup xs) v ↔ ∃ a vs, v = .ref a ∧ SqT K H a vs ∧ RpL K H μ xs vs := by
  constructor
  · intro h; unfold Rp at h; exact h
  · intro h; unfold Rp; exact h
theorem rp_ref {n : Nat} {v : V} : Rp K H μ (.ref n) v ↔ ∃ a, μ[n]? = some a ∧ v = .ref a := by unfold Rp; exact Iff.rfl
theorem rpl_nil {vs : List V} : RpL K H μ [] vs ↔ vs = [] := by unfold RpL; exact Iff.rfl
theorem rpl_cons {d : Dt} {ds : List Dt} {vs : List V} : RpL K H μ (d :: ds) vs ↔ ∃ v r, vs = v :: r ∧ Rp K H μ d v ∧ RpL K H μ ds r := by
  constructor
  · intro h; unfold RpL at h; exact h
  · intro h; unfold RpL; exact h
theorem RpL.length : ∀ {ds : List Dt} {vs : List V}, RpL K H μ ds vs → ds.length = vs.length
  | [], vs, h => by rw [rpl_nil] at h; rw [h]; rfl
  | d :: ds, vs, h => by
    obtain ⟨v, r, rfl, _, h2⟩ := rpl_cons.mp h
    simp [RpL.length h2]
theorem RpL.get : ∀ {ds : List Dt} {vs : List V} {i : Nat} {d : Dt}, RpL K H μ ds vs → ds[i]? = some d → ∃ v, vs[i]? = some v ∧ Rp K H μ d v
  | [], _, _, _, _, e => by simp at e
  | d :: ds, vs, i, d', h, e => by
    obtain ⟨v, r, rfl, h1, h2⟩ := rpl_cons.mp h
    cases i with
    | zero =>
      have e2 : d = d' := by simpa using e
      exact ⟨v, rfl, e2 ▸ h1⟩
    | succ i => exact RpL.get (i := i) h2 (by simpa using e)
theorem RpL.append : ∀ {ds es : List Dt} {vs ws : List V}, RpL K H μ ds vs → RpL K H μ es ws → RpL K H μ (ds ++ es) (vs ++ ws)
  | [], es, vs, ws, h, g => by rw [rpl_nil] at h; subst h; exact g
  | d :: ds, es, vs, ws, h, g => by
    obtain ⟨v, r, rfl, h1, h2⟩ := rpl_cons.mp h
    exact rpl_cons.mpr ⟨v, r ++ ws, rfl, h1, RpL.append h2 g⟩
theorem RpL.drop : ∀ (n : Nat) {ds : List Dt} {vs : List V}, RpL K H μ ds vs → RpL K H μ (ds.drop n) (vs.drop n)
  | 0, _, _, h => h
  | n + 1, [], vs, h => by rw [rpl_nil] at h; subst h; exact rpl_nil.mpr rfl
  | n + 1, d :: ds, vs, h => by
    obtain ⟨v, r, rfl, h1, h2⟩ := rpl_cons.mp h
    exact RpL.drop n h2
theorem RpL.take : ∀ (n : Nat) {ds : List Dt} {vs : List V}, RpL K H μ ds vs → RpL K H μ (ds.take n) (vs.take n)
  | 0, _, _, h => rpl_nil.mpr rfl
  | n + 1, [], vs, h => by rw [rpl_nil] at h; subst h; exact rpl_nil.mpr rfl
  | n + 1, d :: ds, vs, h => by
    obtain ⟨v, r, rfl, h1, h2⟩ := rpl_cons.mp h
    exact rpl_cons.mpr ⟨v, r.take n, rfl, h1, RpL.take n h2⟩
theorem RpL.set {d : Dt} {v : V} (g : Rp K H μ d v) : ∀ (n : Nat) {ds : List Dt} {vs : List V}, RpL K H μ ds vs → RpL K H μ (ds.set n d) (vs.set n v)
  | _, [], vs, h => by rw [rpl_nil] at h; subst h; exact rpl_nil.mpr rfl
  | 0, _ :: ds, vs, h => by
    obtain ⟨_, r, rfl, _, h2⟩ := rpl_cons.mp h
    exact rpl_cons.mpr ⟨v, r, rfl, g, h2⟩
  | n + 1, d' :: ds, vs, h => by
    obtain ⟨v', r, rfl, h1, h2⟩ := rpl_cons.mp h
    exact rpl_cons.mpr ⟨v', _, rfl, h1, RpL.set g n h2⟩
theorem RpL.dropLast {ds : List Dt} {vs : List V} (h : RpL K H μ ds vs) : RpL K H μ ds.dropLast vs.dropLast := by
  rw [List.dropLast_eq_take, List.dropLast_eq_take, ← h.length]
  exact h.take _
theorem RpL.erase {ds : List Dt} {vs : List V} (k : Nat) (h : RpL K H μ ds vs) : RpL K H μ (ds.eraseIdx k) (vs.eraseIdx k) := by
  rw [List.eraseIdx_eq_take_drop_succ, List.eraseIdx_eq_take_drop_succ]
  exact (h.take _).append (h.drop _)
theorem RpL.rep {ds : List Dt} {vs : List V} (h : RpL K H μ ds vs) : ∀ k : Nat, RpL K H μ (List.replicate k ds).flatten (List.replicate k vs).flatten
  | 0 => rpl_nil.mpr rfl
  | k + 1 => by
    rw [List.replicate_succ, List.flatten_cons, List.replicate_succ, List.flatten_cons]
    exact h.append (RpL.rep h k)
theorem rpl_ints : ∀ {ds : List Dt} {vs : List V} {ns : List Int}, RpL K H μ ds vs → intsOf ds = some ns → vs = ns.map V.int
  | [], vs, ns, h, e => by
    rw [rpl_nil] at h; subst h
    cases e; rfl
  | d :: ds, vs, ns, h, e => by
    obtain ⟨v, r, rfl, h1, h2⟩ := rpl_cons.mp h
    cases d <;> simp only [intsOf] at e <;> try (cases e; done)
    rename_i i
    cases q : intsOf ds with
    | none => rw [q] at e; cases e
    | some ms =>
      rw [q] at e
      cases e
      rw [rp_int.mp h1, rpl_ints h2 q]
      rfl
theorem rpl_bls : ∀ {ds : List Dt} {vs : List V} {ns : List Bool}, RpL K H μ ds vs → blsOf ds = some ns → vs = ns.map V.bl
  | [], vs, ns, h, e => by
    rw [rpl_nil] at h; subst h
    cases e; rfl
  | d :: ds, vs, ns, h, e => by
    obtain ⟨v, r, rfl, h1, h2⟩ := rpl_cons.mp h
    cases d <;> simp only [blsOf] at e <;> try (cases e; done)
    rename_i i
    cases q : blsOf ds with
    | none => rw [q] at e; cases e
    | some ms =>
      rw [q] at e
      cases e
      rw [rp_bl.mp h1, rpl_bls h2 q]
      rfl
end

/-- where classes stand; which of them are exceptions -/
structure Cad where
  pl : Nat → Addr
  ex : Nat → Prop
  on : Prop
instance : CoeFun Cad (fun _ => Nat → Addr) := ⟨Cad.pl⟩
/-- an exception that is held: its class, its dict -/
def ExcO (C : Addr) (d : Option Addr) (a : Addr) : HO := .ext fun h => ∃ (oe : Obj) (vs : Array Value), h.get? a = some oe ∧ Zc (.ref C) d oe ∧ oe.data = .fields vs
/-- what it bears stands in its dict -/
def NumOk (K : PySem.W.Frag) (H : Hp) (μ : List Addr) : Option Dt → Option Addr → Prop
  | none, d => d = none
  | some v, d => ∃ dx w, d = some dx ∧ H dx = some (.xd [(Str.ofString "number", w)]) ∧ Rp K H μ v w
theorem NumOk.mono {K : PySem.W.Frag} {H H' : Hp} {μ μ' : List Addr} (k : KeepI H H') (p : Pre μ μ') : ∀ {n : Option Dt} {d : Option Addr}, NumOk K H μ n d → NumOk K H' μ' n d
  | none, _, h => h
  | some v, _, ⟨dx, w, e1, e2, r⟩ => ⟨dx, w, e1, k.2.2 _ _ e2, r.mono k p⟩
/-- a list that stands as it is, plain -/
def SqF (K : PySem.W.Frag) (H : Hp) (a : Addr) (vs : List V) : Prop := (∃ its n, H a = some (.frz { cls := .type "list", data := .seq its n } (.lst vs))) ∨ ((∃ its n, K.lookup a = some { cls := .type "list", data := .seq its n }) ∧ ∀ H', SqL K H' a vs)
def OkO (K : PySem.W.Frag) (cad : Cad) (H : Hp) (μ : List Addr) (a : Addr) : Ob → Prop
  | .lst xs => ∃ vs, H a = some (.lst vs) ∧ RpL K H μ xs vs
  | .frz xs => ∃ vs, SqF K H a vs ∧ RpL K H μ xs vs
  | .ins c fs => ∃ dx ws, H a = some (.ins (cad c) dx ws) ∧ ws.map (·.1) = fs.map (·.1) ∧ RpL K H μ (fs.map (·.2)) (ws.map (·.2)) ∧ Cls K (cad c) ∧ ∀ f, f ∈ fs.map (·.1) → NoAttr K (cad c) f
  | .dct kvs => ∃ ws, H a = some (.dK ws) ∧ ws.map (·.1) = kvs.map (·.1) ∧ RpL K H μ (kvs.map (·.2)) (ws.map (·.2))
  | .exc x => ∃ d, H a = some (ExcO (cad x.cls) d a) ∧ NumOk K H μ x.num d ∧ cad.ex x.cls ∧ cad.on
def Ob.live : Ob → Bool
  | .frz _ => false
  | _ => true
structure HRel (K : PySem.W.Frag) (cad : Cad) (H : Hp) (μ : List Addr) (G : Gh) : Prop where
  len : μ.length = G.length
  nd : ∀ (m n : Nat) (a : Addr) (o u : Ob), μ[m]? = some a → μ[n]? = some a → G[m]? = some o → G[n]? = some u → o.live = true → u.live = true → m = n
  ok : ∀ (n : Nat) (a : Addr) (o : Ob), μ[n]? = some a → G[n]? = some o → OkO K cad H μ a o
section
variable {K : PySem.W.Frag} {cad : Cad} {H H' : Hp} {μ μ' : List Addr} {G : Gh} {a p : Addr} {o ob : Ob}
theorem OkO.live (h : OkO K cad H μ a o) (l : o.live = true) : ∃ u, H a = some u ∧ (∀ xs, u ≠ .tup xs) ∧ (∀ x y, u ≠ .frz x y) := by
  cases o with
  | lst xs => obtain ⟨vs, e, _⟩ := h; exact ⟨_, e, (fun _ z => by cases z), (fun _ _ z => by cases z)⟩
  | frz xs => cases l
  | ins c fs => obtain ⟨dx, vs, e, _⟩ := h; exact ⟨_, e, (fun _ z => by cases z), (fun _ _ z => by cases z)⟩
  | dct kvs => obtain ⟨vs, e, _⟩ := h; exact ⟨_, e, (fun _ z => by cases z), (fun _ _ z => by cases z)⟩
  | exc x => obtain ⟨d, e, _⟩ := h; exact ⟨_, e, (fun _ z => by unfold ExcO at z; cases z), (fun _ _ z => by unfold ExcO at z; cases z)⟩
/-- an object stands on where its place is not written -/
theorem OkO.mono (k : KeepI H H') (pr : Pre μ μ') (e : o.live = true → H' a = H a) (h : OkO K cad H μ a o) : OkO K cad H' μ' a o := by
  cases o with
  | lst xs => obtain ⟨vs, q, r⟩ := h; exact ⟨vs, by rw [e rfl]; exact q, r.mono k pr⟩
  | frz xs =>
    obtain ⟨vs, q, r⟩ := h
    refine ⟨vs, ?_, r.mono k pr⟩
    rcases q with ⟨its, n, q⟩ | q
    · exact .inl ⟨its, n, k.2.1 _ _ _ q⟩
    · exact .inr q
  | ins c fs => obtain ⟨dx, vs, q, e2, r, z⟩ := h; exact ⟨dx, vs, by rw [e rfl]; exact q, e2, r.mono k pr, z⟩
  | dct kvs => obtain ⟨vs, q, e2, r⟩ := h; exact ⟨vs, by rw [e rfl]; exact q, e2, r.mono k pr⟩
  | exc x => obtain ⟨d, q, r, z⟩ := h; exact ⟨d, by rw [e rfl]; exact q, r.mono k pr, z⟩
theorem HRel.at (R : HRel K cad H μ G) {n : Nat} (e : G[n]? = some o) : ∃ a, μ[n]? = some a ∧ OkO K cad H μ a o := by
  have hn : n < μ.length := by
    rw [R.len]
    exact (List.getElem?_eq_some_iff.mp e).1
  exact ⟨μ[n], List.getElem?_eq_getElem hn, R.ok n _ o (List.getElem?_eq_getElem hn) e⟩
/-- something new that the data heap does not tell -/
theorem HRel.new (R : HRel K cad H μ G) {x : HO} (h : H p = none) : HRel K cad (upd H p x) μ G :=
  ⟨R.len, R.nd, fun n a o e1 e2 => (R.ok n a o e1 e2).mono (KeepI.new h) (Pre.refl _) fun l => by
    obtain ⟨u, q, _⟩ := (R.ok n a o e1 e2).live l
    exact upd_ne (ne_of_none q h)⟩
/-- a new object -/
theorem HRel.alloc (R : HRel K cad H μ G) {x : HO} (h : H p = none) (hl : ob.live = true) (hok : OkO K cad (upd H p x) (μ ++ [p]) p ob) : HRel K cad (upd H p x) (μ ++ [p]) (G ++ [ob]) := by
  have key : ∀ (n : Nat) (a : Addr) (o : Ob), (μ ++ [p])[n]? = some a → (G ++ [ob])[n]? = some o → (n < G.length ∧ μ[n]? = some a ∧ G[n]? = some o) ∨ (n = G.length ∧ a = p ∧ o = ob) := fun n a o e1 e2 => by
    by_cases hn : n < G.length
    · rw [List.getElem?_append_left (by rw [R.len]; exact hn)] at e1
      rw [List.getElem?_append_left hn] at e2
      exact .inl ⟨hn, e1, e2⟩
    · have hb : n < (G ++ [ob]).length := (List.getElem?_eq_some_iff.mp e2).1
      rw [List.length_append] at hb
      have hn2 : n = G.length := by
        have : ([ob] : List Ob).length = 1 := rfl
        omega
      subst hn2
      rw [List.getElem?_append_right (Nat.le_refl _)] at e2
      rw [← R.len, List.getElem?_append_right (Nat.le_refl _)] at e1
      simp at e1 e2
      exact .inr ⟨rfl, e1.symm, e2.symm⟩
  refine ⟨by simp [R.len], fun m n a o u e1 e2 e3 e4 l1 l2 => ?_, fun n a o e1 e2 => ?_⟩
  · rcases key m a o e1 e3 with ⟨h1, h2, h3⟩ | ⟨h1, h2, h3⟩
    · rcases key n a u e2 e4 with ⟨g1, g2, g3⟩ | ⟨g1, g2, g3⟩
      · exact R.nd m n a o u h2 g2 h3 g3 l1 l2
      · obtain ⟨w, q, _⟩ := (R.ok m a o h2 h3).live l1
        rw [g2, h] at q
        cases q
    · rcases key n a u e2 e4 with ⟨g1, g2, g3⟩ | ⟨g1, g2, g3⟩
      · obtain ⟨w, q, _⟩ := (R.ok n a u g2 g3).live l2
        rw [h2, h] at q
        cases q
      · rw [h1, g1]
  · rcases key n a o e1 e2 with ⟨h1, h2, h3⟩ | ⟨h1, h2, h3⟩
    · refine (R.ok n a o h2 h3).mono (KeepI.new h) (Pre.snoc _ _) fun l => ?_
      obtain ⟨u, q, _⟩ := (R.ok n a o h2 h3).live l
      exact upd_ne (ne_of_none q h)
    · rw [h2, h3]
      exact hok
/-- an object is written -/
theorem HRel.write (R : HRel K cad H μ G) {n : Nat} {x : HO} (e1 : μ[n]? = some a) (e2 : G[n]? = some o) (l : o.live = true) (k : KeepI H (upd H a x)) (l2 : ob.live = true) (hok : OkO K cad (upd H a x) μ a ob) : HRel K cad (upd H a x) μ (G.set n ob) := by
  have hn : n < G.length := (List.getElem?_eq_some_iff.mp e2).1
  refine ⟨by rw [List.length_set]; exact R.len, fun i j b u w h1 h2 h3 h4 m1 m2 => ?_, fun i b u h1 h2 => ?_⟩
  · have old : ∀ (i : Nat) (u : Ob), (G.set n ob)[i]? = some u → u.live = true → ∃ u', G[i]? = some u' ∧ u'.live = true := fun i u h m => by
      by_cases hi : n = i
      · subst hi; exact ⟨o, e2, l⟩
      · rw [List.getElem?_set_ne hi] at h; exact ⟨u, h, m⟩
    obtain ⟨u', g1, g2⟩ := old i u h3 m1
    obtain ⟨w', g3, g4⟩ := old j w h4 m2
    exact R.nd i j b u' w' h1 h2 g1 g3 g2 g4
  · by_cases hi : n = i
    · subst hi
      rw [List.getElem?_set_self hn] at h2
      cases h2
      rw [e1] at h1
      cases h1
      exact hok
    · rw [List.getElem?_set_ne hi] at h2
      refine (R.ok i b u h1 h2).mono k (Pre.refl _) fun m => upd_ne fun z => ?_
      subst z
      exact hi (R.nd n i b o u e1 h1 e2 h2 l m)
theorem HRel.lst (R : HRel K cad H μ G) {n : Nat} {xs : List Dt} (e : G[n]? = some (.lst xs)) : ∃ a vs, μ[n]? = some a ∧ H a = some (.lst vs) ∧ RpL K H μ xs vs := by
  obtain ⟨a, e1, vs, e2, r⟩ := R.at e
  exact ⟨a, vs, e1, e2, r⟩
theorem HRel.lstAt (R : HRel K cad H μ G) {n : Nat} {xs : List Dt} (e : lstAt G n = some xs) : ∃ a vs, μ[n]? = some a ∧ SqL K H a vs ∧ RpL K H μ xs vs := by
  unfold Wm.lstAt at e
  split at e
  · rename_i ys e1
    cases e
    obtain ⟨a, e2, vs, e3, r⟩ := R.at e1
    exact ⟨a, vs, e2, SqL.of e3, r⟩
  · rename_i ys e1
    cases e
    obtain ⟨a, e2, vs, e3, r⟩ := R.at e1
    refine ⟨a, vs, e2, ?_, r⟩
    rcases e3 with ⟨its, m, q⟩ | q
    · exact .inl (.inr ⟨_, q⟩)
    · exact q.2 H
  · cases e
theorem HRel.allocL (R : HRel K cad H μ G) {xs : List Dt} {vs : List V} (h : H p = none) (r : RpL K H μ xs vs) : HRel K cad (upd H p (.lst vs)) (μ ++ [p]) (G ++ [.lst xs]) :=
  R.alloc h rfl ⟨vs, upd_same, r.mono (KeepI.new h) (Pre.snoc _ _)⟩
theorem HRel.writeL (R : HRel K cad H μ G) {n : Nat} {ys xs : List Dt} {vs ws : List V} (e1 : μ[n]? = some a) (e2 : G[n]? = some (.lst ys)) (e3 : H a = some (.lst ws)) (r : RpL K H μ xs vs) : HRel K cad (upd H a (.lst vs)) μ (G.set n (.lst xs)) :=
  R.write e1 e2 rfl (KeepI.lst e3) rfl ⟨vs, upd_same, r.mono (KeepI.lst e3) (Pre.refl _)⟩
theorem HRel.insAt (R : HRel K cad H μ G) {n c : Nat} {fs : List (Str × Dt)} (e : G[n]? = some (.ins c fs)) : ∃ a dx ws, μ[n]? = some a ∧ H a = some (.ins (cad c) dx ws) ∧ ws.map (·.1) = fs.map (·.1) ∧ RpL K H μ (fs.map (·.2)) (ws.map (·.2)) ∧ Cls K (cad c) ∧ ∀ f, f ∈ fs.map (·.1) → NoAttr K (cad c) f := by
  obtain ⟨a, e1, dx, ws, h⟩ := R.at e
  exact ⟨a, dx, ws, e1, h⟩
theorem KeepI.ins {H : Hp} {p C dx : Addr} {ws : List (Str × V)} {o : HO} (h : H p = some (.ins C dx ws)) : KeepI H (upd H p o) :=
  ⟨fun a ys e => by rw [upd_ne (ne_of e h (fun z => by cases z))]; exact e, fun a ob u e => by rw [upd_ne (ne_of e h (fun z => by cases z))]; exact e, fun a fs e => by rw [upd_ne (ne_of e h (fun z => by cases z))]; exact e⟩
/-- fields, side by side -/
theorem fld_get {f : Str} : ∀ {fs : List (Str × Dt)} {ws : List (Str × V)} {d : Dt}, ws.map (·.1) = fs.map (·.1) → RpL K H μ (fs.map (·.2)) (ws.map (·.2)) → fs.lookup f = some d → ∃ v, ws.lookup f = some v ∧ Rp K H μ d v
  | [], ws, d, e, r, h => by cases h
  | (g, x) :: fs, [], d, e, r, h => by cases e
  | (g, x) :: fs, (g', v) :: ws, d, e, r, h => by
    have eg : g' = g := (List.cons.inj e).1
    have er := (List.cons.inj e).2
    subst eg
    obtain ⟨v', r', ev, r1, r2⟩ := rpl_cons.mp r
    have e1 := (List.cons.inj ev).1
    have e2 := (List.cons.inj ev).2
    subst e1
    rw [← e2] at r2
    rw [List.lookup_cons] at h ⊢
    cases q : (f == g') with
    | true =>
      rw [q] at h
      cases h
      exact ⟨v, rfl, r1⟩
    | false =>
      rw [q] at h
      exact fld_get er r2 h
theorem fld_none {f : Str} : ∀ {fs : List (Str × Dt)} {ws : List (Str × V)}, ws.map (·.1) = fs.map (·.1) → fs.lookup f = none → ws.lookup f = none
  | [], [], e, h => rfl
  | [], _ :: _, e, h => by cases e
  | (g, x) :: fs, [], e, h => by cases e
  | (g, x) :: fs, (g', v) :: ws, e, h => by
    have eg : g' = g := (List.cons.inj e).1
    have er := (List.cons.inj e).2
    subst eg
    rw [List.lookup_cons] at h ⊢
    cases q : (f == g') with
    | true => rw [q] at h; cases h
    | false =>
      rw [q] at h
      exact fld_none er h
theorem fld_put {f : Str} {d : Dt} {v : V} (rd : Rp K H μ d v) : ∀ {fs : List (Str × Dt)} {ws : List (Str × V)}, ws.map (·.1) = fs.map (·.1) → RpL K H μ (fs.map (·.2)) (ws.map (·.2)) → (putF f v ws).map (·.1) = (putA f d fs).map (·.1) ∧ RpL K H μ ((putA f d fs).map (·.2)) ((putF f v ws).map (·.2))
  | [], [], e, r => ⟨rfl, rpl_cons.mpr ⟨v, [], rfl, rd, rpl_nil.mpr rfl⟩⟩
  | [], _ :: _, e, r => by cases e
  | (g, x) :: fs, [], e, r => by cases e
  | (g, x) :: fs, (g', u) :: ws, e, r => by
    have eg : g' = g := (List.cons.inj e).1
    have er := (List.cons.inj e).2
    subst eg
    obtain ⟨v', r', ev, r1, r2⟩ := rpl_cons.mp r
    have e1 := (List.cons.inj ev).1
    have e2 := (List.cons.inj ev).2
    subst e1
    rw [← e2] at r2
    by_cases q : g' = f
    · unfold putF putA
      rw [if_pos q, if_pos q]
      exact ⟨by rw [List.map_cons, List.map_cons, er], rpl_cons.mpr ⟨v, _, rfl, rd, r2⟩⟩
    · obtain ⟨h1, h2⟩ := fld_put rd er r2
      unfold putF putA
      rw [if_neg q, if_neg q]
      exact ⟨by rw [List.map_cons, List.map_cons, h1], rpl_cons.mpr ⟨u, _, rfl, r1, h2⟩⟩
theorem mem_putA {f g : Str} {d : Dt} : ∀ {fs : List (Str × Dt)}, g ∈ (putA f d fs).map (·.1) → g = f ∨ g ∈ fs.map (·.1)
  | [], h => by
    unfold putA at h
    simp at h
    exact .inl h
  | (k, x) :: fs, h => by
    unfold putA at h
    by_cases q : k = f
    · rw [if_pos q] at h
      exact .inr h
    · rw [if_neg q, List.map_cons, List.mem_cons] at h
      rcases h with h | h
      · exact .inr (List.mem_cons.mpr (.inl h))
      · rcases mem_putA h with z | z
        · exact .inl z
        · exact .inr (List.mem_cons_of_mem _ z)
theorem lookup_key {f : Str} {d : Dt} : ∀ {fs : List (Str × Dt)}, fs.lookup f = some d → f ∈ fs.map (·.1)
  | [], h => by cases h
  | (g, x) :: fs, h => by
    rw [List.lookup_cons] at h
    cases q : (f == g) with
    | true =>
      have : f = g := by simpa using q
      rw [this]
      exact List.mem_cons_self
    | false =>
      rw [q] at h
      exact List.mem_cons_of_mem _ (lookup_key h)
/-- a field is written -/
theorem HRel.writeA (R : HRel K cad H μ G) {n c : Nat} {fs : List (Str × Dt)} {ws : List (Str × V)} {dx : Addr} {f : Str} {d : Dt} {v : V} (e1 : μ[n]? = some a) (e2 : G[n]? = some (.ins c fs)) (e3 : H a = some (.ins (cad c) dx ws)) (ek : ws.map (·.1) = fs.map (·.1)) (er : RpL K H μ (fs.map (·.2)) (ws.map (·.2))) (hc : Cls K (cad c)) (hn : ∀ g, g ∈ fs.map (·.1) → NoAttr K (cad c) g) (hf : NoAttr K (cad c) f) (rd : Rp K H μ d v) :
    HRel K cad (upd H a (.ins (cad c) dx (putF f v ws))) μ (G.set n (.ins c (putA f d fs))) := by
  obtain ⟨h1, h2⟩ := fld_put (f := f) rd ek er
  refine R.write e1 e2 rfl (KeepI.ins e3) rfl ⟨dx, _, upd_same, h1, h2.mono (KeepI.ins e3) (Pre.refl _), hc, fun g hg => ?_⟩
  rcases mem_putA hg with rfl | z
  · exact hf
  · exact hn g z
/-- a new instance -/
theorem HRel.allocI (R : HRel K cad H μ G) {c : Nat} {x dx : Addr} (h1 : H x = none) (h2 : H dx = none) (h3 : dx ≠ x) (hc : Cls K (cad c)) : HRel K cad (upd (upd H dx (.own x)) x (.ins (cad c) dx [])) (μ ++ [x]) (G ++ [.ins c []]) :=
  (R.new (x := .own x) h2).alloc (by rw [upd_ne (Ne.symm h3)]; exact h1) rfl ⟨dx, [], upd_same, rfl, rpl_nil.mpr rfl, hc, fun f hf => by cases hf⟩
theorem snoc_at (μ : List Addr) (p : Addr) : (μ ++ [p])[μ.length]? = some p := by simp
end

structure Rel (K : PySem.W.Frag) (cad : Cad) (H : Hp) (μ : List Addr) (G : Gh) (σ : L2.St) (env : En) : Prop where
  h : HRel K cad H μ G
  len : σ.length = env.length
  var : ∀ (i : Nat) (d : Dt), env[i]? = some (some d) → ∃ v, σ[i]? = some (some v) ∧ Rp K H μ d v
section
variable {K : PySem.W.Frag} {cad : Cad} {H H' : Hp} {μ μ' : List Addr} {G G' : Gh} {σ : L2.St} {env : En}
theorem Rel.step (R : Rel K cad H μ G σ env) (p : Pre μ μ') (k : KeepI H H') (h : HRel K cad H' μ' G') : Rel K cad H' μ' G' σ env :=
  ⟨h, R.len, fun i d e => let ⟨v, e1, r⟩ := R.var i d e; ⟨v, e1, r.mono k p⟩⟩
theorem Rel.set (R : Rel K cad H μ G σ env) {i : Nat} {d : Dt} {v : V} (r : Rp K H μ d v) : Rel K cad H μ G (σ.set i (some v)) (env.set i (some d)) := by
  refine ⟨R.h, by simp [R.len], fun j e h => ?_⟩
  by_cases hj : i = j
  · subst hj
    by_cases hl : i < env.length
    · rw [List.getElem?_set_self hl] at h
      cases h
      exact ⟨v, List.getElem?_set_self (by rw [R.len]; exact hl), r⟩
    · rw [List.getElem?_eq_none (by simpa using hl)] at h
      cases h
  · rw [List.getElem?_set_ne hj] at h ⊢
    exact R.var j e h
theorem Rel.wipe (R : Rel K cad H μ G σ env) : ∀ own : List Nat, Rel K cad H μ G (wipe σ own) (wipeD env own)
  | [] => R
  | o :: own => by
    have ih := Rel.wipe R own
    refine ⟨R.h, by unfold L2.wipe wipeD; simp [ih.len], fun j e h => ?_⟩
    unfold wipeD at h
    unfold L2.wipe
    by_cases hj : o = j
    · subst hj
      by_cases hl : o < (wipeD env own).length
      · rw [List.getElem?_set_self hl] at h; cases h
      · rw [List.getElem?_eq_none (by simpa using hl)] at h; cases h
    · rw [List.getElem?_set_ne hj] at h ⊢
      exact ih.var j e h
end

/-! ### lifted posts -/
def PostE (K : PySem.W.Frag) (cad : Cad) (H : Hp) (μ : List Addr) (Q : VK) : QE := fun d G' => ∀ μ' v H', Pre μ μ' → KeepI H H' → HRel K cad H' μ' G' → Rp K H' μ' d v → Q v H'
def PostB (K : PySem.W.Frag) (cad : Cad) (H : Hp) (μ : List Addr) (Q : Bool → Hp → Prop) : Bool → Gh → Prop := fun b G' => ∀ μ' H', Pre μ μ' → KeepI H H' → HRel K cad H' μ' G' → Q b H'
def PostA (K : PySem.W.Frag) (cad : Cad) (H : Hp) (μ : List Addr) (Q : List V → Hp → Prop) : List Dt → Gh → Prop := fun ds G' => ∀ μ' vs H', Pre μ μ' → KeepI H H' → HRel K cad H' μ' G' → RpL K H' μ' ds vs → Q vs H'
def PostO (K : PySem.W.Frag) (cad : Cad) (H : Hp) (μ : List Addr) (Q : Option Int → Hp → Prop) : Option Int → Gh → Prop := fun b G' => ∀ μ' H', Pre μ μ' → KeepI H H' → HRel K cad H' μ' G' → Q b H'
def RpX (K : PySem.W.Frag) (cad : Cad) (H : Hp) (μ : List Addr) (x : Xc) (cls : Value) (d : Option Addr) : Prop := cls = .ref (cad x.cls) ∧ NumOk K H μ x.num d ∧ cad.ex x.cls
def PostX (K : PySem.W.Frag) (cad : Cad) (H : Hp) (μ : List Addr) (E : XK) : XQ := fun x G' => ∀ μ' H' cls d, Pre μ μ' → KeepI H H' → HRel K cad H' μ' G' → RpX K cad H' μ' x cls d → E cls d H'
def PostS (K : PySem.W.Frag) (cad : Cad) (H : Hp) (μ : List Addr) (Q : L2.St → Hp → Prop) : En → Gh → Prop := fun env' G' => ∀ μ' σ' H', Pre μ μ' → KeepI H H' → Rel K cad H' μ' G' σ' env' → Q σ' H'
def PostK (K : PySem.W.Frag) (cad : Cad) (H : Hp) (μ : List Addr) (D : Ends) (W : WX) : Kn :=
  { nx := PostS K cad H μ D.nx, rt := PostE K cad H μ D.rt, bk := PostS K cad H μ D.bk, ct := PostS K cad H μ D.ct
    xc := fun x env' G' => ∀ μ' σ' H' cls d, Pre μ μ' → KeepI H H' → Rel K cad H' μ' G' σ' env' → RpX K cad H' μ' x cls d → W cls d σ' H' }
section
variable {K : PySem.W.Frag} {cad : Cad} {H H1 : Hp} {μ μ1 : List Addr}
theorem PostE.step {Q : VK} (p : Pre μ μ1) (k : KeepI H H1) {d : Dt} {G' : Gh} (h : PostE K cad H μ Q d G') : PostE K cad H1 μ1 Q d G' := fun μ' v H' p' k' => h μ' v H' (p.trans p') (k.trans k')
theorem PostB.step {Q : Bool → Hp → Prop} (p : Pre μ μ1) (k : KeepI H H1) {d : Bool} {G' : Gh} (h : PostB K cad H μ Q d G') : PostB K cad H1 μ1 Q d G' := fun μ' H' p' k' => h μ' H' (p.trans p') (k.trans k')
theorem PostA.step {Q : List V → Hp → Prop} (p : Pre μ μ1) (k : KeepI H H1) {d : List Dt} {G' : Gh} (h : PostA K cad H μ Q d G') : PostA K cad H1 μ1 Q d G' := fun μ' v H' p' k' => h μ' v H' (p.trans p') (k.trans k')
theorem PostO.step {Q : Option Int → Hp → Prop} (p : Pre μ μ1) (k : KeepI H H1) {d : Option Int} {G' : Gh} (h : PostO K cad H μ Q d G') : PostO K cad H1 μ1 Q d G' := fun μ' H' p' k' => h μ' H' (p.trans p') (k.trans k')
theorem PostX.step {E : XK} (p : Pre μ μ1) (k : KeepI H H1) {x : Xc} {G' : Gh} (h : PostX K cad H μ E x G') : PostX K cad H1 μ1 E x G' := fun μ' H' cls d p' k' => h μ' H' cls d (p.trans p') (k.trans k')
theorem PostS.step {Q : L2.St → Hp → Prop} (p : Pre μ μ1) (k : KeepI H H1) {e : En} {G' : Gh} (h : PostS K cad H μ Q e G') : PostS K cad H1 μ1 Q e G' := fun μ' σ' H' p' k' => h μ' σ' H' (p.trans p') (k.trans k')
end
/-- the reading of an expression's semantics -/
def LE (K : PySem.W.Frag) (cad : Cad) (W : WX) (s : En → Gh → QE → XQ → Prop) : TE := fun σ H Q => ∃ μ G env, Rel K cad H μ G σ env ∧ s env G (PostE K cad H μ Q) (PostX K cad H μ fun cls d H' => W cls d σ H')
def LT (K : PySem.W.Frag) (cad : Cad) (W : WX) (s : En → Gh → (Bool → Gh → Prop) → XQ → Prop) : TT := fun σ H Q => ∃ μ G env, Rel K cad H μ G σ env ∧ s env G (PostB K cad H μ Q) (PostX K cad H μ fun cls d H' => W cls d σ H')
def LA (K : PySem.W.Frag) (cad : Cad) (W : WX) (s : En → Gh → (List Dt → Gh → Prop) → XQ → Prop) : TA := fun σ H Q => ∃ μ G env, Rel K cad H μ G σ env ∧ s env G (PostA K cad H μ Q) (PostX K cad H μ fun cls d H' => W cls d σ H')
def LO (K : PySem.W.Frag) (cad : Cad) (W : WX) (s : En → Gh → (Option Int → Gh → Prop) → XQ → Prop) : TO := fun σ H Q => ∃ μ G env, Rel K cad H μ G σ env ∧ s env G (PostO K cad H μ Q) (PostX K cad H μ fun cls d H' => W cls d σ H')
def LS (K : PySem.W.Frag) (cad : Cad) (W : WX) (s : En → Gh → Kn → Prop) : TS := fun D σ H => ∃ μ G env, Rel K cad H μ G σ env ∧ s env G (PostK K cad H μ D W)
/-- σ' is σ but at S -/
def But (S : List Nat) (σ σ' : L2.St) : Prop := σ'.length = σ.length ∧ ∀ j : Nat, j ∉ S → σ'[j]? = σ[j]?
theorem But.refl (S : List Nat) (σ : L2.St) : But S σ σ := ⟨rfl, fun _ _ => rfl⟩
def PostG (K : PySem.W.Frag) (cad : Cad) (H : Hp) (μ : List Addr) (S : List Nat) (σ : L2.St) (Q : L2.St → Hp → Prop) : En → Gh → Prop := fun env' G' => ∀ μ' σ' H', Pre μ μ' → KeepI H H' → Rel K cad H' μ' G' σ' env' → But S σ σ' → Q σ' H'
def LG (K : PySem.W.Frag) (cad : Cad) (S : List Nat) (s : Dt → En → Gh → (En → Gh → Prop) → XQ → Prop) : TG := fun v σ H Q => ∃ μ G env d, Rel K cad H μ G σ env ∧ Rp K H μ d v ∧ s d env G (PostG K cad H μ S σ Q) fun _ _ => False
def LGs (K : PySem.W.Frag) (cad : Cad) (S : List Nat) (s : List Dt → En → Gh → (En → Gh → Prop) → XQ → Prop) : TGs := fun vs σ H Q => ∃ μ G env ds, Rel K cad H μ G σ env ∧ RpL K H μ ds vs ∧ s ds env G (PostG K cad H μ S σ Q) fun _ _ => False
end Wm

namespace Wm
open PySem PySem.Spec PyProof.Rows L2
/-! ### operations on values -/
section
variable {X : Cx} {cad : Cad}
def rD (K : PySem.W.Frag) (cad : Cad) (f : Dt → Dt → Gh → QE → Prop) : R2 := fun x y H Q => ∃ μ G d1 d2, HRel K cad H μ G ∧ Rp K H μ d1 x ∧ Rp K H μ d2 y ∧ f d1 d2 G (PostE K cad H μ Q)
section
variable {K : PySem.W.Frag} {H : Hp} {μ : List Addr} {G : Gh} {Q : VK}
theorem PostE.now {d : Dt} {v : V} (h : PostE K cad H μ Q d G) (hr : HRel K cad H μ G) (r : Rp K H μ d v) : Q v H := h μ v H (Pre.refl _) (KeepI.refl _) hr r
theorem PostE.newT {xs : List Dt} {vs : List V} {p : Addr} (h : PostE K cad H μ Q (.tup xs) G) (hr : HRel K cad H μ G) (r : RpL K H μ xs vs) (hp : H p = none) : Q (.ref p) (upd H p (.tup vs)) :=
  h μ _ _ (Pre.refl _) (KeepI.new hp) (hr.new hp) (rp_tup.mpr ⟨p, vs, rfl, SqT.of upd_same, r.mono (KeepI.new hp) (Pre.refl _)⟩)
theorem PostE.newL {xs : List Dt} {vs : List V} {p : Addr} (h : PostE K cad H μ Q (.ref G.length) (G ++ [.lst xs])) (hr : HRel K cad H μ G) (r : RpL K H μ xs vs) (hp : H p = none) : Q (.ref p) (upd H p (.lst vs)) :=
  h (μ ++ [p]) _ _ (Pre.snoc _ _) (KeepI.new hp) (hr.allocL hp r) (rp_ref.mpr ⟨p, by rw [← hr.len]; exact snoc_at μ p, rfl⟩)
end
theorem op_add_ok : OpR X (binaryOp .Add) (rD X.K cad catD) := by
  intro pins s σ H x y v u Q I rx ry ⟨μ, G, d1, d2, hr, r1, r2, h⟩
  unfold catD at h
  split at h
  · rename_i i j
    rw [rp_int] at r1 r2
    subst r1 r2
    exact op_add pins s σ H _ _ v u Q I rx ry ⟨i, j, rfl, rfl, h.now hr (rp_int.mpr rfl)⟩
  · rename_i a b
    rw [rp_str] at r1 r2
    subst r1 r2
    exact op_add_str pins s σ H _ _ v u Q I rx ry ⟨a, b, rfl, rfl, h.1, h.2.now hr (rp_str.mpr rfl)⟩
  · rename_i a b
    obtain ⟨p, vs, rfl, q1, l1⟩ := rp_tup.mp r1
    obtain ⟨q, ws, rfl, q2, l2⟩ := rp_tup.mp r2
    refine op_catA pins s σ H _ _ v u Q I rx ry ⟨p, q, vs, ws, rfl, rfl, q1, q2, by rw [← l1.length, ← l2.length]; exact h.1, fun e => ?_, fun e1 e2 => ?_, fun e1 e2 l hl => h.2.newT hr (l1.append l2) hl⟩
    · subst e
      have e : a = [] := List.eq_nil_of_length_eq_zero (l1.length)
      subst e
      exact h.2.now hr r2
    · subst e2
      have e : b = [] := List.eq_nil_of_length_eq_zero (l2.length)
      subst e
      have h2 := h.2
      rw [List.append_nil] at h2
      exact h2.now hr r1
  · rename_i m n
    obtain ⟨a, b, e1, e2, hz, h⟩ := h
    obtain ⟨p, vs, g1, g2, l1⟩ := hr.lst e1
    obtain ⟨q, ws, g3, g4, l2⟩ := hr.lst e2
    obtain ⟨p', g5, rfl⟩ := rp_ref.mp r1
    obtain ⟨q', g6, rfl⟩ := rp_ref.mp r2
    rw [g1] at g5; cases g5
    rw [g3] at g6; cases g6
    exact op_cat pins s σ H _ _ v u Q I rx ry ⟨p, q, vs, ws, rfl, rfl, g2, g4, by rw [← l1.length, ← l2.length]; exact hz, fun l hl => h.newL hr (l1.append l2) hl⟩
  · exact h.elim
theorem HRel.frzP {K : PySem.W.Frag} {cad : Cad} {H : Hp} {μ : List Addr} {G : Gh} {n : Nat} {xs : List Dt} (R : HRel K cad H μ G) (e : G[n]? = some (.frz xs)) : ∃ a vs, μ[n]? = some a ∧ SqF K H a vs ∧ RpL K H μ xs vs := by
  obtain ⟨a, h1, vs, h2, h3⟩ := R.at e
  exact ⟨a, vs, h1, h2, h3⟩
theorem SqF.plain {H : Hp} {a : Addr} {vs : List V} {s : Shared} {σ : L2.St} {pins : List (Addr × Obj)} (I : Inv X pins σ H s) (h : SqF X.K H a vs) : ∃ its : List Value, ∃ n, Vals vs its ∧ s.heap.get? a = some { cls := .type "list", data := .seq its.toArray n } := by
  have key : ∀ (arr : Array Value) (m : Nat), s.heap.get? a = some { cls := .type "list", data := .seq arr m } → SqL X.K H a vs → ∃ its : List Value, ∃ n, Vals vs its ∧ s.heap.get? a = some { cls := .type "list", data := .seq its.toArray n } := fun arr m e hs => by
    obtain ⟨its, r, ⟨o, n, g, _, _, d⟩, _⟩ := I.list hs
    rw [e] at g
    cases g
    cases d
    exact ⟨its, m, r, e⟩
  rcases h with ⟨arr, m, q⟩ | ⟨⟨arr, m, q⟩, hs⟩
  · obtain ⟨_, _, its, n, r, e⟩ := (show ObjOk X.prog X.w H s.heap a (.frz { cls := .type "list", data := .seq arr m } (.lst vs)) from I.hok a _ q)
    exact ⟨its, n, r, e⟩
  · exact key arr m (I.kIn a _ q) (hs H)
theorem op_addF_ok : OpR X (binaryOp .Add) (rD X.K cad catF) := by
  intro pins s σ H x y v u Q I rx ry ⟨μ, G, d1, d2, hr, r1, r2, h⟩
  unfold catF at h
  split at h
  · rename_i m n
    obtain ⟨a, b, e1, e2, hz, h⟩ := h
    obtain ⟨p, vs, g1, g2, l1⟩ := hr.lst e1
    obtain ⟨q, ws, g3, g4, l2⟩ := hr.frzP e2
    obtain ⟨p', g5, rfl⟩ := rp_ref.mp r1
    obtain ⟨q', g6, rfl⟩ := rp_ref.mp r2
    rw [g1] at g5; cases g5
    rw [g3] at g6; cases g6
    cases rx
    cases ry
    obtain ⟨z, its, n1, r, hl, e⟩ := I.lstM g2
    obtain ⟨its2, n2, r2', e2'⟩ := g4.plain I
    have hl2 := r2'.length
    have hla := l1.length
    have hlb := l2.length
    refine PySem.P.add_list e e2' ?_ (by rw [List.size_toArray, List.size_toArray]; omega)
    have ea : its.toArray ++ its2.toArray = (its ++ its2).toArray := by simp
    rw [ea]
    exact ⟨.ref _, _, I.lnew (t' := s.toks) (r.append r2') (by rw [List.length_append]; omega), rfl, h.newL hr (l1.append l2) I.fresh⟩
  · exact h.elim
theorem tuple_mul1 (l : Addr) (items : Array Value) (n : Nat) (dd : Option Addr) (sl : Array (Option Value)) (u : Tok) :
    Meets (Builtin.«tuple.__mul__» ⟨[.ref l, .int 1 u], []⟩) (fun _ R s => s.heap.get? l = some { cls := .type "tuple", dict := dd, data := .seq items n, slots := sl } ∧ R (.ok (.ret (Value.ref l))) s) :=
  .of_wp fun prog w A R s h => by
    obtain ⟨hp, g, d, tk, os⟩ := s
    obtain ⟨hl, h⟩ := h
    have f1 := AutoSeq1.idx_int
    have c1 : (items.isEmpty || (1 : Int) == 1) = true := by simp
    wp_walk using wpAny_loadPart' hl
    repeat (first
      | (refine wpAny_ite_true (decide_eq_true c1) ?_; wp_walk using wpAny_loadPart' hl)
      | (refine wpAny_ite_false (decide_eq_false (by decide)) ?_; wp_walk using wpAny_loadPart' hl))
    exact ⟨_, rfl, h⟩
theorem op_repT1 {K : PySem.W.Frag} : OpR X (binaryOp .Mult) (fun x y H Q => ∃ l xs, x = .ref l ∧ y = .int 1 ∧ SqT X.K H l xs ∧ Q (.ref l) H) := by
  intro pins s σ H x y v u Q I rx ry h
  obtain ⟨l, xs, rfl, rfl, hT, q⟩ := h
  cases rx
  obtain ⟨t, rfl⟩ := ry
  obtain ⟨its, r, ⟨⟨cls, dd, data, sl⟩, ho, hc, n, hd⟩, hs⟩ := I.tuple hT
  simp only at hc hd
  subst hc hd
  exact wpAny_binaryOp_repeat_ref (T := "tuple") (U := "int") (by decide) ⟨_, ho, rfl⟩ (fun s' => typeIs_int s' 1 t) noFill_tuple_mul F.fills_int_mul F.slot_int_rmul repeat_tuple F.slot_int_index.lookup
    (call_meets F.slot_int_rmul (typeIs_int s 1 t) F.entry_int_rmul (F.args_int_rmul_2 _ _) (int_rmul_tuple 1 t l its.toArray n dd sl)
      ⟨ho, rfl, ⟨_, ho, rfl⟩, call_meets F.slot_tuple_mul ⟨_, ho, rfl⟩ F.entry_tuple_mul (F.args_tuple_mul_2 _ _) (tuple_mul1 l its.toArray n dd sl t) ⟨ho, ⟨.ref l, H, I, rfl, q⟩⟩⟩)
theorem tuple_mul0 (l : Addr) (items : Array Value) (n : Nat) (dd : Option Addr) (sl : Array (Option Value)) (u : Tok) (hne : items.isEmpty = false) :
    Meets (Builtin.«tuple.__mul__» ⟨[.ref l, .int 0 u], []⟩) (fun _ R s => s.heap.get? l = some { cls := .type "tuple", dict := dd, data := .seq items n, slots := sl } ∧
      R (.ok (.ret (Value.ref s.heap.objs.size))) { s with heap := s.heap.push { cls := Value.type "tuple", data := Data.seq #[] }, toks := s.toks }) :=
  .of_wp fun prog w A R s h => by
    obtain ⟨hp, g, d, tk, os⟩ := s
    obtain ⟨hl, h⟩ := h
    have f1 := AutoSeq1.idx_int
    have c1 : (items.isEmpty || (0 : Int) == 1) = false := by rw [hne]; rfl
    have c2 : (decide ((0 : Int) ≤ 0) || items.isEmpty) = true := by simp
    wp_walk using wpAny_loadPart' hl
    repeat (first
      | (refine wpAny_ite_false (decide_eq_false (by decide)) ?_; wp_walk using wpAny_loadPart' hl)
      | (refine wpAny_ite_false (decide_eq_false (by rw [c1]; exact Bool.false_ne_true)) ?_; wp_walk using wpAny_loadPart' hl)
      | (refine wpAny_ite_true (decide_eq_true c2) ?_; wp_walk using wpAny_loadPart' hl))
    exact ⟨_, rfl, h⟩
theorem op_repT0 {K : PySem.W.Frag} : OpR X (binaryOp .Mult) (fun x y H Q => ∃ l xs, x = .ref l ∧ y = .int 0 ∧ SqT X.K H l xs ∧ xs ≠ [] ∧ ∀ p, H p = none → Q (.ref p) (upd H p (.tup []))) := by
  intro pins s σ H x y v u Q I rx ry h
  obtain ⟨l, xs, rfl, rfl, hT, hne, q⟩ := h
  cases rx
  obtain ⟨t, rfl⟩ := ry
  obtain ⟨its, r, ⟨⟨cls, dd, data, sl⟩, ho, hc, n, hd⟩, hs⟩ := I.tuple hT
  simp only at hc hd
  subst hc hd
  have hi : its.toArray.isEmpty = false := by
    cases its with
    | nil =>
      have := r.length
      exact absurd (List.eq_nil_of_length_eq_zero this) hne
    | cons a b => rfl
  refine wpAny_binaryOp_repeat_ref (T := "tuple") (U := "int") (by decide) ⟨_, ho, rfl⟩ (fun s' => typeIs_int s' 0 t) noFill_tuple_mul F.fills_int_mul F.slot_int_rmul repeat_tuple F.slot_int_index.lookup
    (call_meets F.slot_int_rmul (typeIs_int s 0 t) F.entry_int_rmul (F.args_int_rmul_2 _ _) (int_rmul_tuple 0 t l its.toArray n dd sl)
      ⟨ho, rfl, ⟨_, ho, rfl⟩, call_meets F.slot_tuple_mul ⟨_, ho, rfl⟩ F.entry_tuple_mul (F.args_tuple_mul_2 _ _) (tuple_mul0 l its.toArray n dd sl t hi) ⟨ho, ?_⟩⟩)
  refine ⟨.ref _, _, I.laid (t' := s.toks) (o := .tup []) (fun b ob q => Heap.get?_push_of_some _ q) (Nat.le_refl _) ?_, rfl, q _ (I.hok.fresh (Nat.le_refl _))⟩
  exact ⟨by show 0 ≤ sizeLine; decide, [], .nil, ⟨_, Heap.get?_push_size _ rfl, rfl, _, rfl⟩⟩
theorem op_mul_ok : OpR X (binaryOp .Mult) (rD X.K cad mulD) := by
  intro pins s σ H x y v u Q I rx ry ⟨μ, G, d1, d2, hr, r1, r2, h⟩
  unfold mulD at h
  split at h
  · rename_i i j
    rw [rp_int] at r1 r2
    subst r1 r2
    rcases h.1 with hm | hm
    · exact op_mul pins s σ H _ _ v u Q I rx ry ⟨i, j, rfl, rfl, hm, h.2.now hr (rp_int.mpr rfl)⟩
    · exact op_mulX pins s σ H _ _ v u Q I rx ry ⟨i, j, rfl, rfl, hm, h.2.now hr (rp_int.mpr rfl)⟩
  · rename_i m k
    obtain ⟨a, e1, h1, h2, hz, h⟩ := h
    obtain ⟨p, vs, g1, g2, l1⟩ := hr.lst e1
    obtain ⟨p', g5, rfl⟩ := rp_ref.mp r1
    rw [g1] at g5; cases g5
    rw [rp_int] at r2
    subst r2
    exact op_rep pins s σ H _ _ v u Q I rx ry ⟨p, k, vs, rfl, rfl, g2, by omega, by omega, by rw [← l1.length]; exact hz, fun l hl => h.newL hr (l1.rep _) hl⟩
  · rename_i a k
    obtain ⟨hne, h1, h2, hz, h⟩ := h
    obtain ⟨p, vs, rfl, q1, l1⟩ := rp_tup.mp r1
    rw [rp_int] at r2
    subst r2
    by_cases hk0 : k = 0
    · subst hk0
      refine op_repT0 (K := X.K) pins s σ H _ _ v u Q I rx ry ⟨p, vs, rfl, rfl, q1, fun e => hne ?_, fun l hl => h.newT hr (xs := []) (vs := []) (rpl_nil.mpr rfl) hl⟩
      subst e
      exact List.eq_nil_of_length_eq_zero (l1.length)
    by_cases hk : k = 1
    · subst hk
      refine op_repT1 (K := X.K) pins s σ H _ _ v u Q I rx ry ⟨p, vs, rfl, rfl, q1, ?_⟩
      have e : (List.replicate (1 : Int).toNat a).flatten = a := by simp
      rw [e] at h
      exact h.now hr r1
    · refine op_repT pins s σ H _ _ v u Q I rx ry ⟨p, k, vs, rfl, rfl, q1, fun e => hne ?_, by omega, h2, by rw [← l1.length]; exact hz, fun l hl => h.newT hr (l1.rep _) hl⟩
      subst e
      exact List.eq_nil_of_length_eq_zero (l1.length)
  · exact h.elim
theorem opI_ok {f : Value → Value → Sem Value} {C : Int → Int → Prop} {g : Int → Int → Int} (ho : OpR X f (rI C fun i j => .int (g i j))) : OpR X f (rD X.K cad (intD C g)) := by
  intro pins s σ H x y v u Q I rx ry ⟨μ, G, d1, d2, hr, r1, r2, h⟩
  unfold intD at h
  split at h
  · rename_i i j
    rw [rp_int] at r1 r2
    subst r1 r2
    exact ho pins s σ H _ _ v u Q I rx ry ⟨i, j, rfl, rfl, h.1, h.2.now hr (rp_int.mpr rfl)⟩
  · exact h.elim
theorem opI0_ok {f : Value → Value → Sem Value} {g : Int → Int → Int} (ho : OpR X f (rI0 fun i j => .int (g i j))) : OpR X f (rD X.K cad (intD (fun _ _ => True) g)) :=
  opI_ok fun pins s σ H x y v u Q I rx ry ⟨i, j, e1, e2, _, q⟩ => ho pins s σ H x y v u Q I rx ry ⟨i, j, e1, e2, q⟩
theorem op_powX : OpR X (binaryOp .Pow) (rI PowOk fun i j => .int (i ^ j.toNat)) := opI fun _ _ _ _ _ _ _ hc q => PyProof.Rows.pow_int hc.1 hc.2 q
def Op2.py : Op2 → Operator
  | .add => .Add
  | .sub => .Sub
  | .mul => .Mult
  | .fdiv => .FloorDiv
  | .mod => .Mod
  | .pow => .Pow
  | .bor => .BitOr
  | .shl => .LShift
  | .shr => .RShift
  | .addF => .Add
theorem op2_ok (o : Op2) : OpR X (binaryOp o.py) (rD X.K cad (op2D o)) := by
  cases o
  · exact op_add_ok
  · exact opI0_ok op_sub
  · exact op_mul_ok
  · exact opI_ok op_fdivW
  · exact opI_ok op_mod
  · exact opI_ok op_powX
  · exact opI0_ok op_or
  · exact opI_ok op_shlW
  · exact opI_ok op_shr
  · exact op_addF_ok
/-- which operators may stand before = -/
def Op2.aug : Op2 → Bool
  | .add | .sub | .bor | .shl | .shr => true
  | _ => false
theorem no_iadd_tuple : typeLookup (.type "tuple") (dunderI "add") = pure none := by rw [typeLookup_type, builtinLookup_eq_fast]; kernel_rfl
theorem icat_tup {prog : Program} {w : World} {A : Around} {E : Value → Shared → Prop} {s : Shared} {t b : Addr} {vs ws : List Value} {Q : Value → Shared → Prop} (ht : IsTup s.heap t vs.toArray) (hb : IsTup s.heap b ws.toArray)
    (h0 : vs = [] → Q (.ref b) s) (h1 : vs ≠ [] → ws = [] → Q (.ref t) s) (h2 : vs ≠ [] → ws ≠ [] → Q (.ref s.heap.objs.size) { s with heap := s.heap.push { cls := .type "tuple", data := .seq (vs ++ ws).toArray } })
    (hsz : vs.length + ws.length ≤ sizeLine) : wpAny (model prog w) A (inplaceOp .Add (.ref t) (.ref b)) Q E s := by
  obtain ⟨⟨cls, dd, data, sl⟩, ho, hc, n, hd⟩ := id ht
  obtain ⟨⟨cls2, dd2, data2, sl2⟩, ho2, hc2, n2, hd2⟩ := id hb
  simp only at hc hd hc2 hd2
  subst hc hd hc2 hd2
  have e : vs.toArray ++ ws.toArray = (vs ++ ws).toArray := by simp
  refine wpAny_inplaceOp_concat (T := "tuple") (id := "tuple.__add__") ⟨_, ho, rfl⟩ ⟨_, ho2, rfl⟩ no_iadd_tuple noFill_tuple_add seq_tuple_add ?_
  by_cases hv : vs = []
  · exact call_meets PySem.F.slot_tuple_add ⟨_, ho, rfl⟩ PySem.F.entry_tuple_add (PySem.F.args_tuple_add_2 _ _) (tuple_addW0 t b vs.toArray ws.toArray n n2 dd dd2 sl sl2 (by simp [hv])) ⟨ho, ho2, h0 hv⟩
  · by_cases hw : ws = []
    · exact call_meets PySem.F.slot_tuple_add ⟨_, ho, rfl⟩ PySem.F.entry_tuple_add (PySem.F.args_tuple_add_2 _ _) (tuple_addW1 t b vs.toArray ws.toArray n n2 dd dd2 sl sl2 (by simpa using hv) (by simp [hw])) ⟨ho, ho2, h1 hv hw⟩
    · refine call_meets PySem.F.slot_tuple_add ⟨_, ho, rfl⟩ PySem.F.entry_tuple_add (PySem.F.args_tuple_add_2 _ _) (tuple_addW2 t b vs.toArray ws.toArray n n2 dd dd2 sl sl2 (by simpa using hv) (by simpa using hw) (by rw [List.size_toArray, List.size_toArray]; exact hsz)) ⟨ho, ho2, ?_⟩
      rw [e]
      exact h2 hv hw
theorem iadd_ok : OpR X (inplaceOp .Add) (rD X.K cad iaddD) := by
  intro pins s σ H x y v u Q I rx ry ⟨μ, G, d1, d2, hr, r1, r2, h⟩
  unfold iaddD at h
  split at h
  · rename_i i j
    rw [rp_int] at r1 r2
    subst r1 r2
    exact iop_add pins s σ H _ _ v u Q I rx ry ⟨i, j, rfl, rfl, h.now hr (rp_int.mpr rfl)⟩
  · rename_i a b
    obtain ⟨p, vs, rfl, q1, l1⟩ := rp_tup.mp r1
    obtain ⟨q, ws, rfl, q2, l2⟩ := rp_tup.mp r2
    cases rx
    cases ry
    obtain ⟨its, e1, p1, _⟩ := I.tuple q1
    obtain ⟨its2, e2, p2, _⟩ := I.tuple q2
    refine icat_tup p1 p2 (fun z => ?_) (fun z z2 => ?_) (fun z z2 => ?_) (by rw [← e1.length, ← e2.length, ← l1.length, ← l2.length]; exact h.1)
    · have ev : vs = [] := e1.nil_iff.mp z
      subst ev
      have ea : a = [] := List.eq_nil_of_length_eq_zero (l1.length)
      subst ea
      exact ⟨.ref q, H, I, rfl, h.2.now hr r2⟩
    · have ev : ws = [] := e2.nil_iff.mp z2
      subst ev
      have ea : b = [] := List.eq_nil_of_length_eq_zero (l2.length)
      subst ea
      have h2 := h.2
      rw [List.append_nil] at h2
      exact ⟨.ref p, H, I, rfl, h2.now hr r1⟩
    · refine ⟨.ref s.heap.objs.size, _, I.laid (t' := s.toks) (o := .tup (vs ++ ws)) (fun b ob q => Heap.get?_push_of_some _ q) (Nat.le_refl _) ?_, rfl, h.2.newT hr (l1.append l2) (I.hok.fresh (Nat.le_refl _))⟩
      exact ⟨by rw [List.length_append, ← l1.length, ← l2.length]; exact h.1, _, e1.append e2, IsTup.new _ _⟩
  · exact h.elim
theorem iop2_ok (o : Op2) (h : o.aug = true) : OpR X (inplaceOp o.py) (rD X.K cad (augD o)) := by
  cases o <;> simp [Op2.aug] at h
  · exact iadd_ok
  · exact opI0_ok iop_sub
  · exact opI0_ok iop_or
  · exact opI_ok iop_shlW
  · exact opI_ok iop_shr

/-! ### comparisons -/
def rCm (K : PySem.W.Frag) (cad : Cad) (o : Cm) : R2 := fun x y H Q => ∃ μ G d1 d2, HRel K cad H μ G ∧ Rp K H μ d1 x ∧ Rp K H μ d2 y ∧ cmpD o d1 d2 G fun b => Q (.bl b) H
mutual
theorem rp_data {K : PySem.W.Frag} {H : Hp} {μ : List Addr} {G : Gh} (hr : HRel K cad H μ G) : ∀ (n : Nat) (d : Dt) (v : V) (p : PyData), Rp K H μ d v → pdN n G d = some p → Dp K H v p
  | n, .non, v, p, r, e => by
    rw [rp_non] at r; subst r
    have e : some PyData.none = some p := by cases n <;> (unfold pdN at e; exact e)
    cases e; exact .non
  | n, .bl b, v, p, r, e => by
    rw [rp_bl] at r; subst r
    have e : some (PyData.bool b) = some p := by cases n <;> (unfold pdN at e; exact e)
    cases e; exact .bl b
  | n, .int b, v, p, r, e => by
    rw [rp_int] at r; subst r
    have e : some (PyData.int b) = some p := by cases n <;> (unfold pdN at e; exact e)
    cases e; exact .int b
  | n, .str b, v, p, r, e => by
    rw [rp_str] at r; subst r
    have e : some (PyData.str b) = some p := by cases n <;> (unfold pdN at e; exact e)
    cases e; exact .str b
  | 0, .tup xs, v, p, r, e => by unfold pdN at e; cases e
  | 0, .ref k, v, p, r, e => by unfold pdN at e; cases e
  | n + 1, .tup xs, v, p, r, e => by
    unfold pdN at e
    obtain ⟨a, vs, rfl, q, l⟩ := rp_tup.mp r
    cases e2 : pdL n G xs with
    | none => rw [e2] at e; cases e
    | some ps =>
      rw [e2] at e; cases e
      exact .tup q (rpl_data hr n xs vs ps l e2)
  | n + 1, .ref k, v, p, r, e => by
    unfold pdN at e
    obtain ⟨a, g1, rfl⟩ := rp_ref.mp r
    cases e1 : lstAt G k with
    | none => rw [e1] at e; cases e
    | some xs =>
      rw [e1] at e
      obtain ⟨a', vs, g2, q, l⟩ := hr.lstAt e1
      rw [g1] at g2; cases g2
      cases e2 : pdL n G xs with
      | none => simp only [e2] at e; cases e
      | some ps =>
        simp only [e2] at e; cases e
        exact .lst q (rpl_data hr n xs vs ps l e2)
theorem rpl_data {K : PySem.W.Frag} {H : Hp} {μ : List Addr} {G : Gh} (hr : HRel K cad H μ G) : ∀ (n : Nat) (ds : List Dt) (vs : List V) (ps : List PyData), RpL K H μ ds vs → pdL n G ds = some ps → DpAll K H vs ps
  | n, [], vs, ps, r, e => by
    rw [rpl_nil] at r; subst r
    have e : some [] = some ps := by cases n <;> (unfold pdL at e; exact e)
    cases e; exact .nil
  | 0, _ :: _, vs, ps, r, e => by unfold pdL at e; cases e
  | n + 1, d :: ds, vs, ps, r, e => by
    unfold pdL at e
    obtain ⟨v, r', rfl, h1, h2⟩ := rpl_cons.mp r
    cases e1 : pdN n G d with
    | none => simp only [e1] at e; cases e
    | some p =>
      cases e2 : pdL n G ds with
      | none => simp only [e1, e2] at e; cases e
      | some ps' =>
        simp only [e1, e2] at e; cases e
        exact .cons (rp_data hr n d v p h1 e1) (rpl_data hr n ds r' ps' h2 e2)
end
mutual
theorem rp_datX {K : PySem.W.Frag} {H : Hp} {μ : List Addr} {G : Gh} (hr : HRel K cad H μ G) : ∀ (n : Nat) (d : Dt) (v : V) (p : PyData), Rp K H μ d v → pxN n G d = some p → DpX K H v p
  | n, .non, v, p, r, e => by
    rw [rp_non] at r; subst r
    have e : some PyData.none = some p := by cases n <;> (unfold pxN at e; exact e)
    cases e; exact .non
  | n, .bl b, v, p, r, e => by
    rw [rp_bl] at r; subst r
    have e : some (PyData.bool b) = some p := by cases n <;> (unfold pxN at e; exact e)
    cases e; exact .bl b
  | n, .int b, v, p, r, e => by
    rw [rp_int] at r; subst r
    have e : some (PyData.int b) = some p := by cases n <;> (unfold pxN at e; exact e)
    cases e; exact .int b
  | n, .str b, v, p, r, e => by
    rw [rp_str] at r; subst r
    have e : some (PyData.str b) = some p := by cases n <;> (unfold pxN at e; exact e)
    cases e; exact .str b
  | 0, .tup xs, v, p, r, e => by unfold pxN at e; cases e
  | 0, .ref k, v, p, r, e => by unfold pxN at e; cases e
  | n + 1, .tup xs, v, p, r, e => by
    unfold pxN at e
    obtain ⟨a, vs, rfl, q, l⟩ := rp_tup.mp r
    cases e2 : pxL n G xs with
    | none => rw [e2] at e; cases e
    | some ps =>
      rw [e2] at e; cases e
      exact .tup q (rpl_datX hr n xs vs ps l e2)
  | n + 1, .ref k, v, p, r, e => by
    unfold pxN at e
    obtain ⟨a, g1, rfl⟩ := rp_ref.mp r
    cases e1 : lstAt G k with
    | none =>
      rw [e1] at e
      dsimp only at e
      split at e
      · rename_i e2
        cases e
        obtain ⟨a', g2, ws, q, ek, _⟩ := hr.at e2
        rw [g1] at g2; cases g2
        have : ws = [] := by
          cases ws with
          | nil => rfl
          | cons _ _ => cases ek
        rw [this] at q
        exact .dk q
      · cases e
    | some xs =>
      rw [e1] at e
      obtain ⟨a', vs, g2, q, l⟩ := hr.lstAt e1
      rw [g1] at g2; cases g2
      cases e2 : pxL n G xs with
      | none => simp only [e2] at e; cases e
      | some ps =>
        simp only [e2] at e; cases e
        exact .lst q (rpl_datX hr n xs vs ps l e2)
theorem rpl_datX {K : PySem.W.Frag} {H : Hp} {μ : List Addr} {G : Gh} (hr : HRel K cad H μ G) : ∀ (n : Nat) (ds : List Dt) (vs : List V) (ps : List PyData), RpL K H μ ds vs → pxL n G ds = some ps → DpXs K H vs ps
  | n, [], vs, ps, r, e => by
    rw [rpl_nil] at r; subst r
    have e : some [] = some ps := by cases n <;> (unfold pxL at e; exact e)
    cases e; exact .nil
  | 0, _ :: _, vs, ps, r, e => by unfold pxL at e; cases e
  | n + 1, d :: ds, vs, ps, r, e => by
    unfold pxL at e
    obtain ⟨v, r', rfl, h1, h2⟩ := rpl_cons.mp r
    cases e1 : pxN n G d with
    | none => simp only [e1] at e; cases e
    | some p =>
      cases e2 : pxL n G ds with
      | none => simp only [e1, e2] at e; cases e
      | some ps' =>
        simp only [e1, e2] at e; cases e
        exact .cons (rp_datX hr n d v p h1 e1) (rpl_datX hr n ds r' ps' h2 e2)
end
def Cm.py : Cm → CmpOp
  | .eq => .Eq
  | .ne => .NotEq
  | .lt => .Lt
  | .le => .LtE
  | .gt => .Gt
  | .ge => .GtE
  | .is_ => .Is
  | .isnot => .IsNot
  | .in_ => .In
  | .notin => .NotIn
theorem opB_ok {f : Value → Value → Sem Value} {g : Int → Int → Bool} {K : PySem.W.Frag} (ho : OpR X f (rI0 fun i j => .bl (g i j))) : OpR X f (fun x y H Q => ∃ μ G d1 d2, HRel X.K cad H μ G ∧ Rp X.K H μ d1 x ∧ Rp X.K H μ d2 y ∧ cmpI g d1 d2 fun b => Q (.bl b) H) := by
  intro pins s σ H x y v u Q I rx ry ⟨μ, G, d1, d2, hr, r1, r2, h⟩
  unfold cmpI at h
  split at h
  · rename_i i j
    rw [rp_int] at r1 r2
    subst r1 r2
    exact ho pins s σ H _ _ v u Q I rx ry ⟨i, j, rfl, rfl, h⟩
  · exact h.elim
theorem flat_of {K : PySem.W.Frag} {H : Hp} {μ : List Addr} {d : Dt} {v : V} (r : Rp K H μ d v) (h : flatD d = true) : flatV v = true := by
  cases d with
  | non => rw [rp_non.mp r]; rfl
  | bl b => rw [rp_bl.mp r]; rfl
  | int b => rw [rp_int.mp r]; rfl
  | str b => rw [rp_str.mp r]; rfl
  | tup _ => cases h
  | ref _ => cases h
theorem eqF_of {K : PySem.W.Frag} {H : Hp} {μ : List Addr} {d e : Dt} {v u : V} (r : Rp K H μ d v) (r2 : Rp K H μ e u) (h : flatD d = true) (h2 : flatD e = true) : eqV v u = eqF d e := by
  cases d with
  | non =>
    rw [rp_non.mp r]
    cases e with
    | non => rw [rp_non.mp r2]; rfl
    | bl b => rw [rp_bl.mp r2]; rfl
    | int b => rw [rp_int.mp r2]; rfl
    | str b => rw [rp_str.mp r2]; rfl
    | tup _ => cases h2
    | ref _ => cases h2
  | bl b =>
    rw [rp_bl.mp r]
    cases e with
    | non => rw [rp_non.mp r2]; rfl
    | bl b => rw [rp_bl.mp r2]; rfl
    | int b => rw [rp_int.mp r2]; rfl
    | str b => rw [rp_str.mp r2]; rfl
    | tup _ => cases h2
    | ref _ => cases h2
  | int b =>
    rw [rp_int.mp r]
    cases e with
    | non => rw [rp_non.mp r2]; rfl
    | bl b => rw [rp_bl.mp r2]; rfl
    | int b => rw [rp_int.mp r2]; rfl
    | str b => rw [rp_str.mp r2]; rfl
    | tup _ => cases h2
    | ref _ => cases h2
  | str b =>
    rw [rp_str.mp r]
    cases e with
    | non => rw [rp_non.mp r2]; rfl
    | bl b => rw [rp_bl.mp r2]; rfl
    | int b => rw [rp_int.mp r2]; rfl
    | str b => rw [rp_str.mp r2]; rfl
    | tup _ => cases h2
    | ref _ => cases h2
  | tup _ => cases h
  | ref _ => cases h
theorem flats_of {K : PySem.W.Frag} {H : Hp} {μ : List Addr} : ∀ {ds : List Dt} {vs : List V}, RpL K H μ ds vs → ds.all flatD = true → vs.all flatV = true
  | [], vs, r, _ => by rw [rpl_nil.mp r]; rfl
  | d :: ds, vs, r, h => by
    obtain ⟨v, r', rfl, h1, h2⟩ := rpl_cons.mp r
    rw [List.all_cons, Bool.and_eq_true] at h
    rw [List.all_cons, flat_of h1 h.1, flats_of h2 h.2]
    rfl
theorem anyF_of {K : PySem.W.Frag} {H : Hp} {μ : List Addr} {e : Dt} {u : V} (r2 : Rp K H μ e u) (h2 : flatD e = true) : ∀ {ds : List Dt} {vs : List V}, RpL K H μ ds vs → ds.all flatD = true → inV u vs = ds.any fun y => eqF y e
  | [], vs, r, _ => by rw [rpl_nil.mp r]; rfl
  | d :: ds, vs, r, h => by
    obtain ⟨v, r', rfl, h1, h3⟩ := rpl_cons.mp r
    rw [List.all_cons, Bool.and_eq_true] at h
    have ih := anyF_of r2 h2 h3 h.2
    unfold inV at ih ⊢
    rw [List.any_cons, List.any_cons, eqF_of h1 r2 h.1 h2, ih]
theorem is_of {K : PySem.W.Frag} {H : Hp} {μ : List Addr} {d : Dt} {v : V} (r : Rp K H μ d v) : decide (v = .non) = isNonD d := by
  cases d with
  | non => rw [rp_non.mp r]; rfl
  | bl b => rw [rp_bl.mp r]; rfl
  | int b => rw [rp_int.mp r]; rfl
  | str b => rw [rp_str.mp r]; rfl
  | tup _ => obtain ⟨a, vs, rfl, _⟩ := rp_tup.mp r; rfl
  | ref _ => obtain ⟨a, _, rfl⟩ := rp_ref.mp r; rfl
theorem cmp_ok (hu : X.A.units + 65 < cLine) (o : Cm) : OpR X (compareOp o.py) (rCm X.K cad o) := by
  cases o
  · intro pins s σ H x y v u Q I rx ry ⟨μ, G, d1, d2, hr, r1, r2, hh⟩
    rcases hh with (⟨a, b, rfl, rfl, h⟩ | ⟨xs, rfl, rfl, h⟩) | ⟨n, p, q, e1, e2, s1, s2, h⟩
    · rw [rp_str] at r1 r2
      subst r1 r2
      exact op_eq pins s σ H _ _ v u Q I rx ry ⟨rfl, by rw [dec_str]; exact h⟩
    · obtain ⟨a, vs, rfl, q1, l1⟩ := rp_tup.mp r1
      obtain ⟨b, ws, rfl, q2, l2⟩ := rp_tup.mp r2
      rw [rpl_nil.mp l2] at q2
      refine op_eqN (by omega) pins s σ H _ _ v u Q I rx ry ⟨a, b, vs, rfl, rfl, q1, q2, ?_⟩
      have e : vs.isEmpty = xs.isEmpty := by
        have := l1.length
        cases xs <;> cases vs <;> first | rfl | cases this
      rw [e]
      exact h
    · exact op_eqD (by omega) pins s σ H x y v u Q I rx ry ⟨p, q, rp_data hr n _ _ _ r1 e1, rp_data hr n _ _ _ r2 e2, s1, s2, h⟩
  · intro pins s σ H x y v u Q I rx ry ⟨μ, G, d1, d2, hr, r1, r2, hh⟩
    rcases hh with (⟨a, b, rfl, rfl, h⟩ | ⟨xs, rfl, rfl, h⟩) | ⟨n, p, q, e1, e2, s1, s2, h⟩
    · rw [rp_str] at r1 r2
      subst r1 r2
      exact op_ne pins s σ H _ _ v u Q I rx ry ⟨rfl, by rw [dec_str]; exact h⟩
    · obtain ⟨a, vs, rfl, q1, l1⟩ := rp_tup.mp r1
      obtain ⟨b, ws, rfl, q2, l2⟩ := rp_tup.mp r2
      rw [rpl_nil.mp l2] at q2
      refine op_neN (by omega) pins s σ H _ _ v u Q I rx ry ⟨a, b, vs, rfl, rfl, q1, q2, ?_⟩
      have e : vs.isEmpty = xs.isEmpty := by
        have := l1.length
        cases xs <;> cases vs <;> first | rfl | cases this
      rw [e]
      exact h
    · exact op_neD (by omega) pins s σ H x y v u Q I rx ry ⟨p, q, rp_data hr n _ _ _ r1 e1, rp_data hr n _ _ _ r2 e2, s1, s2, h⟩
  · exact opB_ok (K := X.K) op_lt
  · exact opB_ok (K := X.K) op_le
  · exact opB_ok (K := X.K) op_gt
  · exact opB_ok (K := X.K) op_ge
  · intro pins s σ H x y v u Q I rx ry ⟨μ, G, d1, d2, hr, r1, r2, b, e, h⟩
    unfold isD at e
    split at e
    · cases e
      have e2 := rp_non.mp r2
      subst e2
      refine op_isN pins s σ H x _ v u Q I rx ry ⟨rfl, ?_⟩
      rw [is_of r1]
      exact h
    · cases e
      rw [rp_bl] at r1 r2
      subst r1 r2
      refine op_is_bl pins s σ H _ _ v u Q I rx ry ⟨_, _, rfl, rfl, ?_⟩
      rw [show ∀ a b : Bool, decide (a = b) = (a == b) from fun a b => by cases a <;> cases b <;> rfl]
      exact h
    · cases e
  · intro pins s σ H x y v u Q I rx ry ⟨μ, G, d1, d2, hr, r1, r2, b, e, h⟩
    unfold isD at e
    split at e
    · cases e
      have e2 := rp_non.mp r2
      subst e2
      refine op_notN pins s σ H x _ v u Q I rx ry ⟨rfl, ?_⟩
      rw [is_of r1]
      exact h
    · cases e
      rw [rp_bl] at r1 r2
      subst r1 r2
      refine op_isnot_bl pins s σ H _ _ v u Q I rx ry ⟨_, _, rfl, rfl, ?_⟩
      rw [show ∀ a b : Bool, decide (a = b) = (a == b) from fun a b => by cases a <;> cases b <;> rfl]
      exact h
    · cases e
  · intro pins s σ H x y v u Q I rx ry ⟨μ, G, d1, d2, hr, r1, r2, h⟩
    have h : inOf G d1 d2 fun b => Q (.bl b) H := h
    unfold inOf at h
    split at h
    · obtain ⟨h1, h2, h⟩ := h
      obtain ⟨a, vs, rfl, q, l⟩ := rp_tup.mp r2
      refine op_in_seq pins s σ H _ _ v u Q I rx ry ⟨a, vs, rfl, .inr q, flat_of r1 h1, flats_of l h2, ?_⟩
      rw [if_neg Bool.false_ne_true, anyF_of r1 h1 l h2]
      exact h
    · obtain ⟨n, p, ys, qs, e1, e2, e3, s1, s2, h⟩ := h
      obtain ⟨a, g1, rfl⟩ := rp_ref.mp r2
      obtain ⟨a', vs, g2, q, l⟩ := hr.lstAt e2
      rw [g1] at g2; cases g2
      exact op_inD hu pins s σ H _ _ v u Q I rx ry ⟨p, qs, rp_data hr n _ _ _ r1 e1, .lst q (rpl_data hr n _ _ _ l e3), s1, s2, h⟩
    · exact h.elim
  · intro pins s σ H x y v u Q I rx ry ⟨μ, G, d1, d2, hr, r1, r2, h⟩
    have h : inOf G d1 d2 fun b => Q (.bl !b) H := h
    unfold inOf at h
    split at h
    · obtain ⟨h1, h2, h⟩ := h
      obtain ⟨a, vs, rfl, q, l⟩ := rp_tup.mp r2
      refine op_notIn_seq pins s σ H _ _ v u Q I rx ry ⟨a, vs, rfl, .inr q, flat_of r1 h1, flats_of l h2, ?_⟩
      rw [if_pos rfl, anyF_of r1 h1 l h2]
      exact h
    · obtain ⟨n, p, ys, qs, e1, e2, e3, s1, s2, h⟩ := h
      obtain ⟨a, g1, rfl⟩ := rp_ref.mp r2
      obtain ⟨a', vs, g2, q, l⟩ := hr.lstAt e2
      rw [g1] at g2; cases g2
      exact op_notInD hu pins s σ H _ _ v u Q I rx ry ⟨p, qs, rp_data hr n _ _ _ r1 e1, .lst q (rpl_data hr n _ _ _ l e3), s1, s2, h⟩
    · exact h.elim
/-! ### subscripts, slices -/
theorem atI_of {K : PySem.W.Frag} {H : Hp} {μ : List Addr} {ds : List Dt} {vs : List V} {i : Int} {d : Dt} (r : RpL K H μ ds vs) (e : atI ds i = some d) : ∃ v, atI vs i = some v ∧ Rp K H μ d v := by
  unfold atI at e ⊢
  rw [r.length] at e
  cases q : ixN vs.length i with
  | none => rw [q] at e; cases e
  | some j =>
    rw [q] at e
    exact r.get e
theorem dvl_of {K : PySem.W.Frag} {H : Hp} {μ : List Addr} {k : Key} : ∀ {kvs : List (Key × Dt)} {ws : List (Key × V)} {d : Dt}, ws.map (·.1) = kvs.map (·.1) → RpL K H μ (kvs.map (·.2)) (ws.map (·.2)) → valG kvs k = some d → ∃ v, valV ws k = some v ∧ Rp K H μ d v
  | [], ws, d, e, r, h => by cases h
  | p :: kvs, [], d, e, r, h => by cases e
  | p :: kvs, w :: ws, d, e, r, h => by
    simp only [List.map_cons, List.cons.injEq] at e
    obtain ⟨v, r', er, r1, r2⟩ := rpl_cons.mp r
    simp only [List.map_cons, List.cons.injEq] at er
    obtain ⟨rfl, rfl⟩ := er
    by_cases hk : p.1 = k
    · rw [valV_pos (e.1.trans hk)]
      have : d = p.2 := by simpa [valG, List.find?_cons, hk] using h.symm
      exact ⟨_, rfl, this ▸ r1⟩
    · rw [valV_neg (fun z => hk (e.1.symm.trans z))]
      exact dvl_of e.2 r2 (by simpa [valG, List.find?_cons, hk] using h)
theorem dput_map {K : PySem.W.Frag} {H : Hp} {μ : List Addr} {k : Key} {d : Dt} {v : V} (rd : Rp K H μ d v) : ∀ {kvs : List (Key × Dt)} {ws : List (Key × V)}, ws.map (·.1) = kvs.map (·.1) → RpL K H μ (kvs.map (·.2)) (ws.map (·.2)) →
    (ws.map (fun kv => if kv.1 = k then (kv.1, v) else kv)).map (·.1) = (kvs.map (fun kv => if kv.1 = k then (kv.1, d) else kv)).map (·.1) ∧ RpL K H μ ((kvs.map (fun kv => if kv.1 = k then (kv.1, d) else kv)).map (·.2)) ((ws.map (fun kv => if kv.1 = k then (kv.1, v) else kv)).map (·.2)) ∧ (ws.any fun kv => decide (kv.1 = k)) = (kvs.any fun kv => decide (kv.1 = k))
  | [], [], e, r => ⟨rfl, r, rfl⟩
  | [], w :: ws, e, r => by cases e
  | p :: kvs, [], e, r => by cases e
  | p :: kvs, w :: ws, e, r => by
    simp only [List.map_cons, List.cons.injEq] at e
    obtain ⟨v', r', er, r1, r2⟩ := rpl_cons.mp r
    simp only [List.map_cons, List.cons.injEq] at er
    obtain ⟨rfl, rfl⟩ := er
    obtain ⟨a, b, c⟩ := dput_map rd e.2 r2
    by_cases hk : p.1 = k
    · have hw : w.1 = k := e.1.trans hk
      refine ⟨?_, ?_, ?_⟩
      · simp only [List.map_cons, hk, hw, if_true]; rw [a]
      · simp only [List.map_cons, hk, hw, if_true]; exact rpl_cons.mpr ⟨_, _, rfl, rd, b⟩
      · simp only [List.any_cons, hk, hw, c]
    · have hw : ¬ w.1 = k := fun z => hk (e.1.symm.trans z)
      refine ⟨?_, ?_, ?_⟩
      · simp only [List.map_cons, hk, hw, if_false, e.1]; rw [a]
      · simp only [List.map_cons, hk, hw, if_false]; exact rpl_cons.mpr ⟨_, _, rfl, r1, b⟩
      · simp only [List.any_cons, hk, hw, c]
theorem dput_of {K : PySem.W.Frag} {H : Hp} {μ : List Addr} {k : Key} {d : Dt} {v : V} {kvs : List (Key × Dt)} {ws : List (Key × V)} (rd : Rp K H μ d v) (e : ws.map (·.1) = kvs.map (·.1)) (r : RpL K H μ (kvs.map (·.2)) (ws.map (·.2))) :
    (putK ws k v).map (·.1) = (putG kvs k d).map (·.1) ∧ RpL K H μ ((putG kvs k d).map (·.2)) ((putK ws k v).map (·.2)) := by
  obtain ⟨a, b, c⟩ := dput_map (k := k) rd e r
  unfold putK putG
  rw [c]
  split
  · exact ⟨a, b⟩
  · refine ⟨by simp [e], ?_⟩
    rw [List.map_append, List.map_append]
    exact r.append (rpl_cons.mpr ⟨v, [], rfl, rd, rpl_nil.mpr rfl⟩)
theorem dmerge_of {K : PySem.W.Frag} {H : Hp} {μ : List Addr} : ∀ {ks : List Str} {ds : List Dt} {vs : List V} {kvs : List (Key × Dt)} {ws : List (Key × V)}, RpL K H μ ds vs → ws.map (·.1) = kvs.map (·.1) → RpL K H μ (kvs.map (·.2)) (ws.map (·.2)) →
    (mergeK ws ((ks.zip vs).map fun p => ((.inr p.1 : Key), p.2))).map (·.1) = (mergeG kvs (ks.zip ds)).map (·.1) ∧ RpL K H μ ((mergeG kvs (ks.zip ds)).map (·.2)) ((mergeK ws ((ks.zip vs).map fun p => ((.inr p.1 : Key), p.2))).map (·.2))
  | [], ds, vs, kvs, ws, rr, e, r => by
    rw [List.zip_nil_left, List.zip_nil_left]
    exact ⟨e, r⟩
  | k :: ks, [], vs, kvs, ws, rr, e, r => by
    rw [rpl_nil.mp rr]
    exact ⟨e, r⟩
  | k :: ks, d :: ds, vs, kvs, ws, rr, e, r => by
    obtain ⟨v, vs', rfl, r1, r2⟩ := rpl_cons.mp rr
    obtain ⟨a, b⟩ := dput_of (k := .inr k) r1 e r
    exact dmerge_of (ks := ks) r2 a b
theorem KeepI.dct {H : Hp} {p : Addr} {kvs : List (Key × V)} {o : HO} (h : H p = some (.dK kvs)) : KeepI H (upd H p o) :=
  ⟨fun a ys e => by rw [upd_ne (ne_of e h (fun z => by cases z))]; exact e, fun a ob u e => by rw [upd_ne (ne_of e h (fun z => by cases z))]; exact e, fun a fs e => by rw [upd_ne (ne_of e h (fun z => by cases z))]; exact e⟩
theorem ix_ok (hu : X.A.units + 65 < cLine) : IxR X (rD X.K cad ixD) := by
  intro value slice pins s σ H x y v u Q I rx ry ⟨μ, G, d1, d2, hr, r1, r2, h⟩ hs
  unfold ixD at h
  split at h
  · obtain ⟨d, e, h⟩ := h
    rw [rp_int] at r2
    subst r2
    obtain ⟨a, vs, rfl, q, l⟩ := rp_tup.mp r1
    obtain ⟨w, e2, r⟩ := atI_of l e
    exact ix_seq value slice pins s σ H _ _ v u Q I rx ry (.inr (.inl ⟨a, vs, _, w, rfl, rfl, q, e2, h.now hr r⟩)) hs
  · obtain ⟨xs, d, e1, e, h⟩ := h
    rw [rp_int] at r2
    subst r2
    obtain ⟨a, g1, rfl⟩ := rp_ref.mp r1
    obtain ⟨a', vs, g2, q, l⟩ := hr.lstAt e1
    rw [g1] at g2; cases g2
    obtain ⟨w, e2, r⟩ := atI_of l e
    exact ix_seq value slice pins s σ H _ _ v u Q I rx ry (.inl ⟨a, vs, _, w, rfl, rfl, q, e2, h.now hr r⟩) hs
  · rename_i n k
    obtain ⟨kvs, d, e1, e, h⟩ := h
    rw [rp_str] at r2
    subst r2
    obtain ⟨a, g1, rfl⟩ := rp_ref.mp r1
    obtain ⟨a', g2, ws, q, ek, l⟩ := hr.at e1
    rw [g1] at g2; cases g2
    obtain ⟨w, e2, r⟩ := dvl_of ek l e
    obtain rfl : v = Value.ref a := rx
    have dg : DGet H a (kV (.inr k)) (some w) := by
      have := DGet.k (k := .inr k) q
      rw [e2] at this
      exact this
    exact tail_any (dict_typeIs I dg) PySem.F.slot_dict_getitem.lookup (d_getItem (show X.A.units + 1 < cLine by omega) I dg ry fun w' s' I' rw' => ⟨w, H, I', rw', h.now hr r⟩) hs
  · exact h.elim
theorem cut_of {K : PySem.W.Frag} {H : Hp} {μ : List Addr} {ds : List Dt} {vs : List V} (lo hi : Option Int) (r : RpL K H μ ds vs) : RpL K H μ (cutD ds lo hi) (cutV vs lo hi) := by
  unfold cutD cutV
  rw [r.length]
  exact (r.drop _).take _
theorem sl_ok : SlR X (fun x lo hi H Q => ∃ μ G d, HRel X.K cad H μ G ∧ Rp X.K H μ d x ∧ slD d lo hi G (PostE X.K cad H μ Q)) := by
  intro pins s σ H x v vl vu lo hi sl Q I rx hs pl pu ⟨μ, G, d, hr, r1, h⟩
  unfold slD at h
  split at h
  · obtain ⟨a, vs, rfl, q, l⟩ := rp_tup.mp r1
    refine sl_tupA pins s σ H _ v vl vu _ _ sl Q I rx hs pl pu ⟨a, vs, rfl, q, fun e => ?_, fun _ p hp => h.newT hr (cut_of _ _ l) hp⟩
    have e2 : ∀ (ds : List Dt) (lo hi : Option Int), ds.length = vs.length → HT.sIx vs.length 0 lo = 0 ∧ HT.sIx vs.length vs.length hi = vs.length → cutD ds lo hi = ds := fun ds lo hi el e => by
      unfold cutD
      rw [el, e.1, e.2, Nat.sub_zero, List.drop_zero, ← el, List.take_length]
    rw [e2 _ _ _ l.length e] at h
    exact h.now hr r1
  · obtain ⟨xs, e1, h⟩ := h
    obtain ⟨a, g1, rfl⟩ := rp_ref.mp r1
    obtain ⟨a', vs, g2, q, l⟩ := hr.lstAt e1
    rw [g1] at g2; cases g2
    exact sl_list pins s σ H _ v vl vu _ _ sl Q I rx hs pl pu ⟨a, vs, rfl, q, fun p hp => h.newL hr (cut_of _ _ l) hp⟩
  · exact h.elim
/-! ### built-ins -/
def rBi (K : PySem.W.Frag) (cad : Cad) (b : Bi) : List V → Hp → VK → Prop := fun vs H Q => ∃ μ G ds, HRel K cad H μ G ∧ RpL K H μ ds vs ∧ biD b ds G (PostE K cad H μ Q)
theorem rpl1 {K : PySem.W.Frag} {H : Hp} {μ : List Addr} {d : Dt} {vs : List V} (r : RpL K H μ [d] vs) : ∃ v, vs = [v] ∧ Rp K H μ d v := by
  obtain ⟨v, r', rfl, h1, h2⟩ := rpl_cons.mp r
  rw [rpl_nil.mp h2]
  exact ⟨v, rfl, h1⟩
theorem rpl2 {K : PySem.W.Frag} {H : Hp} {μ : List Addr} {d e : Dt} {vs : List V} (r : RpL K H μ [d, e] vs) : ∃ v w, vs = [v, w] ∧ Rp K H μ d v ∧ Rp K H μ e w := by
  obtain ⟨v, r', rfl, h1, h2⟩ := rpl_cons.mp r
  obtain ⟨w, rfl, h3⟩ := rpl1 h2
  exact ⟨v, w, rfl, h1, h3⟩
theorem seq_of {K : PySem.W.Frag} {H : Hp} {μ : List Addr} {G : Gh} {d : Dt} {v : V} {xs : List Dt} (hr : HRel K cad H μ G) (r : Rp K H μ d v) (e : seqOf G d = some xs) : ∃ a vs, v = .ref a ∧ ((SqL K H a vs ∧ ∃ n, d = .ref n) ∨ (SqT K H a vs ∧ d = .tup xs)) ∧ RpL K H μ xs vs := by
  unfold seqOf at e
  split at e
  · cases e
    obtain ⟨a, vs, rfl, q, l⟩ := rp_tup.mp r
    exact ⟨a, vs, rfl, .inr ⟨q, rfl⟩, l⟩
  · obtain ⟨a, g1, rfl⟩ := rp_ref.mp r
    obtain ⟨a', vs, g2, q, l⟩ := hr.lstAt e
    rw [g1] at g2; cases g2
    exact ⟨a, vs, rfl, .inl ⟨q, _, rfl⟩, l⟩
  · cases e
/-- the built-in's own value -/
def Bi.py : Bi → Value
  | .len => .builtin "len"
  | .abs => .builtin "abs"
  | .min => .builtin "min"
  | .max => .builtin "max"
  | .sum => .builtin "sum"
  | .all => .builtin "all"
  | .any => .builtin "any"
  | .int => .type "int"
  | .tuple => .type "tuple"
  | .list => .type "list"
  | .divmod => .builtin "divmod"
  | .sorted => .builtin "sorted"
  | .repr => .builtin "repr"
  | .str => .type "str"
mutual
theorem pd_nodict {G : Gh} : ∀ (n : Nat) (d : Dt) (p : PyData), pdN n G d = some p → p.hasDict = false
  | n, .non, p, e => by
    have e : some PyData.none = some p := by cases n <;> (unfold pdN at e; exact e)
    cases e; rfl
  | n, .bl b, p, e => by
    have e : some (PyData.bool b) = some p := by cases n <;> (unfold pdN at e; exact e)
    cases e; rfl
  | n, .int b, p, e => by
    have e : some (PyData.int b) = some p := by cases n <;> (unfold pdN at e; exact e)
    cases e; rfl
  | n, .str b, p, e => by
    have e : some (PyData.str b) = some p := by cases n <;> (unfold pdN at e; exact e)
    cases e; rfl
  | 0, .tup xs, p, e => by unfold pdN at e; cases e
  | 0, .ref k, p, e => by unfold pdN at e; cases e
  | n + 1, .tup xs, p, e => by
    unfold pdN at e
    cases e2 : pdL n G xs with
    | none => rw [e2] at e; cases e
    | some ps =>
      rw [e2] at e; cases e
      unfold PyData.hasDict
      exact pdl_nodict n xs ps e2
  | n + 1, .ref k, p, e => by
    unfold pdN at e
    cases e1 : lstAt G k with
    | none => rw [e1] at e; cases e
    | some xs =>
      rw [e1] at e
      cases e2 : pdL n G xs with
      | none => simp only [e2] at e; cases e
      | some ps =>
        simp only [e2] at e; cases e
        unfold PyData.hasDict
        exact pdl_nodict n xs ps e2
theorem pdl_nodict {G : Gh} : ∀ (n : Nat) (ds : List Dt) (ps : List PyData), pdL n G ds = some ps → PyData.hasDictAll ps = false
  | n, [], ps, e => by
    have e : some [] = some ps := by cases n <;> (unfold pdL at e; exact e)
    cases e; rfl
  | 0, _ :: _, ps, e => by unfold pdL at e; cases e
  | n + 1, d :: ds, ps, e => by
    unfold pdL at e
    cases e1 : pdN n G d with
    | none => simp only [e1] at e; cases e
    | some p =>
      cases e2 : pdL n G ds with
      | none => simp only [e1, e2] at e; cases e
      | some ps' =>
        simp only [e1, e2] at e; cases e
        unfold PyData.hasDictAll
        rw [pd_nodict n d p e1, pdl_nodict n ds ps' e2]
        rfl
end
theorem repr_ok (sm : SmOk X.K) (gd : X.A.guards = some []) (hu : X.A.units + 65 < cLine) : CallR X (.builtin "repr") (fun xs H Q => ∃ v p, xs = [v] ∧ DpX X.K H v p ∧ p.showable = true ∧ p.depth ≤ 60 ∧ p.shown.length ≤ sizeLine ∧ Q (.str p.shown) H) := by
  intro pins s σ H xs us Q I rv ⟨v, p, e, dp, sh, dd, sz, q⟩
  subst e
  obtain ⟨u, rfl, ru⟩ := vals1 rv
  obtain ⟨as, rd, far⟩ := DpX.reads sm I p v u dp ru
  have fr : sysModules ∉ as := fun z => far _ z rfl
  have fin : ∀ {st : Shared} {t : Tok}, L2.Inv X pins σ H st → EP X pins σ Q (.str p.shown t) st := fun J => ⟨.str _, H, J, ⟨_, rfl⟩, q⟩
  cases rd with
  | none => exact PySem.P.repr_of_none (fin (I.tok _))
  | bool b => exact PySem.P.repr_of_bool (fin (I.tok _))
  | int i t => exact PySem.P.repr_of_int (of_decide_eq_true sh) (fin (I.tok _))
  | str x t => exact PySem.P.repr_of_str (fin (I.tok _)) sz
  | list h1 h2 h3 h4 => exact PySem.repr_of_reads' (.list h1 h2 h3 h4) sh (fun _ => fr) gd (by omega) (fun b o e => e) (fun h' t tk hk => fin (I.kept hk)) sz
  | tuple h1 h2 h3 h4 => exact PySem.repr_of_reads' (.tuple h1 h2 h3 h4) sh (fun _ => fr) gd (by omega) (fun b o e => e) (fun h' t tk hk => fin (I.kept hk)) sz
  | dict h1 h2 h3 h4 h5 => exact PySem.repr_of_reads' (.dict h1 h2 h3 h4 h5) sh (fun _ => fr) gd (by omega) (fun b o e => e) (fun h' t tk hk => fin (I.kept hk)) sz
theorem rpl_of_ints {K : PySem.W.Frag} {H : Hp} {μ : List Addr} : ∀ ms : List Int, RpL K H μ (ms.map Dt.int) (ms.map V.int)
  | [] => rpl_nil.mpr rfl
  | i :: ms => rpl_cons.mpr ⟨_, _, rfl, rp_int.mpr rfl, rpl_of_ints ms⟩
theorem sorted_tupI {a : Addr} {ns : List Int} (pins : List (Addr × Obj)) (s : Shared) (σ : L2.St) (H : Hp) (us : List Value) (Q : VK) (I : L2.Inv X pins σ H s) (rv : Vals [V.ref a] us) (hs : SqT X.K H a (ns.map V.int))
    (q : ∀ (ms : List Int) (p : Addr), ms.Perm ns → ms.Pairwise (· ≤ ·) → H p = none → Q (.ref p) (upd H p (.lst (ms.map V.int)))) : wpAny (model X.prog X.w) X.A (PySem.call (.builtin "sorted") us) (EP X pins σ Q) X.xe s := by
  obtain ⟨its, r, hl, hz⟩ := I.tuple hs
  rw [Vals.ref1 rv]
  have hi := r.ints
  refine WmY.sortT SrtO.swo_int hl (by rw [← r.length]; exact hz) (fun h2 h1 a' _ => SrtO.ints_sortable hi h2) fun out h1 h2 => ?_
  obtain ⟨k1, k2, k3⟩ := SrtO.ints_out hi h1 h2
  obtain ⟨ep, he⟩ := PyProof.Rows.sortedAll_at s.heap its out.toArray
  have hlen : ((out.map SrtO.iv).map V.int).length ≤ sizeLine := by
    rw [List.length_map, k2.length_eq, ← List.length_map (f := V.int)]
    exact hz
  exact ⟨.ref _, _, I.laid (t' := s.toks) (fun _ _ => PyProof.Rows.sortedAll_old) (Nat.le_succ _) (o := .lst ((out.map SrtO.iv).map V.int)) ⟨hlen, out, ep, vals_of_ints k1, he⟩, rfl, q _ _ k2 k3 (I.hok.fresh (Nat.le_succ _))⟩
theorem bi_ok (sm : SmOk X.K) (hc : X.calm = true) (gd : X.A.guards = some []) (hu : X.A.units + 65 < cLine) (b : Bi) : CallR X b.py (rBi X.K cad b) := by
  intro pins s σ H vs us Q I rv ⟨μ, G, ds, hr, r, h⟩
  unfold biD at h
  split at h
  · obtain ⟨xs, e, h⟩ := h
    obtain ⟨v, rfl, r1⟩ := rpl1 r
    obtain ⟨a, ws, rfl, q, l⟩ := seq_of hr r1 e
    refine call_len_seq pins s σ H _ us Q I rv ⟨a, ws, rfl, ?_, ?_⟩
    · rcases q with ⟨q, _⟩ | ⟨q, _⟩
      · exact .inl q
      · exact .inr q
    · rw [← l.length]
      exact h.now hr (rp_int.mpr rfl)
  · obtain ⟨v, rfl, r1⟩ := rpl1 r
    rw [rp_int] at r1; subst r1
    exact call_abs pins s σ H _ us Q I rv ⟨_, rfl, h.now hr (rp_int.mpr rfl)⟩
  · obtain ⟨v, w, rfl, r1, r2⟩ := rpl2 r
    rw [rp_int] at r1 r2; subst r1 r2
    exact call_min2 hc pins s σ H _ us Q I rv ⟨_, _, rfl, h.now hr (rp_int.mpr rfl)⟩
  · obtain ⟨v, w, rfl, r1, r2⟩ := rpl2 r
    rw [rp_int] at r1 r2; subst r1 r2
    exact call_max2 hc pins s σ H _ us Q I rv ⟨_, _, rfl, h.now hr (rp_int.mpr rfl)⟩
  · rename_i i j k
    obtain ⟨v, vs1, rfl, r1, r'⟩ := rpl_cons.mp r
    obtain ⟨w, z, rfl, r2, r3⟩ := rpl2 r'
    rw [rp_int] at r1 r2 r3; subst r1 r2 r3
    cases rv with
    | cons a1 rv =>
      obtain ⟨u2, u3, rfl, a2, a3⟩ := vals2 rv
      obtain ⟨t1, rfl⟩ := a1
      obtain ⟨t2, rfl⟩ := a2
      obtain ⟨t3, rfl⟩ := a3
      refine max_three_ints (I.ok.hd hc) fun h' tk kp => ⟨_, H, I.kept kp, ?_, h.now hr (rp_int.mpr rfl)⟩
      by_cases h1 : j > i
      · by_cases h2 : k > j
        · simp only [h1, h2, if_true]; exact ⟨_, rfl⟩
        · simp only [h1, h2, if_true, if_false]; exact ⟨_, rfl⟩
      · by_cases h2 : k > i
        · simp only [h1, h2, if_true, if_false]; exact ⟨_, rfl⟩
        · simp only [h1, h2, if_false]; exact ⟨_, rfl⟩
  · obtain ⟨xs, ns, e1, e2, h⟩ := h
    obtain ⟨v, rfl, r1⟩ := rpl1 r
    obtain ⟨a, g1, rfl⟩ := rp_ref.mp r1
    obtain ⟨a', ws, g2, q, l⟩ := hr.lstAt e1
    rw [g1] at g2; cases g2
    rw [rpl_ints l e2] at q
    exact cr_sum hc pins s σ H _ us Q I rv ⟨a, ns, rfl, q, h.now hr (rp_int.mpr rfl)⟩
  · obtain ⟨xs, ns, e1, e2, hn, h⟩ := h
    obtain ⟨v, rfl, r1⟩ := rpl1 r
    obtain ⟨a, g1, rfl⟩ := rp_ref.mp r1
    obtain ⟨a', ws, g2, q, l⟩ := hr.lstAt e1
    rw [g1] at g2; cases g2
    rw [rpl_ints l e2] at q
    exact cr_max hc pins s σ H _ us Q I rv ⟨a, ns, rfl, q, hn, fun m h1 h2 => (h m h1 h2).now hr (rp_int.mpr rfl)⟩
  · obtain ⟨xs, ns, e1, e2, hn, h⟩ := h
    obtain ⟨v, rfl, r1⟩ := rpl1 r
    obtain ⟨a, g1, rfl⟩ := rp_ref.mp r1
    obtain ⟨a', ws, g2, q, l⟩ := hr.lstAt e1
    rw [g1] at g2; cases g2
    rw [rpl_ints l e2] at q
    exact cr_min hc pins s σ H _ us Q I rv ⟨a, ns, rfl, q, hn, fun m h1 h2 => (h m h1 h2).now hr (rp_int.mpr rfl)⟩
  · obtain ⟨xs, ns, e1, e2, h⟩ := h
    obtain ⟨v, rfl, r1⟩ := rpl1 r
    obtain ⟨a, ws, rfl, q, l⟩ := seq_of hr r1 e1
    rw [rpl_ints l e2] at q
    have fin : ∀ (ms : List Int) (p : Addr), ms.Perm ns → ms.Pairwise (· ≤ ·) → H p = none → Q (.ref p) (upd H p (.lst (ms.map V.int))) := fun ms p h1 h2 hp => (h ms h1 h2).newL hr (rpl_of_ints ms) hp
    rcases q with ⟨q, _⟩ | ⟨q, _⟩
    · exact cr_sortedI pins s σ H _ us Q I rv ⟨a, ns, rfl, q, fun ms p h1 h2 hp => fin ms p h1 h2 hp⟩
    · exact sorted_tupI pins s σ H us Q I rv q fin
  · obtain ⟨xs, ns, e1, e2, h⟩ := h
    obtain ⟨v, rfl, r1⟩ := rpl1 r
    obtain ⟨a, g1, rfl⟩ := rp_ref.mp r1
    obtain ⟨a', ws, g2, q, l⟩ := hr.lstAt e1
    rw [g1] at g2; cases g2
    rw [rpl_bls l e2] at q
    exact cr_all hc pins s σ H _ us Q I rv ⟨a, ns, rfl, q, h.now hr (rp_bl.mpr rfl)⟩
  · obtain ⟨xs, ns, e1, e2, h⟩ := h
    obtain ⟨v, rfl, r1⟩ := rpl1 r
    obtain ⟨a, g1, rfl⟩ := rp_ref.mp r1
    obtain ⟨a', ws, g2, q, l⟩ := hr.lstAt e1
    rw [g1] at g2; cases g2
    rw [rpl_bls l e2] at q
    exact cr_any hc pins s σ H _ us Q I rv ⟨a, ns, rfl, q, h.now hr (rp_bl.mpr rfl)⟩
  · obtain ⟨v, rfl, r1⟩ := rpl1 r
    rw [rp_int] at r1; subst r1
    exact call_int1 pins s σ H _ us Q I rv (.inl ⟨_, rfl, h.now hr (rp_int.mpr rfl)⟩)
  · obtain ⟨v, rfl, r1⟩ := rpl1 r
    rw [rp_bl] at r1; subst r1
    exact call_int1 pins s σ H _ us Q I rv (.inr ⟨_, rfl, h.now hr (rp_int.mpr rfl)⟩)
  · obtain ⟨xs, e, h⟩ := h
    obtain ⟨v, rfl, r1⟩ := rpl1 r
    obtain ⟨a, ws, rfl, q, l⟩ := seq_of hr r1 e
    rcases q with ⟨q, _⟩ | ⟨q, e2⟩
    · exact call_tuple_of pins s σ H _ us Q I rv ⟨a, ws, rfl, .inl ⟨q, fun p hp => h.newT hr l hp⟩⟩
    · subst e2
      exact call_tuple_of pins s σ H _ us Q I rv ⟨a, ws, rfl, .inr ⟨q, h.now hr r1⟩⟩
  · obtain ⟨xs, e, h⟩ := h
    obtain ⟨v, rfl, r1⟩ := rpl1 r
    obtain ⟨a, ws, rfl, q, l⟩ := seq_of hr r1 e
    refine call_list_of pins s σ H _ us Q I rv ⟨a, ws, rfl, ?_, fun p hp => h.newL hr l hp⟩
    rcases q with ⟨q, _⟩ | ⟨q, _⟩
    · exact .inl q
    · exact .inr q
  · obtain ⟨v, w, rfl, r1, r2⟩ := rpl2 r
    rw [rp_int] at r1 r2; subst r1 r2
    refine call_divmod pins s σ H _ us Q I rv ⟨_, _, rfl, h.1, fun p hp => h.2.newT hr (rpl_cons.mpr ⟨_, _, rfl, rp_int.mpr rfl, rpl_cons.mpr ⟨_, _, rfl, rp_int.mpr rfl, rpl_nil.mpr rfl⟩⟩) hp⟩
  · obtain ⟨n, p, e, e1, e2, e3, h⟩ := h
    obtain ⟨v, rfl, r1⟩ := rpl1 r
    exact repr_ok sm gd hu pins s σ H _ us Q I rv ⟨v, p, rfl, rp_datX hr n _ v p r1 e, e1, e2, e3, h.now hr (rp_str.mpr rfl)⟩
  · exact h.elim
/-! ### methods, stores, isinstance -/
theorem store_okD (hu : X.A.units + 65 < cLine) : PSet X (fun o i v H Q => ∃ μ G d1 d2 d3, HRel X.K cad H μ G ∧ Rp X.K H μ d1 o ∧ Rp X.K H μ d2 i ∧ Rp X.K H μ d3 v ∧ storeD d1 d2 d3 G fun G' => ∀ H', KeepI H H' → HRel X.K cad H' μ G' → Q H') := by
  intro pins s σ H o i v ov iv u Q I ro ri rv ⟨μ, G, d1, d2, d3, hr, r1, r2, r3, h⟩
  unfold storeD at h
  split at h
  · obtain ⟨xs, j, e1, e2, h⟩ := h
    rw [rp_int] at r2; subst r2
    obtain ⟨a, g1, rfl⟩ := rp_ref.mp r1
    obtain ⟨a', ws, g2, q, l⟩ := hr.lst e1
    rw [g1] at g2; cases g2
    refine set_list pins s σ H _ _ _ ov iv u Q I ro ri rv ⟨a, ws, _, j, rfl, rfl, q, by rw [← l.length]; exact e2, ?_⟩
    exact h _ (KeepI.lst q) (hr.writeL g1 e1 q (l.set r3 j))
  · obtain ⟨kvs, e1, hz, h⟩ := h
    rw [rp_str] at r2; subst r2
    obtain ⟨a, g1, rfl⟩ := rp_ref.mp r1
    obtain ⟨a', g2, ws, q, ek, l⟩ := hr.at e1
    rw [g1] at g2; cases g2
    obtain rfl : ov = Value.ref a := ro
    have hl : ws.length < sizeLine := by
      have := congrArg List.length ek
      rw [List.length_map, List.length_map] at this
      omega
    refine d_setItem (show X.A.units + 1 < cLine by omega) I (DPut.k (k := .inr _) q hl) ri rv fun s' I' => ⟨_, I', ?_⟩
    obtain ⟨b1, b2⟩ := dput_of (k := .inr _) r3 ek l
    exact h _ (KeepI.dct q) (hr.write g1 e1 rfl (KeepI.dct q) rfl ⟨_, upd_same, b1, b2.mono (KeepI.dct q) (Pre.refl _)⟩)
  · exact h.elim
theorem tyX_of {K : PySem.W.Frag} {H : Hp} {μ : List Addr} {G : Gh} {d : Dt} {v : V} {t : String} (hr : HRel K cad H μ G) (r : Rp K H μ d v) (e : tyD G d = some t) : TyX K H v (.type t) := by
  unfold tyD at e
  split at e
  · cases e; rw [rp_non.mp r]; exact .base .non
  · cases e; rw [rp_bl.mp r]; exact .base (.bl _)
  · cases e; rw [rp_int.mp r]; exact .base (.int _)
  · cases e; rw [rp_str.mp r]; exact .base (.str _)
  · cases e
    obtain ⟨a, vs, rfl, q, l⟩ := rp_tup.mp r
    rcases q with (q | ⟨o, q⟩) | ⟨o, its, n, q, c, _⟩
    · exact .base (.tup q)
    · exact .fTuple q
    · exact .kTuple q c
  · obtain ⟨a, g1, rfl⟩ := rp_ref.mp r
    split at e
    · rename_i e1
      cases e
      obtain ⟨a', ws, g2, q, l⟩ := hr.lst e1
      rw [g1] at g2; cases g2
      exact .base (.lst q)
    · rename_i e1
      cases e
      obtain ⟨a', g2, ws, q, _⟩ := hr.at e1
      rw [g1] at g2; cases g2
      exact .base (.dK q)
    · cases e
/-- a class named in an isinstance -/
def Tg.v (cad : Cad) : Tg → V
  | .ty n => .ty n
  | .own c => .ref (cad c)
def Tg.u (cad : Cad) : Tg → Value
  | .ty n => .type n
  | .own c => .ref (cad c)
theorem Tg.clsV (t : Tg) : ClsV (t.v cad) (t.u cad) := by
  cases t
  · exact .ty _
  · exact .own _
/-- what an exception class of the text says -/
structure ExcK (K : PySem.W.Frag) (C : Addr) : Prop where
  cl : (PySem.W.clsIn K C).isSome = true
  ga : PySem.W.findIn K (.ref C) "__getattribute__" = some (some (.builtin "BaseException.__getattribute__"))
  gt : PySem.W.findIn K (.ref C) "__getattr__" = some none
  sb : PySem.W.subIn K (.ref C) (.type "BaseException") = some true
  cs : PySem.W.findIn K (.ref C) "__class__" = some (some (.builtin "object.__class__"))
  sp : PySem.W.specialIn K (.builtin "object.__class__") "__get__" = some (some (.builtin "getset_descriptor.__get__"))
  tk : PySem.W.takesIn K (.builtin "object.__class__") = some true
  mr : PySem.W.mroIn K C (.type "object") = some true
structure XFacts (K : PySem.W.Frag) (isa : Nat → Nat → Bool) (cad : Cad) : Prop where
  cls : ∀ c, cad.ex c → ExcK K (cad c)
  kit : ∀ c d, cad.ex c → cad.ex d → PySem.W.kitOne K (.ref (cad c)) (.ref (cad d)) = some (isa c d)
  exm : ∀ c d, cad.ex c → cad.ex d → PySem.W.exmOne K (.ref (cad c)) (.ref (cad d)) = some (isa c d)
  ve : ∀ c, cad.ex c → PySem.W.kitOne K (.ref (cad c)) (.type "ValueError") = some true
/-- a value's type, of a held exception too -/
def TyE (K : PySem.W.Frag) (H : Hp) (v : V) (t : Value) : Prop := TyX K H v t ∨ ∃ a C d, v = .ref a ∧ H a = some (ExcO C d a) ∧ (d = none ∨ ∃ dx fs, d = some dx ∧ H dx = some (.xd fs)) ∧ ExcK K C ∧ t = .ref C
section
variable {X : Cx} {pins : List (Addr × Obj)} {σ : L2.St} {H : Hp} {s : Shared}
theorem exc_inst {a C : Addr} {d : Option Addr} (I : Inv X pins σ H s) (ea : H a = some (ExcO C d a)) (hd : d = none ∨ ∃ dx fs, d = some dx ∧ H dx = some (.xd fs)) : ∃ ox od, PySem.W.InstAt s.heap a ox C od ∧ ox.dict = d ∧ ∃ vs, ox.data = .fields vs := by
  obtain ⟨⟨oe, vs, h1, ⟨h2, h3⟩, h4⟩, _⟩ := (show ObjOk X.prog X.w H s.heap a (ExcO C d a) from I.hok a _ ea)
  obtain ⟨oc, od, oda, osl⟩ := oe
  dsimp only at h2 h3 h4
  subst h2 h3 h4
  rcases hd with rfl | ⟨dx, fs, rfl, e⟩
  · exact ⟨_, none, ⟨h1, rfl, rfl, trivial⟩, rfl, vs, rfl⟩
  · obtain ⟨mA, ⟨o, es, ep, g, _⟩, _⟩ := (show ObjOk X.prog X.w H s.heap dx (.xd fs) from I.hok dx _ e)
    exact ⟨_, some o, ⟨h1, rfl, rfl, g⟩, rfl, vs, rfl⟩
theorem kit_ofE {x : V} {u t : Value} (I : Inv X pins σ H s) (rx : RelV x u) (ty : TyE X.K H x t) : ∃ P : Heap → Prop, PySem.W.KitX X.K u t P ∧ P s.heap ∧ u ≠ .builtin "__main__.__loader__#opaque" := by
  rcases ty with ty | ⟨a, C, d, rfl, ea, hd, k, rfl⟩
  · exact kit_of I rx ty
  · cases (show u = Value.ref a from rx)
    obtain ⟨ox, od, J, _⟩ := exc_inst I ea hd
    exact ⟨_, PySem.W.kitx_exc k.cl k.ga k.gt k.sb k.cs k.sp k.tk k.mr, J, fun z => nomatch z⟩
end
def rIsiE (K : PySem.W.Frag) : List V → Hp → VK → Prop := fun xs H Q => ∃ (x c : V) (t u : Value) (b : Bool), xs = [x, c] ∧ ClsV c u ∧ TyE K H x t ∧ PySem.W.kitOne K t u = some b ∧ Q (.bl b) H
def rIsiTE (K : PySem.W.Frag) : List V → Hp → VK → Prop := fun xs H Q => ∃ (x : V) (tp : Addr) (cs : List V) (t : Value) (us : List Value) (b : Bool), xs = [x, .ref tp] ∧ H tp = some (.tup cs) ∧ Paired ClsV cs us ∧ TyE K H x t ∧ PySem.W.kitAny K t us = some b ∧ Q (.bl b) H
theorem call_isiE {X : Cx} : CallR X (.builtin "isinstance") (rIsiE X.K) := by
  intro pins s σ H xs us Q I r h
  obtain ⟨x, c, t, u, b, rfl, k, ty, e, q⟩ := h
  obtain ⟨u1, u2, rfl, r1, r2⟩ := vals2 r
  have e2 := k.eq r2
  subst e2
  obtain ⟨P, Z, p, hx⟩ := kit_ofE I r1 ty
  exact PySem.W.kia_one Z I.kIn p e hx fun tk => ⟨.bl b, H, I.tok tk, rfl, q⟩
theorem call_isiTE {X : Cx} : CallR X (.builtin "isinstance") (rIsiTE X.K) := by
  intro pins s σ H xs us Q I r h
  obtain ⟨x, tp, cs, t, ws, b, rfl, hT, k, ty, e, q⟩ := h
  obtain ⟨u1, u2, rfl, r1, r2⟩ := vals2 r
  cases (show u2 = Value.ref tp from r2)
  obtain ⟨P, Z, p, hx⟩ := kit_ofE I r1 ty
  obtain ⟨_, its, rv, o, h1, h2, n, h3⟩ := (show ObjOk X.prog X.w H s.heap tp (.tup cs) from I.hok tp _ hT)
  have e3 := ClsV.all k rv
  subst e3
  obtain ⟨oc, od, dt, sl⟩ := o
  simp only at h2 h3
  subst h2 h3
  exact PySem.W.kia_tup Z I.kIn p h1 e hx fun tk => ⟨.bl b, H, I.tok tk, rfl, q⟩
theorem excD_at {G : Gh} {d : Dt} {x : Xc} (h : excD G d = some x) : ∃ n, d = .ref n ∧ G[n]? = some (.exc x) := by
  unfold excD at h
  split at h
  · rename_i k
    split at h
    · rename_i y e
      cases h
      exact ⟨k, rfl, e⟩
    · cases h
  · cases h
theorem HRel.exc {K : PySem.W.Frag} {H : Hp} {μ : List Addr} {G : Gh} {n : Nat} {x : Xc} (R : HRel K cad H μ G) (e : G[n]? = some (.exc x)) : ∃ a d, μ[n]? = some a ∧ H a = some (ExcO (cad x.cls) d a) ∧ NumOk K H μ x.num d ∧ cad.ex x.cls ∧ cad.on := by
  obtain ⟨a, e1, d, h⟩ := R.at e
  exact ⟨a, d, e1, h⟩
theorem NumOk.dict {K : PySem.W.Frag} {H : Hp} {μ : List Addr} : ∀ {n : Option Dt} {d : Option Addr}, NumOk K H μ n d → d = none ∨ ∃ dx fs, d = some dx ∧ H dx = some (.xd fs)
  | none, _, h => .inl h
  | some _, _, ⟨dx, w, e1, e2, _⟩ => .inr ⟨dx, _, e1, e2⟩
theorem isAny_ok {K : PySem.W.Frag} {H : Hp} {μ : List Addr} {G : Gh} {isa : Nat → Nat → Bool} {d : Dt} {v : V} (xf : cad.on → XFacts K isa cad) (hr : HRel K cad H μ G) (r : Rp K H μ d v) : ∀ (ts : List Tg) (b : Bool), ts ≠ [] → (∀ c, Tg.own c ∈ ts → cad.ex c) → isAny G isa d ts = some b → ∃ t, TyE K H v t ∧ PySem.W.kitAny K t (ts.map (Tg.u cad)) = some b := by
  intro ts b hne hts e
  cases ex : excD G d with
  | some x =>
    obtain ⟨n, rfl, en⟩ := excD_at ex
    obtain ⟨a, dx, ea, ha, hn, hx, hon⟩ := hr.exc en
    have xf := xf hon
    obtain ⟨a', ea', rfl⟩ := rp_ref.mp r
    rw [ea] at ea'
    cases ea'
    refine ⟨.ref (cad x.cls), .inr ⟨a, _, dx, rfl, ha, hn.dict, xf.cls _ hx, rfl⟩, ?_⟩
    clear hne
    induction ts generalizing b with
    | nil => unfold isAny at e; cases e; rfl
    | cons t ts ih =>
      unfold isAny at e
      cases e1 : isTy G isa (.ref n) t with
      | none => simp only [e1] at e; cases e
      | some b1 =>
        cases e2 : isAny G isa (.ref n) ts with
        | none => simp only [e1, e2] at e; cases e
        | some b2 =>
          simp only [e1, e2] at e
          cases e
          have ih := ih b2 (fun c hc => hts c (List.mem_cons_of_mem _ hc)) e2
          cases t with
          | own c =>
            have k1 := xf.kit x.cls c hx (hts c List.mem_cons_self)
            unfold isTy at e1
            rw [ex] at e1
            have e1 : some (isa x.cls c) = some b1 := e1
            rw [Option.some.inj e1] at k1
            show PySem.W.kitAny K (.ref (cad x.cls)) (.ref (cad c) :: ts.map (Tg.u cad)) = some (b1 || b2)
            exact kitAny_cons k1 (fun hb => by rw [hb, Bool.false_or]; exact ih) (fun hb => by rw [hb]; rfl)
          | ty n =>
            unfold isTy at e1
            rw [ex] at e1
            dsimp only at e1
            split at e1
            · rename_i hn
              subst hn
              have k1 := xf.ve x.cls hx
              rw [Option.some.inj e1] at k1
              show PySem.W.kitAny K (.ref (cad x.cls)) (.type "ValueError" :: ts.map (Tg.u cad)) = some (b1 || b2)
              exact kitAny_cons k1 (fun hb => by rw [hb, Bool.false_or]; exact ih) (fun hb => by rw [hb]; rfl)
            · cases e1
  | none =>
  have one : ∀ (t0 : String), tyD G d = some t0 → ∀ (ts : List Tg) (b : Bool), isAny G isa d ts = some b → PySem.W.kitAny K (.type t0) (ts.map (Tg.u cad)) = some b := fun t0 e0 ts => by
    induction ts with
    | nil => intro b e; unfold isAny at e; cases e; rfl
    | cons t ts ih =>
      intro b e
      unfold isAny at e
      cases e1 : isTy G isa d t with
      | none => simp only [e1] at e; cases e
      | some b1 =>
        cases e2 : isAny G isa d ts with
        | none => simp only [e1, e2] at e; cases e
        | some b2 =>
          simp only [e1, e2] at e
          cases e
          cases t with
          | own c => unfold isTy at e1; rw [ex] at e1; cases e1
          | ty n =>
            unfold isTy at e1
            rw [ex] at e1
            have e1 : ((tyD G d).bind fun t => kitB t n) = some b1 := e1
            rw [e0, Option.bind_some] at e1
            have k1 : PySem.W.kitOne K (.type t0) (.type n) = some b1 := kit_ty e1
            show PySem.W.kitAny K (.type t0) (.type n :: ts.map (Tg.u cad)) = some (b1 || b2)
            exact kitAny_cons k1 (fun hb => by rw [hb, Bool.false_or]; exact ih _ e2) (fun hb => by rw [hb]; rfl)
  cases ts with
  | nil => exact absurd rfl hne
  | cons t ts =>
    cases e0 : tyD G d with
    | none =>
      unfold isAny isTy at e
      cases t <;> simp [e0, ex] at e
    | some t0 => exact ⟨_, .inl (tyX_of hr r e0), one t0 e0 _ b e⟩
end
end Wm

namespace Wm
open PySem PySem.Spec PyProof.Rows L2
/-! ### the matcher: a piece of the row's syntax is this code -/
def Tab.toHot (T : Tab) : Tab := { T with hot := true, fns := T.hfns }
/-- a block's last return -/
def splitRet : List Stmt → Option (List Stmt × Expr)
  | [.Return (some e) _] => some ([], e)
  | x :: xs => (splitRet xs).map fun q => (x :: q.1, q.2)
  | [] => none

def notStar : Expr → Bool
  | .Starred .. => false
  | _ => true
def notSet : Expr → Bool
  | .Set .. => false
  | _ => true
def notSlice : Expr → Bool
  | .Slice .. => false
  | _ => true
def notComp : Expr → Bool
  | .ListComp .. => false
  | .SetComp .. => false
  | .DictComp .. => false
  | _ => true
def plainT : Expr → Bool
  | .UnaryOp .Not .. => false
  | .BoolOp .. => false
  | .IfExp .. => false
  | .Compare .. => false
  | _ => true
def notCall0 : Expr → Bool
  | .Call (.Name ..) [] [] _ => false
  | _ => true
def isNilC : Cd → Bool
  | .nil => true
  | _ => false
def noDbg (x : Str) : Bool := !(x == ("__debug__" : Str)) && !(x == ("__classdict__" : Str))
def visB (sc : Scope) (x : Str) : Bool := match sc.names.lookup x with
  | some .local => true
  | some .cell => true
  | some .free => true
  | _ => false
def gloB (sc : Scope) (x : Str) : Bool := match sc.names.lookup x with
  | some .globalImplicit => !(x == ("__debug__" : Str))
  | _ => false
/-- a name that is stored -/
def locB (sc : Scope) (fn : Str → Bool) (x : Str) : Bool := match sc.names.lookup x with
  | some .local => true
  | some .cell => fn x
  | _ => false
def locLine (sc : Scope) (line : Nat) : Expr → Option Str
  | .Name id pos => if sc.names.lookup id == some .local && pos.line == line then some id else none
  | _ => none
/-- swappedStores, of a tuple to a tuple -/
def swN (ts vs : List Expr) (sc : Scope) : Option (Option (List Str)) :=
  if !(ts.length == 2 || ts.length == 3) || vs.length != ts.length then some none
  else if vs.any (fun | .Starred .. => true | _ => false) then some none
  else
    let line := (ts.head?.map (·.pos.line)).getD 0
    let names := ts.filterMap (locLine sc line)
    if names.length != ts.length || names.eraseDups.length != names.length then some none
    else if vs.all (foldedForSure 8) then some none
    else if vs.all (constantsAlone 8) then none
    else some (some names)
/-- the general assignment serves -/
def plainAsg (sc : Scope) : Expr → Expr → Bool
  | .Tuple ts _ _, .Tuple vs _ _ => (match swN ts vs sc with | some none => true | _ => false)
  | .List .., .Tuple .. => false
  | .Name y _, e => notComp e || decide (sc.names.lookup y = some .cell)
  | .Starred .., _ => false
  | _, e => true
def Bi.name : Bi → Str
  | .len => "len"
  | .abs => "abs"
  | .min => "min"
  | .max => "max"
  | .sum => "sum"
  | .all => "all"
  | .any => "any"
  | .int => "int"
  | .tuple => "tuple"
  | .list => "list"
  | .divmod => "divmod"
  | .sorted => "sorted"
  | .repr => "repr"
  | .str => "str"
def Mt.name : Mt → Str
  | .append => "append"
  | .extend => "extend"
  | .pop => "pop"
  | .popAt => "pop"
  | .insert => "insert"
  | .count => "count"
  | .index => "index"
  | .clear => "clear"
def Mt.args0 : Mt → Bool
  | .pop => true
  | .clear => true
  | _ => false
def tgB (T : Tab) (sc : Scope) : Tg → Expr → Bool
  | .ty n, .Name x _ => x == Str.ofString n && T.free.contains x && gloB sc x && (["int", "bool", "str", "tuple", "list", "dict", "ValueError"].contains n)
  | .own c, .Name x _ => T.xcl.lookup x == some c && gloB sc x
  | _, _ => false
def tgsB (T : Tab) (sc : Scope) : List Tg → List Expr → Bool
  | [], [] => true
  | t :: ts, e :: es => tgB T sc t e && tgsB T sc ts es
  | _, _ => false
def isiB (T : Tab) (sc : Scope) : List Tg → Expr → Bool
  | ts, .Tuple es _ _ => !ts.isEmpty && tgsB T sc ts es && decide (es.length ≤ 1000)
  | [t], e => tgB T sc t e
  | _, _ => false
def scalB : Dt → Dt → Bool
  | .int i, .int j => i == j
  | .str a, .str b => a == b
  | .bl a, .bl b => a == b
  | .non, .non => true
  | _, _ => false
def scalsB : List Dt → List Dt → Bool
  | [], [] => true
  | x :: xs, y :: ys => scalB x y && scalsB xs ys
  | _, _ => false
def conEq : Dt → Dt → Bool
  | .tup xs, .tup ys => scalsB xs ys
  | x, y => scalB x y
def conB (T : Tab) (x : Str) (d : Dt) : Bool := match T.con.lookup x with
  | some e => conEq e d
  | none => false
def kwNames : List Keyword → List Str
  | [] => []
  | ⟨some n, _, _⟩ :: r => n :: kwNames r
  | ⟨none, _, _⟩ :: r => kwNames r
def kwAll : List Keyword → Bool
  | [] => true
  | ⟨some _, _, _⟩ :: r => kwAll r
  | ⟨none, _, _⟩ :: _ => false
def keysB : List Str → List (Option Expr) → Bool
  | [], [] => true
  | k :: ks, some (.Constant (.str x) _ _) :: es => x == k && keysB ks es
  | _, _ => false
def oneGen : List Comprehension → Option (Expr × Expr × List Expr)
  | [⟨tg, iter, ifs, 0⟩] => some (tg, iter, ifs)
  | _ => none
structure Ms where
  e : Expr → Bool := fun _ => false
  t : Expr → Bool := fun _ => false
  a : List Expr → Bool := fun _ => false
  k : List Keyword → Bool := fun _ => false
  g : Expr → Bool := fun _ => false
  gs : List Expr → Bool := fun _ => false
  /-- targets, the last of them starred -/
  gr : List Expr → Bool := fun _ => false
  i : Expr → Expr → Bool := fun _ _ => false
  o : Option Expr → Bool := fun _ => false
  s : Stmt → Bool := fun _ => false
  b : List Stmt → Bool := fun _ => false
  /-- a test's list in a comprehension -/
  c : List Expr → Bool := fun _ => false
def ownP (N : List Str) (own : List Nat) : List (Str × Nat) := own.filterMap fun i => (N[i]?).map fun x => (x, i)
def blkFn (scope : Scope) : Str → Bool := fun x => scope.names.lookup x == some .cell
/-- name = [..] on one line -/
def swLc (sc scope : Scope) (y : Str) (py pos : Pos) : Bool := (match sc.kind with | .function => true | _ => false) && decide (sc.names.lookup y = some .local) && (py.line == pos.line) && !(scope.names.any fun (n, k) => n == y && (k == .local || k == .cell))

def mat (T : Tab) (N : List Str) : Cd → Scope → (Str → Bool) → Ms
  | .var i, sc, _ => { e := fun | .Name x _ => N[i]? == some x && visB sc x && noDbg x
                                | _ => false }
  | .kint i, _, _ => { e := fun | .Constant (.int j) _ _ => j == i
                                | _ => false }
  | .kstr s, _, _ => { e := fun | .Constant (.str j) _ _ => j == s
                                | _ => false }
  | .kbl s, _, _ => { e := fun | .Constant (.bool j) _ _ => j == s
                               | _ => false }
  | .knon, _, _ => { e := fun | .Constant .none _ _ => true
                              | _ => false }
  | .gk d, sc, _ => { e := fun | .Name x _ => conB T x d && gloB sc x
                               | _ => false }
  | .bin o a b, sc, fn => { e := fun | .BinOp x op y _ => op == o.py && (mat T N a sc fn).e x && (mat T N b sc fn).e y
                                     | _ => false }
  | .neg a, sc, fn => { e := fun | .UnaryOp .USub x _ => (mat T N a sc fn).e x
                                 | _ => false }
  | .notv a, sc, fn => { e := fun | .UnaryOp .Not x _ => (mat T N a sc fn).e x
                                  | _ => false }
  | .cmp o a b, sc, fn => { e := fun | .Compare x [op] [y] _ => op == o.py && (mat T N a sc fn).e x && (mat T N b sc fn).e y && notSet y
                                     | _ => false }
  | .chain o o2 a b c, sc, fn => { e := fun | .Compare x [op, op2] [y, z] _ => op == o.py && op2 == o2.py && (mat T N a sc fn).e x && (mat T N b sc fn).e y && (mat T N c sc fn).e z && notSet z
                                            | _ => false }
  | .andv a b, sc, fn => { e := fun | .BoolOp .And (x :: y :: rest) pos => (mat T N a sc fn).e x && (match rest with
                                        | [] => (mat T N b sc fn).e y
                                        | z :: r => (mat T N b sc fn).e (.BoolOp .And (y :: z :: r) pos))
                                    | _ => false }
  | .orv a b, sc, fn => { e := fun | .BoolOp .Or (x :: y :: rest) pos => (mat T N a sc fn).e x && (match rest with
                                        | [] => (mat T N b sc fn).e y
                                        | z :: r => (mat T N b sc fn).e (.BoolOp .Or (y :: z :: r) pos))
                                   | _ => false }
  | .ifx c a b, sc, fn => { e := fun | .IfExp z x y _ => (mat T N c sc fn).t z && (mat T N a sc fn).e x && (mat T N b sc fn).e y
                                     | _ => false }
  | .tup as, sc, fn => { e := fun | .Tuple es _ _ => (mat T N as sc fn).a es
                                  | _ => false }
  | .lst as, sc, fn => { e := fun | .List es _ => (mat T N as sc fn).a es
                                  | _ => false }
  | .call f as, sc, fn => { e := fun | .Call (.Name x _) es [] _ => T.fns.lookup x == some f && gloB sc x && (mat T N as sc fn).a es && T.shp.contains (f, es.length, [])
                                     | _ => false }
  | .callk f as ks ws, sc, fn => { e := fun | .Call (.Name x _) (e :: es) (q :: qs) _ => T.fns.lookup x == some f && gloB sc x && (mat T N as sc fn).a (e :: es) && (mat T N ws sc fn).k (q :: qs) && decide (kwNames (q :: qs) = ks) && kwAll (q :: qs) && T.shp.contains (f, (e :: es).length, ks)
                                            | _ => false }
  | .ix a b, sc, fn => { e := fun | .Subscript x y _ => (mat T N a sc fn).e x && (mat T N b sc fn).e y && notSlice y
                                  | _ => false }
  | .sl a lo hi, sc, fn => { e := fun | .Subscript x (.Slice l h none _) _ => (mat T N a sc fn).e x && (mat T N lo sc fn).o l && (mat T N hi sc fn).o h
                                      | _ => false }
  | .bi b as, sc, fn => { e := fun | .Call (.Name x _) (e :: es) [] _ => x == b.name && gloB sc x && T.free.contains x && (mat T N as sc fn).a (e :: es) && !T.hot
                                   | _ => false }
  | .mt m o as, sc, fn => { e := fun | .Call (.Attribute x n apos) es [] cpos => n == m.name && (mat T N o sc fn).e x && (mat T N as sc fn).a es && (apos.endLine == cpos.line) && notCall0 x && (m.args0 == es.isEmpty) && decide (es.length < 30)
                                     | _ => false }
  | .isi a ts, sc, fn => { e := fun | .Call (.Name x _) [e, c] [] _ => x == ("isinstance" : Str) && gloB sc x && T.free.contains x && (mat T N a sc fn).e e && notStar e && isiB T sc ts c
                                    | _ => false }
  | .comp elt g it cond own, sc, fn => { e := fun | .ListComp x [⟨tg, iter, ifs, 0⟩] scope _ => blkC N sc scope (ownP N own) && decide ((ownP N own).map (·.2) = own) && (slotsG g).all (own.contains ·) && (mat T N it sc fn).i tg iter && notSet iter && (mat T N g (relS scope sc) (blkFn scope)).g tg && (mat T N cond (relS scope sc) (blkFn scope)).c ifs && (mat T N elt (relS scope sc) (blkFn scope)).e x && !T.hot
                                                  | _ => false }
  | .comp2 elt g it cond g1 it1 cond1 own, sc, fn => { e := fun | .ListComp x [⟨tg, iter, ifs, 0⟩, ⟨tg1, iter1, ifs1, 0⟩] scope _ => blkC N sc scope (ownP N own) && decide ((ownP N own).map (·.2) = own) && (slotsG g).all (own.contains ·) && (mat T N it sc fn).i tg iter && notSet iter && (mat T N g (relS scope sc) (blkFn scope)).g tg && (mat T N cond (relS scope sc) (blkFn scope)).c ifs && (mat T N elt (relS scope sc) (blkFn scope)).e x && (slotsG g1).all (own.contains ·) && (mat T N it1 (relS scope sc) (blkFn scope)).i tg1 iter1 && notSet iter1 && (mat T N g1 (relS scope sc) (blkFn scope)).g tg1 && (mat T N cond1 (relS scope sc) (blkFn scope)).c ifs1 && !T.hot | _ => false }
  | .dic ks as, sc, fn => { e := fun | .Dict keys vals _ => keysB ks keys && (mat T N as sc fn).a vals && (decide (keys.length = vals.length) && ((!keys.isEmpty || isNilC as) && decide (keys.length ≤ 15)))
                                     | _ => false }
  | .rev a, sc, fn => { e := fun | .Subscript x (.Slice none none (some (.UnaryOp .USub (.Constant (.int 1) _ _) _)) _) _ => (mat T N a sc fn).e x
                                 | _ => false }
  | .maxd a i, sc, fn => { e := fun | .Call (.Name x _) [e] [⟨some k, .Constant (.int j) _ _, _⟩] _ => x == ("max" : Str) && k == ("default" : Str) && j == i && gloB sc x && T.free.contains x && (mat T N a sc fn).e e && notStar e && !T.hot
                                    | _ => false }
  | .sortr a, sc, fn => { e := fun | .Call (.Name x _) [e] [⟨some k, .Constant (.bool true) _ _, _⟩] _ => x == ("sorted" : Str) && k == ("reverse" : Str) && gloB sc x && T.free.contains x && (mat T N a sc fn).e e && notStar e
                                   | _ => false }
  | .attr c o f, sc, fn => { e := fun | .Attribute x n _ => n == f && T.att.contains (c, f) && (mat T N o sc fn).e x && notCall0 x
                                      | _ => false }
  | .meth c f m o as, sc, fn => { e := fun | .Call (.Attribute x n apos) es [] cpos => n == m && T.mts.contains (c, m, f) && (mat T N o sc fn).e x && (mat T N as sc fn).a es && (apos.endLine == cpos.line) && notCall0 x && T.shp.contains (f, es.length + 1, []) && decide (es.length < 30) && !T.hot
                                           | _ => false }
  | .mk c f as, sc, fn => { e := fun | .Call (.Name x _) es [] _ => T.mkr.contains (x, c, f) && gloB sc x && (mat T N as sc fn).a es && T.shp.contains (f, es.length + 1, []) && !T.hot
                                     | _ => false }
  | .tand a b, sc, fn => { t := fun | .BoolOp .And (x :: y :: rest) pos => (mat T N a sc fn).t x && (match rest with
                                        | [] => (mat T N b sc fn).t y
                                        | z :: r => (mat T N b sc fn).t (.BoolOp .And (y :: z :: r) pos))
                                    | _ => false
                           c := fun | [.BoolOp .And (x :: y :: rest) pos] => (mat T N a sc fn).t x && (match rest with
                                        | [] => (mat T N b sc fn).t y
                                        | z :: r => (mat T N b sc fn).t (.BoolOp .And (y :: z :: r) pos))
                                    | _ => false }
  | .tor a b, sc, fn => { t := fun | .BoolOp .Or (x :: y :: rest) pos => (mat T N a sc fn).t x && (match rest with
                                        | [] => (mat T N b sc fn).t y
                                        | z :: r => (mat T N b sc fn).t (.BoolOp .Or (y :: z :: r) pos))
                                   | _ => false
                          c := fun | [.BoolOp .Or (x :: y :: rest) pos] => (mat T N a sc fn).t x && (match rest with
                                        | [] => (mat T N b sc fn).t y
                                        | z :: r => (mat T N b sc fn).t (.BoolOp .Or (y :: z :: r) pos))
                                   | _ => false }
  | .tnot a, sc, fn => { t := fun | .UnaryOp .Not x _ => (mat T N a sc fn).t x
                                  | _ => false
                         c := fun | [.UnaryOp .Not x _] => (mat T N a sc fn).t x
                                  | _ => false }
  | .tval a, sc, fn => { t := fun x => plainT x && (mat T N a sc fn).e x
                         c := fun | [x] => plainT x && (mat T N a sc fn).e x
                                  | _ => false }
  | .ttrue, _, _ => { c := fun | [] => true
                               | _ => false }
  | .tcmp o a b, sc, fn => { t := fun | .Compare x [op] [y] _ => op == o.py && (mat T N a sc fn).e x && (mat T N b sc fn).e y && notSet y
                                      | _ => false
                             c := fun | [.Compare x [op] [y] _] => op == o.py && (mat T N a sc fn).e x && (mat T N b sc fn).e y && notSet y
                                      | _ => false }
  | .tchain o o2 a b c, sc, fn => { t := fun | .Compare x [op, op2] [y, z] _ => op == o.py && op2 == o2.py && (mat T N a sc fn).e x && (mat T N b sc fn).e y && (mat T N c sc fn).e z && notSet z
                                             | _ => false
                                    c := fun | [.Compare x [op, op2] [y, z] _] => op == o.py && op2 == o2.py && (mat T N a sc fn).e x && (mat T N b sc fn).e y && (mat T N c sc fn).e z && notSet z
                                             | _ => false }
  | .nil, _, _ => { a := fun | [] => true
                             | _ => false
                    k := fun | [] => true
                             | _ => false
                    gs := fun | [] => true
                              | _ => false
                    o := fun | none => true
                             | _ => false
                    b := fun | [] => true
                             | _ => false }
  | .cons a b, sc, fn => { a := fun | x :: xs => notStar x && (mat T N a sc fn).e x && (mat T N b sc fn).a xs
                                    | _ => false
                           k := fun | ⟨some _, x, _⟩ :: xs => (mat T N a sc fn).e x && (mat T N b sc fn).k xs
                                    | _ => false
                           gs := fun | x :: xs => notStar x && (mat T N a sc fn).g x && (mat T N b sc fn).gs xs
                                     | _ => false
                           gr := fun | x :: xs => notStar x && (mat T N a sc fn).g x && (mat T N b sc fn).gr xs
                                     | _ => false
                           o := fun | some x => (mat T N a sc fn).e x
                                    | _ => false }
  | .gn i, sc, fn => { g := fun | .Name x _ => N[i]? == some x && locB sc fn x
                                | _ => false }
  | .gt ts, sc, fn => { g := fun | .Tuple es _ _ => (mat T N ts sc fn).gs es && !T.hot
                                 | _ => false }
  | .gsub o i, sc, fn => { g := fun | .Subscript x y _ => (mat T N o sc fn).e x && (mat T N i sc fn).e y && notSlice y
                                    | _ => false }
  | .gstar ts, sc, fn => { g := fun | .Tuple es _ _ => (mat T N ts sc fn).gr es && !T.hot
                                    | _ => false }
  | .gst i, sc, fn => { gr := fun | [.Starred (.Name x _) _] => N[i]? == some x && locB sc fn x
                                  | _ => false }
  | .gattr c o f, sc, fn => { g := fun | .Attribute x n _ => n == f && T.att.contains (c, f) && (mat T N o sc fn).e x
                                       | _ => false }
  | .iseq a, sc, fn => { i := fun _ x => (mat T N a sc fn).e x && (match x with | .Call (.Name f _) .. => !(f == ("range" : Str)) && !(f == ("zip" : Str)) && !(f == ("enumerate" : Str)) | _ => true) }
  | .irange1 a, sc, fn => { i := fun | _, .Call (.Name x _) [e] [] _ => x == ("range" : Str) && gloB sc x && T.free.contains x && (mat T N a sc fn).e e && notStar e
                                     | _, _ => false }
  | .irange2 a b, sc, fn => { i := fun | _, .Call (.Name x _) [e, e2] [] _ => x == ("range" : Str) && gloB sc x && T.free.contains x && (mat T N a sc fn).e e && notStar e && (mat T N b sc fn).e e2 && notStar e2
                                       | _, _ => false }
  | .irangeD a b, sc, fn => { i := fun | _, .Call (.Name x _) [e, e2, .UnaryOp .USub (.Constant (.int 1) _ _) _] [] _ => x == ("range" : Str) && gloB sc x && T.free.contains x && (mat T N a sc fn).e e && notStar e && (mat T N b sc fn).e e2 && notStar e2
                                       | _, _ => false }
  | .izip a b, sc, fn => { i := fun | .Tuple .., .Call (.Name x _) [e, e2] [] _ => x == ("zip" : Str) && gloB sc x && T.free.contains x && (mat T N a sc fn).e e && notStar e && (mat T N b sc fn).e e2 && notStar e2
                                    | _, _ => false }
  | .izips a b, sc, fn => { i := fun | .Tuple .., .Call (.Name x _) [e, e2] [⟨some k, .Constant (.bool true) _ _, _⟩] _ => x == ("zip" : Str) && k == ("strict" : Str) && gloB sc x && T.free.contains x && (mat T N a sc fn).e e && notStar e && (mat T N b sc fn).e e2 && notStar e2
                                     | _, _ => false }
  | .ienum a, sc, fn => { i := fun | .Tuple .., .Call (.Name x _) [e] [] _ => x == ("enumerate" : Str) && gloB sc x && T.free.contains x && (mat T N a sc fn).e e && notStar e
                                   | _, _ => false }
  | .asg g e, sc, fn => { s := fun | .Assign [tg] v _ => (mat T N g sc fn).g tg && (mat T N e sc fn).e v && notStar tg && (plainAsg sc tg v || (!T.hot && match tg, v, g with
                                        | .Name y py, .ListComp _ _ scope pos, .gn _ => swLc sc scope y py pos
                                        | .Tuple ts _ _, .Tuple vs _ _, .gt (.cons (.gn i) (.cons (.gn j) .nil)) => (match swN ts vs sc with | some (some _) => ts.length == 2 && !(i == j) | _ => false)
                                        | .Tuple ts _ _, .Tuple vs _ _, .gt (.cons (.gn i) (.cons (.gn j) (.cons (.gn l) .nil))) => (match swN ts vs sc with | some (some _) => ts.length == 3 && !(i == j) && !(i == l) && !(j == l) | _ => false)
                                        | _, _, _ => false))
                                   | _ => false }
  | .asg2 g h e, sc, fn => { s := fun | .Assign [t1, t2] v _ => (mat T N g sc fn).g t1 && (mat T N h sc fn).g t2 && (mat T N e sc fn).e v && notStar t1 && notStar t2
                                      | _ => false }
  | .asg3 g h i e, sc, fn => { s := fun | .Assign [t1, t2, t3] v _ => (mat T N g sc fn).g t1 && (mat T N h sc fn).g t2 && (mat T N i sc fn).g t3 && (mat T N e sc fn).e v && notStar t1 && notStar t2 && notStar t3
                                        | _ => false }
  | .aug i o e, sc, fn => { s := fun | .AugAssign (.Name x _) op v _ => o.aug && op == o.py && N[i]? == some x && locB sc fn x && (mat T N e sc fn).e v
                                     | _ => false }
  | .ife c a b, sc, fn => { s := fun | .If z x y _ => (mat T N c sc fn).t z && (mat T N a sc fn).b x && (mat T N b sc fn).b y
                                     | _ => false }
  | .whl c b, sc, fn => { s := fun | .While z x [] _ => (mat T N c sc fn).t z && (mat T N b sc fn).b x
                                   | _ => false }
  | .forr g it b, sc, fn => { s := fun | .For tg iter x [] _ => (mat T N it sc fn).i tg iter && (mat T N g sc fn).g tg && (mat T N b sc fn).b x && notSet iter && !T.hot
                                       | _ => false }
  | .ret e, sc, fn => { s := fun | .Return (some x) _ => (mat T N e sc fn).e x
                                 | _ => false }
  | .retn, _, _ => { s := fun | .Return none _ => true
                              | _ => false }
  | .expr e, sc, fn => { s := fun | .Expr x _ => (mat T N e sc fn).e x && notComp x
                                  | _ => false }
  | .pass, _, _ => { s := fun | .Pass _ => true
                              | _ => false }
  | .brk, _, _ => { s := fun | .Break _ => true
                             | _ => false }
  | .cnt, _, _ => { s := fun | .Continue _ => true
                             | _ => false }
  | .seq a b, sc, fn => { b := fun | x :: xs => (mat T N a sc fn).s x && (mat T N b sc fn).b xs
                                   | _ => false }
  | .raise c, sc, _ => { s := fun | .Raise (some (.Call (.Name x _) [.Constant (.str _) _ _] [] _)) none _ => T.cls.lookup x == some c && gloB sc x && !T.hot
                                  | _ => false }
  | .raisen c e, sc, fn => {}
  | .tryo b c su, sc, fn => { s := fun | .Try body [.ExceptHandler (some (.Name x _)) none (s0 :: ss) _] [] [] _ => T.xcl.lookup x == some c && gloB sc x && !T.hot && (mat T N b sc fn).b body && (mat T.toHot N su sc fn).b (s0 :: ss) && T.exk
                                       | _ => false }
  | .trya b c i su, sc, fn => { s := fun | .Try body [.ExceptHandler (some (.Name x _)) (some n) (s0 :: ss) _] [] [] _ => T.xcl.lookup x == some c && gloB sc x && !T.hot && N[i]? == some n && decide (sc.names.lookup n = some .local) && (mat T N b sc fn).b body && (mat T.toHot N su sc fn).b (s0 :: ss) && T.exk
                                         | _ => false }
  | .tryf a f, sc, fn => {}
  | .tryr a e f, sc, fn => {}
  | .xnum o, sc, fn => {}
  | .auga c o f op e, sc, fn => { s := fun | .AugAssign (.Attribute x n _) pop v _ => op.aug && pop == op.py && n == f && T.att.contains (c, f) && (mat T N o sc fn).e x && (mat T N e sc fn).e v
                                           | _ => false }
  | .dead, _, _ => { s := fun _ => true }
end Wm

namespace Wm
open PySem PySem.Spec PyProof.Rows L2
/-- room; where nothing is handled, unless hot -/
structure RoomG (hot : Bool) (k : Nat) (A : Around) : Prop where
  hd : hot = false → A.handled = none
  dp : A.depth + 3 * k + 5 < recursionLimit
  un : A.units + 16 * k + 200 < cLine
section
variable {hot : Bool} {j k : Nat} {A : Around}
theorem RoomG.of (r : Room k A) : RoomG false k A := ⟨fun _ => r.hd, r.dp, r.un⟩
theorem RoomG.calm (r : RoomG false k A) : Room k A := ⟨r.hd rfl, r.dp, r.un⟩
theorem RoomG.heat (r : RoomG hot k A) : RoomG true k A := ⟨fun z => (by cases z), r.dp, r.un⟩
theorem RoomG.mono (r : RoomG hot k A) (h : j ≤ k) : RoomG hot j A := ⟨r.hd, by have := r.dp; omega, by have := r.un; omega⟩
theorem RoomG.mark (r : RoomG hot k A) (v : Option Value) : RoomG true k (A.mark v) := ⟨fun z => (by cases z), r.dp, r.un⟩
theorem RoomG.room (r : RoomG hot k A) : ∃ A', Room k A' ∧ A'.depth = A.depth ∧ A'.units = A.units := ⟨{ A with handled := none }, ⟨rfl, r.dp, r.un⟩, rfl, rfl⟩
theorem RoomG.deeper (r : RoomG hot (k + 1) A) (env : Env) : RoomG hot k (A.deeper env) := by
  have h := r.dp
  have g := r.un
  exact ⟨r.hd, by show A.depth + 1 + 3 * k + 5 < recursionLimit; omega, by show A.units + 3 + 16 * k + 200 < cLine; omega⟩
theorem RoomG.make (r : RoomG hot (k + 1) A) (C : Addr) (us : List Value) (kw : List (Str × Value)) : RoomG hot k (A.under (.builtin "type.__call__" ⟨.ref C :: us, kw⟩)) := by
  have h := r.dp
  have g := r.un
  exact ⟨r.hd, by rw [make_depth]; omega, by rw [make_units]; omega⟩
theorem RoomG.depth (r : RoomG hot k A) : A.depth < recursionLimit := by have h := r.dp; omega
end
/-- a def's promise where no repr is under way -/
structure FnG (hot : Bool) (P : Program) (w : World) (K : PySem.W.Frag) (mg : Str → Option Value) (base : Heap) (k : Nat) (f : Addr) (fd : FuncData) (ps : List Str) (sp : Sp) : Prop where
  len : ∀ {vs H Q E}, sp vs H Q E → vs.length = ps.length
  run : ∀ {A : Around} {outer : List Env} {s : Shared} {H : Hp} {args : Args} {us : List Value} {vs : List V} {Q : VK} {E : XK}, A.guards = some [] → RoomG hot k A → Env0 P w K mg base A outer s H → BindsTo s fd args (ps.zip us) → Vals vs us → sp vs H Q E →
    codeAny (model P w) A (.call (.ref f) args) (CR (L2.CX P w) outer P w H s Q E) s
section
variable {P : Program} {w : World} {K : PySem.W.Frag} {mg : Str → Option Value} {base : Heap} {x qual : Str} {params : Arguments} {body : List Stmt} {scope : Scope} {dvs : List V} {kws : List (Str × V)} {f : Addr} {fd : FuncData} {N ps : List Str} {k : Nat} {sp : Sp}
theorem fn_G (F : FunD K x qual params body scope dvs kws f fd) (S : FnScope N ps scope) (len : ∀ {vs H Q E}, sp vs H Q E → vs.length = ps.length)
    (hb : ∀ (cdv : Value) (A : Around) (outer : List Env) (s : Shared) (H : Hp) (vs : List V) (Q : VK) (E : XK), A.guards = some [] → RoomG false k (A.deeper (envOfC qual scope s.heap.objs.size f cdv)) → sp vs H Q E →
      ∃ t, PSs (cxOf (L2.CX P w) P w K mg base N qual scope f cdv A outer s H E) body t ∧ t { nx := fun _ H' => Q .non H', rt := Q } (start N vs) H) : FnG false P w K mg base (k + 1) f fd ps sp := by
  obtain ⟨oc, od, dV, kV, doc, pm, an, cdv, ct, osl, rfl, lk, hcd, _, _⟩ := F.ex
  refine ⟨len, fun {A outer s H args us vs Q E} gd rm e0 bt rv q => ?_⟩
  obtain ⟨t, ht, hq⟩ := hb cdv A outer s H vs Q E gd (rm.deeper _) q
  have kin : K.In s.heap := e0.mod.kin.keeps fun b o e => (e0.bs b o e).1
  have kinds : ∀ y ∈ ps.zip us, scope.names.lookup y.1 = some .local ∨ (scope.names.lookup y.1 = some .cell ∧ ((cellsFrom (s.heap.objs.size + 1) scope.names []).lookup y.1).isSome = true) := fun y hy => by
    have hp := (List.of_mem_zip (show (y.1, y.2) ∈ ps.zip us from hy)).1
    exact (S.par y.1 hp).elim .inl fun z => .inr ⟨z, PySem.W.cellsFrom_some _ _ _ (.inl z)⟩
  refine codeAny_call_function rm.depth (kin _ _ lk) rfl S.co S.gen rfl (PySem.W.codeRec_of kin hcd) (bt _ _ _ _ (wpAny_newFunctionEnv_cells S.kind kinds fun env he st1 inc => ?_))
  subst he
  have nl : s.heap.NoLimit := e0.mod.nolimit.keeps fun b o e => (e0.bs b o e).1
  refine ⟨nl.keeps inc.toInCall.keep, codeAny_func ?_⟩
  refine wpAny_mono (ht.run [] st1 _ H _ (inv_start S (rm.hd rfl) e0 (len q) rv inc) hq) (fun fl st2 done => ?_) fun _ _ z => z
  match fl, done with
  | .ret u, ⟨v, _, H', J, r, z⟩ => exact ⟨v, H', J.os, J.bare, J.base, J.hok, r, z⟩
  | .next, ⟨_, H', J, z⟩ => exact ⟨V.non, H', J.os, J.bare, J.base, J.hok, rfl, z⟩
  | .brk, ⟨_, _, _, z⟩ => exact z.elim
  | .cont, ⟨_, _, _, z⟩ => exact z.elim
theorem fn_GH (F : FunD K x qual params body scope dvs kws f fd) (S : FnScope N ps scope) (len : ∀ {vs H Q E}, sp vs H Q E → vs.length = ps.length)
    (hb : ∀ (cdv : Value) (A : Around) (outer : List Env) (s : Shared) (H : Hp) (vs : List V) (Q : VK) (E : XK) (p : Addr × Obj), A.guards = some [] → RoomG true k (A.deeper (envOfC qual scope s.heap.objs.size f cdv)) → sp vs H Q E →
      ∃ t, PSs (L2H.cxH (L2.CX P w) P w K mg base N qual scope f cdv A outer s H E p) body t ∧ t { nx := fun _ H' => Q .non H', rt := Q } (start N vs) H) : FnG true P w K mg base (k + 1) f fd ps sp := by
  obtain ⟨oc, od, dV, kV, doc, pm, an, cdv, ct, osl, rfl, lk, hcd, _, _⟩ := F.ex
  refine ⟨len, fun {A outer s H args us vs Q E} gd rm e0 bt rv q => ?_⟩
  obtain ⟨p, hp⟩ : ∃ p : Addr × Obj, L2H.PinOk outer H s p := by
    obtain ⟨o, es, ep, e1, e2, _⟩ := e0.mod.glob
    obtain ⟨g1, g2⟩ := e0.bs _ _ e1
    refine ⟨(mainGlobals, o), g1, g2, fun hm => ?_, fun v z => ?_⟩
    · have n := (e0.funs.mem hm).1
      rw [e1] at n
      cases n
    · rw [show (mainGlobals, o).2 = o from rfl, e2] at z
      cases z
  obtain ⟨t, ht, hq⟩ := hb cdv A outer s H vs Q E p gd (rm.deeper _) q
  have kin : K.In s.heap := e0.mod.kin.keeps fun b o e => (e0.bs b o e).1
  have kinds : ∀ y ∈ ps.zip us, scope.names.lookup y.1 = some .local ∨ (scope.names.lookup y.1 = some .cell ∧ ((cellsFrom (s.heap.objs.size + 1) scope.names []).lookup y.1).isSome = true) := fun y hy => by
    have hp := (List.of_mem_zip (show (y.1, y.2) ∈ ps.zip us from hy)).1
    exact (S.par y.1 hp).elim .inl fun z => .inr ⟨z, PySem.W.cellsFrom_some _ _ _ (.inl z)⟩
  refine codeAny_call_function rm.depth (kin _ _ lk) rfl S.co S.gen rfl (PySem.W.codeRec_of kin hcd) (bt _ _ _ _ (wpAny_newFunctionEnv_cells S.kind kinds fun env he st1 inc => ?_))
  subst he
  have nl : s.heap.NoLimit := e0.mod.nolimit.keeps fun b o e => (e0.bs b o e).1
  refine ⟨nl.keeps inc.toInCall.keep, codeAny_func ?_⟩
  refine wpAny_mono (ht.run [] st1 _ H _ (L2H.inv_startH S hp e0 (len q) rv inc) hq) (fun fl st2 done => ?_) fun _ _ z => z
  match fl, done with
  | .ret u, ⟨v, _, H', J, r, z⟩ => exact ⟨v, H', J.os, J.bare, J.base, J.hok, r, z⟩
  | .next, ⟨_, H', J, z⟩ => exact ⟨V.non, H', J.os, J.bare, J.base, J.hok, rfl, z⟩
  | .brk, ⟨_, _, _, z⟩ => exact z.elim
  | .cont, ⟨_, _, _, z⟩ => exact z.elim
end

/-- the law is called with a script -/
theorem call_G {P : Program} {w : World} {K : PySem.W.Frag} {mg mb : Str → Option Value} {k : Nat} {fa a : Addr} {fd : FuncData} {x : Str} {sp : Sp} {s : Shared} {vs : List Value} {ns : List Int}
    (KX : K.In s.heap) (hns : s.heap.Ns mainGlobals mg) (hb : s.heap.Ns builtinsNs mb) (hbb : ∀ y : Str, y ≠ "__name__" → mb y = bootBuiltins y) (hlim : s.heap.NoLimit) (hg : s.gens = #[])
    (ha : s.heap.get? a = some { cls := .type "list", data := .seq vs.toArray }) (hi : IntsAre vs ns) (hl : ns.length ≤ sizeLine) (rm : Room k callerA)
    (F : ∀ base : Heap, K.In base → base.Ns mainGlobals mg → FnG false P w K mg base k fa fd [x] sp) (hbind : ∀ (s : Shared) (u : Value), BindsTo s fd ⟨[u], []⟩ [(x, u)])
    (hsp : ∀ H : Hp, Only H → SqF K H a (ns.map V.int) → sp [.ref a] H (fun v _ => v = .bl true) fun _ _ _ => False) :
    codeAny (model P w) callerA (.call (.ref fa) ⟨[.ref a], []⟩) (fun r st => r = .ok (.ret (.bool true)) ∧ OldK s.heap st.heap ∧ st.os = s.os ∧ AllBare st.gens) s := by
  have main : ∀ H : Hp, Only H → SqF K H a (ns.map V.int) → HOk P w H s.heap → (∀ b u, H b = some u → b = a ∧ K.lookup a = none) →
      codeAny (model P w) callerA (.call (.ref fa) ⟨[.ref a], []⟩) (fun r st => r = .ok (.ret (.bool true)) ∧ OldK s.heap st.heap ∧ st.os = s.os ∧ AllBare st.gens) s := fun H only sq hok at_a => by
    have untr : ∀ {b : Addr} {o : Obj}, s.heap.get? b = some o → (b = a → False) → (hidT s.heap H).get? b = some o := fun {b o} e nb => hidT_get e (by
      cases q : H b with
      | none => rfl
      | some u => exact (nb (at_a b u q).1).elim)
    have sp_ns : ∀ {b : Addr} {m : Str → Option Value}, s.heap.Ns b m → (hidT s.heap H).Ns b m := fun {b m} ⟨o, es, ep, e, d, r⟩ => ⟨o, es, ep, untr e (fun z => by
      subst z
      rw [ha] at e
      cases e
      cases d), d, r⟩
    have in_b : K.In (hidT s.heap H) := fun b o e => hidT_get (KX b o e) (by
      cases q : H b with
      | none => rfl
      | some u =>
        obtain ⟨rfl, nk⟩ := at_a b u q
        rw [nk] at e
        cases e)
    have md : L2.Mod K mg (hidT s.heap H) := ⟨in_b, sp_ns hns, ⟨mb, sp_ns hb, hbb⟩, by
      obtain ⟨mc, l1, l2⟩ := hlim
      exact ⟨mc, sp_ns l1, l2⟩⟩
    have en : Env0 P w K mg (hidT s.heap H) callerA [] s H := ⟨rfl, md, fun b o => of_hidT, Nat.le_of_eq (hidT_size _ _), trivial, (fun b z => by cases z), hok, .of_eq hg⟩
    refine codeAny_mono ((F _ in_b (sp_ns hns)).run (us := [.ref a]) (vs := [.ref a]) rfl (RoomG.of rm) en (hbind s (.ref a)) (.cons rfl .nil) (hsp H only sq)) fun r st hz => ?_
    match r, hz with
    | .error e, ⟨_, _, _, _, _, _, _, _, _, _, _, _, z⟩ => exact z.elim
    | .ok (.ret u), ⟨v, H', os, bare, un, hok', ru, q⟩ =>
      have qe : v = .bl true := q
      subst qe
      have ue : u = Value.bool true := ru
      subst ue
      refine ⟨rfl, OldK.of_keep fun b o e => ?_, os, bare⟩
      cases qb : H b with
      | none => exact un.keep b o e qb (fun z => by cases z) (fun z => by cases z)
      | some h0 =>
        rcases only b with z | ⟨ob, ys, z⟩
        · rw [z] at qb
          cases qb
        · have f1 := (hok b _ z).1
          have f2 := (hok' b _ (un.frzs b ob _ z)).1
          rw [e] at f1
          cases f1
          exact f2
  have rv := vals_ints hi
  cases hk : K.lookup a with
  | some o =>
    have e := KX a o hk
    rw [ha] at e
    cases e
    exact main (fun _ => none) (fun _ => .inl rfl) (.inr ⟨⟨_, _, hk⟩, fun _ => .inr ⟨_, vs.toArray, _, hk, rfl, rfl, rfl, by rw [List.size_toArray, hi.length]; exact hl, by simpa using rv⟩⟩) (fun b u z => by cases z) fun b u z => by cases z
  | none =>
    have key : ∀ b u, (if b = a then some (HO.frz { cls := .type "list", data := .seq vs.toArray } (.lst (ns.map V.int))) else none) = some u → b = a ∧ u = .frz { cls := .type "list", data := .seq vs.toArray } (.lst (ns.map V.int)) := fun b u z => by
      split at z
      · cases z
        exact ⟨by assumption, rfl⟩
      · cases z
    refine main (fun b => if b = a then some (.frz { cls := .type "list", data := .seq vs.toArray } (.lst (ns.map V.int))) else none) (fun b => ?_) (.inl ⟨_, _, if_pos rfl⟩) (fun b u z => ?_) fun b u z => ⟨(key b u z).1, hk⟩
    · by_cases q : b = a
      · exact .inr ⟨_, _, if_pos q⟩
      · exact .inl (if_neg q)
    · obtain ⟨rfl, rfl⟩ := key b u z
      exact ⟨ha, by simpa using hl, vs, _, rv, ha⟩
/-! ### what the context must have -/
def spC (K : PySem.W.Frag) (cad : Cad) (call : CallT) (f n : Nat) : Sp := fun vs H Q E => vs.length = n ∧ ∃ μ G ds, HRel K cad H μ G ∧ RpL K H μ ds vs ∧ call f ds G (PostE K cad H μ Q) (PostX K cad H μ E)
def KBd (K : PySem.W.Frag) (fd : FuncData) (ps : List Str) (n : Nat) (ks : List Str) (kwf : List Dt → List Str → List Dt → List Dt) : Prop :=
  ∃ g gV, KBn K fd ps n ks g gV ∧ ∀ (H : Hp) (μ : List Addr) (xs : List Dt) (vs : List V) (ys : List Dt) (zs : List V), vs.length = n → zs.length = ks.length → RpL K H μ xs vs → RpL K H μ ys zs → RpL K H μ (kwf xs ks ys) (gV vs zs) ∧ (gV vs zs).length = ps.length
structure Tok (T : Tab) (call : CallT) (kw : Nat → List Dt → List Str → List Dt → List Dt) (isa : Nat → Nat → Bool) (cad : Cad) (P : Program) (w : World) (K : PySem.W.Frag) (mg : Str → Option Value) (base : Heap) (k : Nat) : Prop where
  con : ∀ x d, T.con.lookup x = some d → ∃ u v, mg x = some u ∧ RelV v u ∧ ∀ H μ, Rp K H μ d v
  free : ∀ x, T.free.contains x = true → mg x = none
  fn : ∀ x f, T.fns.lookup x = some f → ∃ fa fd ps, mg x = some (.ref fa) ∧ PySem.W.keepIn K (.ref fa) = true ∧ FnG T.hot P w K mg base (2 * k) fa fd ps (spC K cad call f ps.length) ∧ ∀ n ks, T.shp.contains (f, n, ks) = true → KBd K fd ps n ks (kw f)
  cls : ∀ x c, T.cls.lookup x = some c → mg x = some (.ref (cad c)) ∧ PySem.W.excIn K (cad c) He.veBase "ValueError.__new__" = true ∧ PySem.W.keepIn K (.ref (cad c)) = true ∧ PySem.W.subIn K (.ref (cad c)) (.type "BaseException") = some true ∧ PySem.W.typeIn K (.ref (cad c)) = some (.type "type") ∧ cad.ex c
  xcl : ∀ x c, T.xcl.lookup x = some c → mg x = some (.ref (cad c)) ∧ PySem.W.keepIn K (.ref (cad c)) = true ∧ PySem.W.subIn K (.ref (cad c)) (.type "BaseException") = some true ∧ PySem.W.typeIn K (.ref (cad c)) = some (.type "type") ∧ cad.ex c
  att : ∀ c f, T.att.contains (c, f) = true → Cls K (cad c) ∧ NoAttr K (cad c) f
  mts : T.hot = false → ∀ c m f, T.mts.contains (c, m, f) = true → ∃ fa fd ps, Cls K (cad c) ∧ Meth K (cad c) m fa ∧ FnG T.hot P w K mg base (2 * k) fa fd ps (spC K cad call f ps.length) ∧ ∀ n ks, T.shp.contains (f, n, ks) = true → KBd K fd ps n ks (kw f)
  mkr : T.hot = false → ∀ x c f, T.mkr.contains (x, c, f) = true → ∃ fa fd ps, mg x = some (.ref (cad c)) ∧ Cls K (cad c) ∧ Mk K (cad c) fa ∧ FnG T.hot P w K mg base (2 * k) fa fd ps (spC K cad call f ps.length) ∧ ∀ n ks, T.shp.contains (f, n, ks) = true → KBd K fd ps n ks (kw f)
  xf : cad.on → XFacts K isa cad
  on : T.exk = true → cad.on
  sm : SmOk K
structure Cok (T : Tab) (call : CallT) (kw : Nat → List Dt → List Str → List Dt → List Dt) (isa : Nat → Nat → Bool) (cad : Cad) (X : Cx) (W : WX) : Prop where
  calm : T.hot = false → X.calm = true
  nd : X.N.Nodup
  tk : Takes X W
  ex : ∃ k, RoomG T.hot (2 * k + 1) X.A ∧ Tok T call kw isa cad X.prog X.w X.K X.mg X.base k ∧ Tok T.toHot call kw isa cad X.prog X.w X.K X.mg X.base k
  gd : X.A.guards = some []
theorem Cok.units {T : Tab} {call : CallT} {kw : Nat → List Dt → List Str → List Dt → List Dt} {isa : Nat → Nat → Bool} {cad : Cad} {X : Cx} {W : WX} (c : Cok T call kw isa cad X W) : X.A.units + 65 < cLine := by
  obtain ⟨k, r, _⟩ := c.ex
  have := r.un
  omega
/-! ### consequences -/
section
variable {X : Cx}
theorem _root_.L2.PE.wk {e : Expr} {t t' : TE} (h : PE X e t) (i : ∀ σ H Q, t' σ H Q → t σ H Q) : PE X e t' := ⟨fun p s σ H Q I q => h.run p s σ H Q I (i σ H Q q)⟩
theorem _root_.L2.PT.wk {e : Expr} {t t' : TT} (h : PT X e t) (i : ∀ σ H Q, t' σ H Q → t σ H Q) : PT X e t' := ⟨fun p s σ H Q I q => h.run p s σ H Q I (i σ H Q q)⟩
theorem _root_.L2.PA.wk {e : List Expr} {t t' : TA} (h : PA X e t) (i : ∀ σ H Q, t' σ H Q → t σ H Q) : PA X e t' := ⟨fun z p s σ H Q I q => h.run z p s σ H Q I (i σ H Q q)⟩
theorem _root_.L2.PK.wk {e : List Keyword} {t t' : TA} (h : PK X e t) (i : ∀ σ H Q, t' σ H Q → t σ H Q) : PK X e t' := ⟨fun z p s σ H Q I q => h.run z p s σ H Q I (i σ H Q q)⟩
theorem _root_.L2.PO.wk {e : Option Expr} {t t' : TO} (h : PO X e t) (i : ∀ σ H Q, t' σ H Q → t σ H Q) : PO X e t' := ⟨fun p s σ H Q I q => h.run p s σ H Q I (i σ H Q q)⟩
theorem _root_.L2.PS.wk {e : Stmt} {t t' : TS} (h : PS X e t) (i : ∀ D σ H, t' D σ H → t D σ H) : PS X e t' := ⟨fun p s σ H Q I q => h.run p s σ H Q I (i Q σ H q)⟩
theorem _root_.L2.PSs.wk {e : List Stmt} {t t' : TS} (h : PSs X e t) (i : ∀ D σ H, t' D σ H → t D σ H) : PSs X e t' := ⟨fun p s σ H Q I q => h.run p s σ H Q I (i Q σ H q)⟩
theorem _root_.L2.PG.wk {e : Expr} {t t' : TG} (h : PG X e t) (i : ∀ v σ H Q, t' v σ H Q → t v σ H Q) : PG X e t' := ⟨fun p s σ H v u Q I r q => h.run p s σ H v u Q I r (i v σ H Q q)⟩
theorem _root_.L2.PGs.wk {e : List Expr} {t t' : TGs} (h : PGs X e t) (i : ∀ v σ H Q, t' v σ H Q → t v σ H Q) : PGs X e t' := ⟨fun p s σ H v u Q I r q => h.run p s σ H v u Q I r (i v σ H Q q)⟩
theorem _root_.L2.PI.wk {tg e : Expr} {t t' : TI} (h : PI X tg e t) (i : ∀ σ H Q, t' σ H Q → t σ H Q) : PI X tg e t' := ⟨fun p s σ H Q I q => h.run p s σ H Q I (i σ H Q q)⟩
theorem _root_.L2.PTs.wk {e : List Expr} {t t' : TT} (h : PTs X e t) (i : ∀ σ H Q, t' σ H Q → t σ H Q) : PTs X e t' := ⟨fun p s σ H Q I q => h.run p s σ H Q I (i σ H Q q)⟩
theorem _root_.L2.PW.ofT {op : BoolOp} {vs : List Expr} {pos : Pos} {t : TT} (h : PT X (.BoolOp op vs pos) t) : PW X (.BoolOp op vs pos) t := ⟨fun _ p s σ H Q I q => h.run p s σ H Q I q⟩
end
section
variable {K : PySem.W.Frag} {cad : Cad} {H : Hp} {μ : List Addr} {G : Gh} {σ : L2.St} {env : En} {W : WX} {s : Sm}
theorem LE.mk (m : MonoS s) (R : Rel K cad H μ G σ env) {Q : VK} {Q0 : QE} {E0 : XQ} (h : s.e env G Q0 E0) (hQ : ∀ d G', Q0 d G' → PostE K cad H μ Q d G') (hE : ∀ x G', E0 x G' → PostX K cad H μ (fun cls d H' => W cls d σ H') x G') : LE K cad W s.e σ H Q := ⟨μ, G, env, R, m.e hQ hE h⟩
theorem LT.mk (m : MonoS s) (R : Rel K cad H μ G σ env) {Q : Bool → Hp → Prop} {Q0 : Bool → Gh → Prop} {E0 : XQ} (h : s.t env G Q0 E0) (hQ : ∀ d G', Q0 d G' → PostB K cad H μ Q d G') (hE : ∀ x G', E0 x G' → PostX K cad H μ (fun cls d H' => W cls d σ H') x G') : LT K cad W s.t σ H Q := ⟨μ, G, env, R, m.t hQ hE h⟩
theorem LA.mk (m : MonoS s) (R : Rel K cad H μ G σ env) {Q : List V → Hp → Prop} {Q0 : List Dt → Gh → Prop} {E0 : XQ} (h : s.a env G Q0 E0) (hQ : ∀ d G', Q0 d G' → PostA K cad H μ Q d G') (hE : ∀ x G', E0 x G' → PostX K cad H μ (fun cls d H' => W cls d σ H') x G') : LA K cad W s.a σ H Q := ⟨μ, G, env, R, m.a hQ hE h⟩
theorem LO.mk (m : MonoS s) (R : Rel K cad H μ G σ env) {Q : Option Int → Hp → Prop} {Q0 : Option Int → Gh → Prop} {E0 : XQ} (h : s.o env G Q0 E0) (hQ : ∀ d G', Q0 d G' → PostO K cad H μ Q d G') (hE : ∀ x G', E0 x G' → PostX K cad H μ (fun cls d H' => W cls d σ H') x G') : LO K cad W s.o σ H Q := ⟨μ, G, env, R, m.o hQ hE h⟩
theorem LG.mk (m : MonoS s) {S : List Nat} (R : Rel K cad H μ G σ env) {d : Dt} {v : V} (r : Rp K H μ d v) {Q : L2.St → Hp → Prop} {Q0 : En → Gh → Prop} (h : s.g d env G Q0 fun _ _ => False) (hQ : ∀ d G', Q0 d G' → PostG K cad H μ S σ Q d G') : LG K cad S s.g v σ H Q := ⟨μ, G, env, d, R, r, m.g hQ (fun _ _ z => z) h⟩
theorem LGs.mk (m : MonoS s) {S : List Nat} (R : Rel K cad H μ G σ env) {ds : List Dt} {vs : List V} (r : RpL K H μ ds vs) {Q : L2.St → Hp → Prop} {Q0 : En → Gh → Prop} (h : s.gs ds env G Q0 fun _ _ => False) (hQ : ∀ d G', Q0 d G' → PostG K cad H μ S σ Q d G') : LGs K cad S s.gs vs σ H Q := ⟨μ, G, env, ds, R, r, m.gs hQ (fun _ _ z => z) h⟩
end
/-! ### what is walked -/
def Deliv (K : PySem.W.Frag) (cad : Cad) (μ0 : List Addr) (H0 : Hp) (T : It) (J : Iv) : Prop := ∀ (i : Nat) (H : Hp) (μ : List Addr) (G : Gh), Pre μ0 μ → KeepI H0 H → HRel K cad H μ G → Stands J.watch G →
  (∀ d, J.items[i]? = some d → T.go i H ∧ ∀ x H', T.yld i H x H' → KeepI H H' ∧ HRel K cad H' μ G ∧ Rp K H' μ d x ∧ (∀ a, (H a).isSome → H' a = H a)) ∧ (J.items.length ≤ i → T.stop i H)
def PostI (K : PySem.W.Frag) (cad : Cad) (H : Hp) (μ : List Addr) (R : It → Hp → Prop) : Iv → Gh → Prop := fun J G' => ∀ μ' H' T, Pre μ μ' → KeepI H H' → HRel K cad H' μ' G' → Deliv K cad μ' H' T J → R T H'
theorem PostI.step {K : PySem.W.Frag} {cad : Cad} {H H1 : Hp} {μ μ1 : List Addr} {R : It → Hp → Prop} (p : Pre μ μ1) (k : KeepI H H1) {J : Iv} {G' : Gh} (h : PostI K cad H μ R J G') : PostI K cad H1 μ1 R J G' := fun μ' H' T p' k' => h μ' H' T (p.trans p') (k.trans k')
def LI (K : PySem.W.Frag) (cad : Cad) (W : WX) (s : En → Gh → (Iv → Gh → Prop) → XQ → Prop) : TI := fun σ H R => ∃ μ G env, Rel K cad H μ G σ env ∧ s env G (PostI K cad H μ R) (PostX K cad H μ fun cls d H' => W cls d σ H')
theorem LI.mk {K : PySem.W.Frag} {cad : Cad} {H : Hp} {μ : List Addr} {G : Gh} {σ : L2.St} {env : En} {W : WX} {s : Sm} (m : MonoS s) (R : Rel K cad H μ G σ env) {Q : It → Hp → Prop} {Q0 : Iv → Gh → Prop} {E0 : XQ} (h : s.i env G Q0 E0) (hQ : ∀ d G', Q0 d G' → PostI K cad H μ Q d G') (hE : ∀ x G', E0 x G' → PostX K cad H μ (fun cls d H' => W cls d σ H') x G') : LI K cad W s.i σ H Q := ⟨μ, G, env, R, m.i hQ hE h⟩
section
variable {X : Cx} {cad : Cad} {K : PySem.W.Frag}
theorem pi_seq {tg l : Expr} {tl : TE} (hl : PE X l tl) : PI X tg l (fun σ H R => tl σ H fun x H1 => ∃ a xs, x = .ref a ∧ ((SqL X.K H1 a xs ∧ R (Itl X.K a) H1) ∨ (SqT X.K H1 a xs ∧ R (Itt X.K a) H1))) := by
  refine ⟨fun pns st sg Hh Rr Iv hh => ?_⟩
  refine thn (hl.run pns st sg Hh _ Iv hh) fun vv st1 ⟨x, H1, I1, r1, a, xs, ex, q1⟩ => ?_
  subst ex
  cases r1
  have fr : st1.heap.objs.size = st1.heap.objs.size := rfl
  rcases q1 with ⟨hq, q⟩ | ⟨hq, q⟩
  · obtain ⟨its, rv, pl, hz⟩ := I1.list hq
    refine wpAny_pyIter_list (PlainL.isList pl) ⟨st1.heap.objs.size, [st1.heap.objs.size], _, _, H1, rfl, I1.kept (t' := st1.toks) (fun b o e => Heap.get?_push_of_some _ e), turn_list a _, ⟨_, Heap.get?_push_size _ rfl, rfl, rfl⟩, fun b hb => ?_, q⟩
    rw [List.mem_singleton.mp hb]
    exact I1.fpOk (Nat.le_refl _) (I1.hok.fresh (Nat.le_refl _))
  · obtain ⟨its, rv, pl, hz⟩ := I1.tuple hq
    have tp : st1.heap.IsTuple a its.toArray := pl
    refine wpAny_pyIter_tuple tp ⟨st1.heap.objs.size, [st1.heap.objs.size], _, _, H1, rfl, I1.kept (t' := st1.toks) (fun b o e => Heap.get?_push_of_some _ e), turn_tuple a _, ⟨_, Heap.get?_push_size _ rfl, rfl, rfl⟩, fun b hb => ?_, q⟩
    rw [List.mem_singleton.mp hb]
    exact I1.fpOk (Nat.le_refl _) (I1.hok.fresh (Nat.le_refl _))
/-- a list that is watched stands at its place -/
theorem stands_sq {H : Hp} {μ0 μ : List Addr} {G : Gh} {n : Nat} {xs : List Dt} {a : Addr} (hr : HRel K cad H μ G) (e : lstAt G n = some xs) (ha : μ0[n]? = some a) (p : Pre μ0 μ) : ∃ vs, SqL K H a vs ∧ RpL K H μ xs vs := by
  obtain ⟨b, vs, e1, q, l⟩ := hr.lstAt e
  rw [p n a ha] at e1
  cases e1
  exact ⟨vs, q, l⟩
theorem deliv_list {H : Hp} {μ : List Addr} {G : Gh} {n : Nat} {xs : List Dt} {a : Addr} (ha : μ[n]? = some a) : Deliv K cad μ H (Itl K a) ⟨xs, [(n, xs)]⟩ := fun i H1 μ1 G1 p k hr st => by
  obtain ⟨vs, q, l⟩ := stands_sq hr (st (n, xs) (List.mem_singleton.mpr rfl)) ha p
  refine ⟨fun d e => ?_, fun hi => ⟨vs, q, by rw [← l.length]; exact hi⟩⟩
  obtain ⟨v, e2, r⟩ := l.get e
  refine ⟨⟨vs, v, q, e2⟩, fun x H' y => ?_⟩
  obtain ⟨e1, h⟩ := y
  have e3 := h vs q
  rw [e2] at e3
  cases e3
  rw [e1]
  exact ⟨KeepI.refl _, hr, r, fun _ _ => rfl⟩
theorem deliv_tup {H : Hp} {μ : List Addr} {xs : List Dt} {vs : List V} {a : Addr} (q0 : SqT K H a vs) (l0 : RpL K H μ xs vs) : Deliv K cad μ H (Itt K a) ⟨xs, []⟩ := fun i H1 μ1 G1 p k hr st => by
  have q := k.sqT q0
  have l := l0.mono k p
  refine ⟨fun d e => ?_, fun hi => ⟨vs, q, by rw [← l.length]; exact hi⟩⟩
  obtain ⟨v, e2, r⟩ := l.get e
  refine ⟨⟨vs, v, q, e2⟩, fun x H' y => ?_⟩
  obtain ⟨e1, h⟩ := y
  have e3 := h vs q
  rw [e2] at e3
  cases e3
  rw [e1]
  exact ⟨KeepI.refl _, hr, r, fun _ _ => rfl⟩
theorem deliv_range {H : Hp} {μ : List Addr} (lo hi : Int) : Deliv K cad μ H (Itr lo (hi - lo).toNat) ⟨rangeD lo hi, []⟩ := fun i H1 μ1 G1 p k hr st => by
  refine ⟨fun d e => ?_, fun h => by
    show (hi - lo).toNat ≤ i
    unfold rangeD at h
    simpa using h⟩
  unfold rangeD at e
  rw [List.getElem?_map] at e
  have hb : i < (hi - lo).toNat := by
    cases q : (List.range (hi - lo).toNat)[i]? with
    | none => rw [q] at e; cases e
    | some j => simpa using (List.getElem?_eq_some_iff.mp q).1
  rw [List.getElem?_eq_getElem (by simpa using hb)] at e
  simp at e
  refine ⟨hb, fun x H' y => ?_⟩
  obtain ⟨e1, e2⟩ := y
  rw [e1, e2, ← e]
  exact ⟨KeepI.refl _, hr, rp_int.mpr rfl, fun _ _ => rfl⟩
end
end Wm

namespace Wm
open PySem PySem.Spec PyProof.Rows L2
/-! ### side conditions -/
theorem star_of {e : Expr} {es : List Expr} {env : Env} (h : notStar e = true) : starEach (e :: es) env = (false, eval e env) :: starEach es env := by
  cases e <;> first | rfl | cases h
theorem stars_any {pos : Pos} {env : Env} : ∀ {es : List Expr}, es.all notStar = true → (backTo pos (starEach es env)).any (·.1) = false
  | [], _ => rfl
  | e :: es, h => by
    rw [List.all_cons, Bool.and_eq_true] at h
    rw [star_of h.1]
    show (false || (backTo pos (starEach es env)).any (·.1)) = false
    rw [Bool.false_or]
    exact stars_any h.2
theorem mat_a_star {T : Tab} {N : List Str} {sc : Scope} {fn : Str → Bool} : ∀ (c : Cd) {es : List Expr}, (mat T N c sc fn).a es = true → es.all notStar = true
  | .nil, [], _ => rfl
  | .nil, _ :: _, h => by cases h
  | .cons a b, [], h => by cases h
  | .cons a b, x :: xs, h => by
    have h : (notStar x && (mat T N a sc fn).e x && (mat T N b sc fn).a xs) = true := h
    rw [Bool.and_eq_true, Bool.and_eq_true] at h
    rw [List.all_cons, h.1.1, mat_a_star b h.2]
    rfl
  | .var _, _, h => by cases h
  | .kint _, _, h => by cases h
  | .kstr _, _, h => by cases h
  | .kbl _, _, h => by cases h
  | .knon, _, h => by cases h
  | .gk _, _, h => by cases h
  | .bin .., _, h => by cases h
  | .neg _, _, h => by cases h
  | .notv _, _, h => by cases h
  | .cmp .., _, h => by cases h
  | .chain .., _, h => by cases h
  | .andv .., _, h => by cases h
  | .orv .., _, h => by cases h
  | .ifx .., _, h => by cases h
  | .tup _, _, h => by cases h
  | .lst _, _, h => by cases h
  | .call .., _, h => by cases h
  | .callk .., _, h => by cases h
  | .ix .., _, h => by cases h
  | .sl .., _, h => by cases h
  | .bi .., _, h => by cases h
  | .mt .., _, h => by cases h
  | .isi .., _, h => by cases h
  | .comp .., _, h => by cases h
  | .comp2 .., _, h => by cases h
  | .tand .., _, h => by cases h
  | .tor .., _, h => by cases h
  | .tnot _, _, h => by cases h
  | .tval _, _, h => by cases h
  | .ttrue, _, h => by cases h
  | .tcmp .., _, h => by cases h
  | .tchain .., _, h => by cases h
  | .gn _, _, h => by cases h
  | .gt _, _, h => by cases h
  | .gsub .., _, h => by cases h
  | .gstar .., _, h => by cases h
  | .gst _, _, h => by cases h
  | .iseq _, _, h => by cases h
  | .irange1 _, _, h => by cases h
  | .irange2 .., _, h => by cases h
  | .izip .., _, h => by cases h
  | .irangeD .., _, h => by cases h
  | .izips .., _, h => by cases h
  | .ienum _, _, h => by cases h
  | .asg .., _, h => by cases h
  | .asg2 .., _, h => by cases h
  | .asg3 .., _, h => by cases h
  | .dic .., _, h => by cases h
  | .aug .., _, h => by cases h
  | .ife .., _, h => by cases h
  | .whl .., _, h => by cases h
  | .forr .., _, h => by cases h
  | .ret _, _, h => by cases h
  | .retn, _, h => by cases h
  | .expr _, _, h => by cases h
  | .pass, _, h => by cases h
  | .brk, _, h => by cases h
  | .cnt, _, h => by cases h
  | .seq .., _, h => by cases h
  | .raise _, _, h => by cases h
theorem mark_of {op : CmpOp} {e : Expr} (h : notSet e = true) : behindInMarks op e = false := by
  cases e <;> first | rfl | cases h
theorem fold_of {e : Expr} {env : Env} (h : notSet e = true) : ∀ x, foldedSetIterable e env x = pure x := by
  intro x
  cases e <;> first | rfl | cases h
theorem ix_of {e : Expr} (h : notSlice e = true) : PlainIx e := by
  intro o i
  cases e <;> first | rfl | cases h
theorem plain_of {e : Expr} {env : Env} (h : plainT e = true) : ∀ whole, isTrue e env whole = (do let v ← whole; standAt e.pos; holding [v] (truthy v)) := by
  intro whole
  cases e with
  | UnaryOp op x p => cases op <;> first | rfl | cases h
  | BoolOp _ _ _ => cases h
  | IfExp _ _ _ _ => cases h
  | Compare _ _ _ _ => cases h
  | _ => rfl
theorem vis_of {sc : Scope} {x : Str} (h : visB sc x = true) : Vis sc x := by
  unfold visB at h
  split at h
  · rename_i e; exact .inl e
  · rename_i e; exact .inr (.inl e)
  · rename_i e; exact .inr (.inr e)
  · cases h
theorem dbg_of {x : Str} (h : noDbg x = true) : (x == ("__debug__" : Str)) = false ∧ (x == ("__classdict__" : Str)) = false := by
  unfold noDbg at h
  rw [Bool.and_eq_true, Bool.not_eq_true', Bool.not_eq_true'] at h
  exact h
theorem glo_of {X : Cx} {x : Str} (h : gloB X.env.scope x = true) : Gl X x ∧ (x == ("__debug__" : Str)) = false := by
  unfold gloB at h
  split at h
  · rename_i e
    exact ⟨e, by rw [Bool.not_eq_true'] at h; exact h⟩
  · cases h
theorem loc_of {sc : Scope} {fn : Str → Bool} {x : Str} (h : locB sc fn x = true) : Loc sc x ∧ (fn x = true ∨ sc.names.lookup x = some .local) := by
  unfold locB at h
  split at h
  · rename_i e; exact ⟨.inl e, .inr e⟩
  · rename_i e; exact ⟨.inr e, .inl h⟩
  · cases h
theorem eqs {x y : Str} (h : (x == y) = true) : x = y := by simpa using h
/-! ### a, *rest = a tuple -/
theorem tup_walk {prog : Program} {w : World} {A : Around} (hh : A.handled = none) (it ax : Addr) (hne : ax ≠ it) (items : Array Value) (k : Nat) :
    Walks prog w A it [it, ax] [it] (items.size - k) (fun j v => items[k + j]? = some v) (fun j h => IsTupIter h it ax (k + j) ∧ IsTup h ax items) where
  sub := fun b hb => by
    rw [List.mem_singleton.mp hb]
    exact List.mem_cons_self
  frame := fun _ _ _ st hk => by
    obtain ⟨⟨o, ho, r⟩, ⟨o2, ho2, r2⟩⟩ := st
    exact ⟨⟨o, hk it (by simp) o ho, r⟩, ⟨o2, hk ax (by simp) o2 ho2, r2⟩⟩
  item := fun j s Q E hj st hQ => by
    have hx : items[k + j]? = some (items[k + j]'(by omega)) := by simp
    refine next_tuple_item st.1 st.2 hx fun h' i' b' => ?_
    exact hQ _ h' s.toks hx ⟨i', st.2.extBut b'.extBut hne⟩ fun b o hb e => b'.extBut b o (fun z => hb (by rw [z]; simp)) e
  done := fun s Q E st hQ => by
    refine next_tuple_end hh st.1 st.2 (by simp; omega) fun h' b' => ?_
    exact hQ h' s.toks fun b o hb e => b' b o (fun z => hb (by rw [z]; simp)) e
  self := fun j s Q E st hQ => by
    have hi := st.1
    exact wpAny_pyIter_tupleiter (i := k + j) (t := ax) hi hQ
theorem star_items {prog : Program} {w : World} {A : Around} {E : Value → Shared → Prop} {s : Shared} {t : Addr} {items : Array Value} {i : Nat} {Q : List Value → Shared → Prop} (hh : A.handled = none) (ht : IsTup s.heap t items) (hi : i ≤ items.size) (hz : items.size ≤ sizeLine)
    (hQ : ∀ (h' : Heap) (tk : Nat), (∀ b o, s.heap.get? b = some o → h'.get? b = some o) → Q (items.toList.take i ++ [.ref h'.objs.size]) { s with heap := h'.push { cls := .type "list", data := .seq (items.toList.drop i).toArray }, toks := tk }) :
    wpAny (model prog w) A (unpackItems (.ref t) (i + 1) (some i)) Q E s := by
  have hlt : t ≠ s.heap.objs.size := by obtain ⟨o, ho, _⟩ := ht; exact Nat.ne_of_lt (Heap.lt_size ho)
  unfold unpackItems
  refine wpAny_bind ?_
  unfold notIterableAtAll
  refine wpAny_bind (wpAny_specialOf ht.typeIs slot_tuple_iter.lookup ?_)
  refine wpAny_pure ?_
  simp only [Bool.false_eq_true, if_false]
  refine wpAny_bind (wpAny_holding (iter_tuple ht ?_))
  refine wpAny_bind (wpAny_holding (draw_tuple hlt i 0 _ _ ⟨_, Heap.get?_push_size _ rfl, rfl, rfl⟩ (ht.push _) (by omega) fun h1 i1 b1 => ?_))
  rw [Nat.zero_add] at i1
  have ht1 : IsTup h1 t items := (ht.push _).extBut b1.extBut hlt
  have hfl : (List.take i (List.drop 0 items.toList)).length = i := by simp; omega
  rw [if_neg (by rw [hfl]; omega)]
  have hs1 : s.heap.objs.size < h1.objs.size := by
    obtain ⟨o, ho, _⟩ := i1
    exact Heap.lt_size ho
  have ht2 : t < h1.objs.size := by
    obtain ⟨o, ho, _⟩ := ht1
    exact Heap.lt_size ho
  have W := (tup_walk (prog := prog) (w := w) (A := A.in1) hh s.heap.objs.size t hlt items i).toS
  refine wpAny_bind (wpAny_holding (wpAny_collect_iter (s := { s with heap := h1 }) (.inr (.inr (.inr rfl))) W (fun j s' st => st.1.typeIs) ⟨by rw [Nat.add_zero]; exact i1, ht1⟩ (fun b hb => ?_) List.mem_cons_self (fun s' acc hm ha => ?_) (by omega)))
  · simp at hb
    rcases hb with rfl | rfl
    · exact hs1
    · exact ht2
  · have hacc : acc.toList = items.toList.drop i := by
      apply List.ext_getElem?
      intro j
      rw [List.getElem?_drop]
      have := ha.2 j
      by_cases hj : j < acc.size
      · have e := this acc[j] (by simp [hj])
        simp at e ⊢
        rw [e]
        simp [hj]
      · rw [List.getElem?_eq_none (by simpa using hj), List.getElem?_eq_none (by have := ha.1; simp; omega)]
    rw [Moved.eq_with hm, hacc]
    have e0 : i + 1 - 1 - i = 0 := by omega
    rw [e0, if_neg (by omega), Nat.sub_zero, List.take_length, List.drop_length, List.drop_zero]
    refine wpAny_bind (wpAny_newList ?_ (by simp; omega))
    rw [List.append_nil]
    refine wpAny_pure (hQ s'.heap s'.toks fun b o e => ?_)
    have hb : b ≠ s.heap.objs.size := Nat.ne_of_lt (Heap.lt_size e)
    exact hm.heap b o (by simpa using hb) (b1.extBut b o hb (Heap.get?_push_of_some _ e))
/-- the starred target, last of all -/
theorem pgs_last {X : Cx} {e : Expr} {p : Pos} {t : TG} (h : PG X e t) : PGs X [.Starred e p] (fun vs σ H Q => ∃ v, vs = [v] ∧ t v σ H Q) := by
  refine ⟨fun pins s σ H vs us Q I r hw => ?_⟩
  obtain ⟨v, rfl, hw⟩ := hw
  cases r with
  | cons r rr =>
    cases rr
    show wpAny _ _ (assignInOrder [assign e X.env] _) _ _ s
    exact assignInOrder_cons (thn (h.run pins s σ H _ _ _ I r hw) fun _ s1 q1 => assignInOrder_nil q1)
/-- the targets of a starred unpacking: the rest comes last -/
theorem pg_star {X : Cx} {es : List Expr} {pos : Pos} {k i : Nat} {t : TGs} (hc : X.calm = true) (h : PGs X es t) (hl : (assignEach es X.env).length = i + 1) (hs : (assignEach es X.env).findIdx? (·.1) = some i) :
    PG X (.Tuple es k pos) (fun v σ H Q => ∃ a xs, v = .ref a ∧ SqT X.K H a xs ∧ i ≤ xs.length ∧ ∀ l, H l = none → t (xs.take i ++ [.ref l]) σ (upd H l (.lst (xs.drop i))) Q) := by
  refine ⟨fun pins s σ H v w Q I r hw => ?_⟩
  obtain ⟨a, xs, rfl, hq, hi, hw⟩ := hw
  cases r
  obtain ⟨its, rv, ht, hz⟩ := I.tuple hq
  rw [assign_Tuple]
  refine wpAny_bind (wpAny_standAt ?_)
  unfold unpack
  rw [hs, hl]
  have hsz : its.toArray.size = xs.length := by simp [rv.length]
  refine wpAny_bind (wpAny_holding (star_items (I.ok.hd hc) ht (by omega) (by omega) fun h' tk hk => ?_))
  have I1 : L2.Inv X pins σ H { s with heap := h', toks := tk } := I.kept hk
  have ob : ObjOk X.prog X.w (upd H h'.objs.size (.lst (xs.drop i))) (h'.push { cls := .type "list", data := .seq (its.drop i).toArray }) h'.objs.size (.lst (xs.drop i)) := ⟨by simp; omega, its.drop i, 0, rv.drop i, Heap.get?_push_size _ rfl⟩
  have I2 := I1.laid (t' := tk) (fun b u e => Heap.get?_push_of_some _ e) (Nat.le_refl _) ob
  exact h.run pins _ σ _ _ _ Q I2 (Vals.append (rv.take i) (.cons (show RelV (V.ref h'.objs.size) (Value.ref h'.objs.size) from rfl) .nil)) (hw _ (I1.hok.fresh (Nat.le_refl _)))
end Wm

namespace Wm
open PySem PySem.Spec PyProof.Rows L2
/-! ### calls -/
section
variable {hot : Bool} {X : Cx} {k n : Nat} {f : Addr} {fd : FuncData} {ps ks : List Str} {sp : Sp} {x : Str} {p pos : Pos} {e : Expr} {es : List Expr} {kws : List Keyword} {t tk : TA} {g : List Value → List Value → List Value} {gV : List V → List V → List V} {W : WX}
theorem run_C {pins : List (Addr × Obj)} {σ : L2.St} {H : Hp} {s : Shared} {Q : VK} {us ws : List Value} {vs zs : List V} (F : FnG hot X.prog X.w X.K X.mg X.base k f fd ps sp) (gd : X.A.guards = some []) (hr : RoomG hot k X.A) (hb : KBn X.K fd ps n ks g gV) (hx : Takes X W)
    (I : L2.Inv X pins σ H s) (r : Vals vs us) (rz : Vals zs ws) (l1 : vs.length = n) (l2 : zs.length = ks.length) (h : sp (gV vs zs) H Q (WE W σ)) : wpAny (model X.prog X.w) X.A (PySem.call (.ref f) us (ks.zip ws)) (EP X pins σ Q) X.xe s := by
  have r2 := hb.rel r rz
  have bt := hb.to s us ws I.kIn (r.length.symm.trans l1) (rz.length.symm.trans l2)
  refine wpAny_call (codeAny_mono (F.run (us := g us ws) (vs := gV vs zs) (E := WE W σ) gd hr I.env0 bt r2 h) fun rs st2 hq => ?_)
  match rs, hq with
  | .error e, hq => exact passAt hx σ pins H s e st2 I hq
  | .ok (.ret u), hq => exact I.after hq
def tCC (n m : Nat) (sp : Sp) (gV : List V → List V → List V) (W : WX) (t tk : TA) : TE := fun σ H Q => t σ H fun vs H1 => tk σ H1 fun zs H2 => vs.length = n ∧ zs.length = m ∧ sp (gV vs zs) H2 Q (WE W σ)
theorem pe_C0 (F : FnG hot X.prog X.w X.K X.mg X.base k f fd ps sp) (gd : X.A.guards = some []) (hr : RoomG hot k X.A) (hg : Gl X x) (hm : X.mg x = some (.ref f)) (hk : PySem.W.keepIn X.K (.ref f) = true) (hb : KBn X.K fd ps 0 [] g gV) (hx : Takes X W)
    (hdb : (x == ("__debug__" : Str)) = false) : PE X (.Call (.Name x p) [] [] pos) (fun σ H Q => sp (gV [] []) H Q (WE W σ)) := by
  refine ⟨fun pns st sg Hh Qq Iv hh => wpAny_Call_Name_kw (ld_glob Iv hg hm (PySem.W.callWith_K0 Iv.kIn hk ?_) hdb)⟩
  exact run_C (ks := []) (ws := []) F gd hr hb hx Iv (vs := []) (us := []) .nil .nil rfl rfl hh
theorem pe_C (F : FnG hot X.prog X.w X.K X.mg X.base k f fd ps sp) (gd : X.A.guards = some []) (hr : RoomG hot k X.A) (hg : Gl X x) (hm : X.mg x = some (.ref f)) (hk : PySem.W.keepIn X.K (.ref f) = true) (hb : KBn X.K fd ps n [] g gV) (hx : Takes X W)
    (ha : PA X (e :: es) t) (hst : (e :: es).all notStar = true) (hdb : (x == ("__debug__" : Str)) = false) : PE X (.Call (.Name x p) (e :: es) [] pos) (fun σ H Q => t σ H fun vs H1 => vs.length = n ∧ sp (gV vs []) H1 Q (WE W σ)) := by
  rw [List.all_cons, Bool.and_eq_true] at hst
  refine ⟨fun pns st sg Hh Qq Iv hh => wpAny_Call_Name_kw (ld_glob Iv hg hm ?_ hdb)⟩
  refine PySem.W.callWith_K (h₀ := X.base) Iv.ok.mod.kin hk (thn (ha.run pos pns st sg Hh _ Iv hh) fun us s1 ⟨vs, H1, I1, r1, l1, q⟩ => ⟨I1.kIn, ?_⟩) (star_of hst.1) (stars_any hst.2)
  exact run_C (ks := []) (ws := []) F gd hr hb hx I1 r1 .nil l1 rfl q
theorem kw_all {env : Env} {pos : Pos} : ∀ {kws : List Keyword}, kwAll kws = true → (backToKw pos (keywordEach kws env)).all (·.1.isSome) = true ∧ (backToKw pos (keywordEach kws env)).filterMap (·.1) = kwNames kws ∧ (backToKw pos (keywordEach kws env)).any (·.1.isNone) = false
  | [], _ => ⟨rfl, rfl, rfl⟩
  | ⟨some m, v, q⟩ :: r, h => by
    obtain ⟨h1, h2, h3⟩ := kw_all (kws := r) (env := env) (pos := pos) h
    refine ⟨?_, ?_, ?_⟩
    · show (true && (backToKw pos (keywordEach r env)).all (·.1.isSome)) = true
      rw [h1]; rfl
    · show m :: (backToKw pos (keywordEach r env)).filterMap (·.1) = m :: kwNames r
      rw [h2]
    · show (false || (backToKw pos (keywordEach r env)).any (·.1.isNone)) = false
      rw [h3]; rfl
  | ⟨none, v, q⟩ :: r, h => by cases h
theorem pe_CK (F : FnG hot X.prog X.w X.K X.mg X.base k f fd ps sp) (gd : X.A.guards = some []) (hr : RoomG hot k X.A) (hg : Gl X x) (hm : X.mg x = some (.ref f)) (hk : PySem.W.keepIn X.K (.ref f) = true) (hb : KBn X.K fd ps n (kwNames kws) g gV) (hx : Takes X W)
    (ha : PA X (e :: es) t) (hkw : PK X kws tk) (hst : (e :: es).all notStar = true) (hka : kwAll kws = true) (hdb : (x == ("__debug__" : Str)) = false) : PE X (.Call (.Name x p) (e :: es) kws pos) (tCC n (kwNames kws).length sp gV W t tk) := by
  obtain ⟨k1, k2, k3⟩ := kw_all (env := X.env) (pos := pos) hka
  have hs2 := hst
  rw [List.all_cons, Bool.and_eq_true] at hs2
  refine ⟨fun pns st sg Hh Qq Iv hh => wpAny_Call_Name_kw (ld_glob Iv hg hm ?_ hdb)⟩
  refine PySem.W.callWith_KW (h₀ := X.base) Iv.ok.mod.kin hk k1 (thn (ha.run pos pns st sg Hh _ Iv hh) fun us s1 ⟨vs, H1, I1, r, q⟩ => ?_) (by rw [stars_any hst, k3]; rfl) (star_of hs2.1)
  refine thn (hkw.run pos pns s1 sg H1 _ I1 q) fun ws s2 ⟨zs, H2, I2, rz, l1, l2, q2⟩ => ⟨I2.kIn, ?_⟩
  rw [k2]
  exact run_C F gd hr hb hx I2 r rz l1 l2 q2
/-! ### methods, new instances -/
theorem wm_meth {prog : Program} {w : World} {A : Around} {E : Value → Shared → Prop} {s : Shared} {env : Env} {o : Expr} {m : Str} {apos : Pos} {Q : Value → Shared → Prop} (hb : attributeBase o m env (eval o env) = eval o env) (hf : methodCallForm (es.length + kws.length) (backTo pos (starEach es env)) (backToKw pos (keywordEach kws env)) = true) (hl : (apos.endLine == pos.line) = true)
    (h : wpAny (model prog w) A (eval o env) (fun ov t => ∀ pl, wpAny (model prog w) A (getMethod ov m pl) (fun fx u => wpAny (model prog w) A (callWith pos fx.1 fx.2 (backTo pos (starEach es env)) (backToKw pos (keywordEach kws env))) Q E u) E t) E s) : wpAny (model prog w) A (eval (.Call (.Attribute o m apos) es kws pos) env) Q E s := by
  have hp : methodCallPos true o env apos pos = pure pos := by
    unfold methodCallPos
    simp [hl]
  rw [arm_eval_Call, hb]
  refine wpAny_bind (wpAny_mono h (fun ov t h1 => wpAny_bind (wpAny_standAt ?_)) fun _ _ z => z)
  unfold methodCall
  rw [hf]
  exact wpAny_bind (wpAny_holding (wpAny_mono (h1 _) (fun fx u h2 => wpAny_bind (wpAny_of_eq hp h2)) fun _ _ z => z))
/-- o.m() -/
theorem pe_M0 {C : Addr} {m : Str} {o : Expr} {ta : TE} {apos : Pos} (ho : PE X o ta) (c : Cls X.K C) (hm : Meth X.K C m f) (F : FnG hot X.prog X.w X.K X.mg X.base k f fd ps sp) (gd : X.A.guards = some []) (hr : RoomG hot k X.A) (hb : KBn X.K fd ps 1 [] g gV) (hx : Takes X W)
    (hbase : attributeBase o m X.env (eval o X.env) = eval o X.env) (hl : (apos.endLine == pos.line) = true) :
    PE X (.Call (.Attribute o m apos) [] [] pos) (fun σ H Q => ta σ H fun x H1 => ∃ a dx ws, x = .ref a ∧ H1 a = some (.ins C dx ws) ∧ ws.lookup m = none ∧ sp (gV [x] []) H1 Q (WE W σ)) := by
  refine ⟨fun pns st sg Hh Qq Iv hh => wm_meth hbase rfl hl (thn (ho.run pns st sg Hh _ Iv hh) fun u s1 ⟨x, H1, I1, rx, a, dx, ws, ex, ea, l, q⟩ pl => ?_)⟩
  subst ex
  obtain rfl : u = Value.ref a := rx
  exact getmeth_ok I1 ea c hm l (PySem.W.callWith_K0 (first := [.ref a]) I1.kIn hm.kp (run_C (ks := []) (ws := []) (us := [.ref a]) (vs := [.ref a]) F gd hr hb hx I1 (.cons rfl .nil) .nil rfl rfl q))
/-- o.m(e, ..) -/
theorem pe_M {C : Addr} {m : Str} {o : Expr} {ta : TE} {apos : Pos} (ho : PE X o ta) (c : Cls X.K C) (hm : Meth X.K C m f) (F : FnG hot X.prog X.w X.K X.mg X.base k f fd ps sp) (gd : X.A.guards = some []) (hr : RoomG hot k X.A) (hb : KBn X.K fd ps (n + 1) [] g gV) (hx : Takes X W)
    (ha : PA X (e :: es) t) (hst : (e :: es).all notStar = true) (hbase : attributeBase o m X.env (eval o X.env) = eval o X.env) (hf : methodCallForm ((e :: es).length + ([] : List Keyword).length) (backTo pos (starEach (e :: es) X.env)) (backToKw pos (keywordEach [] X.env)) = true) (hl : (apos.endLine == pos.line) = true) :
    PE X (.Call (.Attribute o m apos) (e :: es) [] pos) (fun σ H Q => ta σ H fun x H1 => ∃ a dx ws, x = .ref a ∧ H1 a = some (.ins C dx ws) ∧ ws.lookup m = none ∧ t σ H1 fun vs H2 => vs.length = n ∧ sp (gV (x :: vs) []) H2 Q (WE W σ)) := by
  refine ⟨fun pns st sg Hh Qq Iv hh => wm_meth hbase hf hl (thn (ho.run pns st sg Hh _ Iv hh) fun u s1 ⟨x, H1, I1, rx, a, dx, ws, ex, ea, l, q⟩ pl => ?_)⟩
  subst ex
  obtain rfl : u = Value.ref a := rx
  refine getmeth_ok I1 ea c hm l ?_
  rw [List.all_cons, Bool.and_eq_true] at hst
  refine PySem.W.callWith_K (first := [.ref a]) (h₀ := X.base) Iv.ok.mod.kin hm.kp (thn (ha.run pos pns s1 sg H1 _ I1 q) fun us s2 ⟨vs, H2, I2, r2, l2, q2⟩ => ⟨I2.kIn, ?_⟩) (star_of hst.1) (stars_any hst.2)
  exact run_C (ks := []) (ws := []) (us := .ref a :: us) (vs := .ref a :: vs) F gd hr hb hx I2 (.cons rfl r2) .nil (by simp [l2]) rfl q2
/-- a new instance and its dict, then __init__ -/
theorem run_N {C : Addr} {pins : List (Addr × Obj)} {σ : L2.St} {H : Hp} {s : Shared} {Q : VK} {us ws : List Value} {vs zs : List V} (M : Mk X.K C f) (F : FnG hot X.prog X.w X.K X.mg X.base k f fd ps sp) (gd : X.A.guards = some []) (hr : RoomG hot (k + 1) X.A) (hb : KBn X.K fd ps (n + 1) ks g gV) (hx : Takes X W)
    (I : L2.Inv X pins σ H s) (r : Vals vs us) (rz : Vals zs ws) (l1 : vs.length = n) (l2 : zs.length = ks.length)
    (h : ∀ x dx, H x = none → H dx = none → dx ≠ x → sp (gV (.ref x :: vs) zs) (upd (upd H dx (.own x)) x (.ins C dx [])) (fun v H2 => v = .non ∧ Q (.ref x) H2) (WE W σ)) : wpAny (model X.prog X.w) X.A (PySem.call (.ref C) us (ks.zip ws)) (EP X pins σ Q) X.xe s := by
  have J := L2.Inv.made (C := C) I
  have hq := h (s.heap.objs.size + 1) s.heap.objs.size (I.hok.fresh (Nat.le_succ _)) (I.hok.fresh (Nat.le_refl _)) (Nat.ne_of_lt (Nat.lt_succ_self _))
  have r2 : Vals (gV (.ref (s.heap.objs.size + 1) :: vs) zs) (g (.ref (s.heap.objs.size + 1) :: us) ws) := hb.rel (.cons rfl r) rz
  have lu : (Value.ref (s.heap.objs.size + 1) :: us).length = n + 1 := by rw [List.length_cons, ← r.length, l1]
  have bt := hb.to _ (.ref (s.heap.objs.size + 1) :: us) ws J.kIn lu (rz.length.symm.trans l2)
  refine wpAny_call (make_map (f := f) I.kIn M.makes M.init (beq_iff_eq.mp M.fn) (codeAny_mono (F.run (E := WE W σ) gd (hr.make C us (ks.zip ws)) (J.env0.make C us (ks.zip ws)) bt r2 hq) fun rs t hz => ?_))
  match rs, hz with
  | .error e, hz => exact passAt hx σ pins _ _ e t J hz
  | .ok (.ret u), hz =>
    obtain ⟨v, H3, J3, rv, ev, q3⟩ := J.after hz
    subst ev
    exact ⟨rv, ⟨V.ref (s.heap.objs.size + 1), H3, J3, rfl, q3⟩⟩
/-- C() -/
theorem pe_N0 {C : Addr} (M : Mk X.K C f) (F : FnG hot X.prog X.w X.K X.mg X.base k f fd ps sp) (gd : X.A.guards = some []) (hr : RoomG hot (k + 1) X.A) (hg : Gl X x) (hm : X.mg x = some (.ref C)) (hb : KBn X.K fd ps 1 [] g gV) (hx : Takes X W) (hdb : (x == ("__debug__" : Str)) = false) :
    PE X (.Call (.Name x p) [] [] pos) (fun σ H Q => ∀ y dy, H y = none → H dy = none → dy ≠ y → sp (gV [.ref y] []) (upd (upd H dy (.own y)) y (.ins C dy [])) (fun v H2 => v = .non ∧ Q (.ref y) H2) (WE W σ)) := by
  refine ⟨fun pns st sg Hh Qq Iv hh => wpAny_Call_Name_kw (ld_glob Iv hg hm (PySem.W.callWith_K0 Iv.kIn M.kp ?_) hdb)⟩
  exact run_N (n := 0) (ks := []) (ws := []) (us := []) (vs := []) (zs := []) M F gd hr hb hx Iv .nil .nil rfl rfl hh
/-- C(e, ..) -/
theorem pe_N {C : Addr} (M : Mk X.K C f) (F : FnG hot X.prog X.w X.K X.mg X.base k f fd ps sp) (gd : X.A.guards = some []) (hr : RoomG hot (k + 1) X.A) (hg : Gl X x) (hm : X.mg x = some (.ref C)) (hb : KBn X.K fd ps (n + 1) [] g gV) (hx : Takes X W)
    (ha : PA X (e :: es) t) (hst : (e :: es).all notStar = true) (hdb : (x == ("__debug__" : Str)) = false) : PE X (.Call (.Name x p) (e :: es) [] pos) (fun σ H Q => t σ H fun vs H1 => vs.length = n ∧ ∀ y dy, H1 y = none → H1 dy = none → dy ≠ y → sp (gV (.ref y :: vs) []) (upd (upd H1 dy (.own y)) y (.ins C dy [])) (fun v H2 => v = .non ∧ Q (.ref y) H2) (WE W σ)) := by
  rw [List.all_cons, Bool.and_eq_true] at hst
  refine ⟨fun pns st sg Hh Qq Iv hh => wpAny_Call_Name_kw (ld_glob Iv hg hm ?_ hdb)⟩
  refine PySem.W.callWith_K (h₀ := X.base) Iv.ok.mod.kin M.kp (thn (ha.run pos pns st sg Hh _ Iv hh) fun us s1 ⟨vs, H1, I1, r1, l1, q⟩ => ⟨I1.kIn, ?_⟩) (star_of hst.1) (stars_any hst.2)
  exact run_N (ks := []) (ws := []) (zs := []) M F gd hr hb hx I1 r1 .nil l1 rfl q
end
end Wm

namespace Wm
open PySem PySem.Spec PyProof.Rows L2
section
variable (T : Tab) (call : CallT) (kw : Nat → List Dt → List Str → List Dt → List Dt) (isa : Nat → Nat → Bool) (cad : Cad)
/-- a loop's raise leaves -/
def Own (X : Cx) : Prop := PassesOwn (model X.prog X.w) X.A X.env X.xe ∧ X.stack = X.env :: X.outer ∧ X.env.frame = some X.env.locals ∧ X.ex = []
structure Snd (z : Cd) : Prop where
  e : ∀ (X : Cx) (W : WX), Cok T call kw isa cad X W → ∀ ex, (mat T X.N z X.env.scope X.fn).e ex = true → PE X ex (LE X.K cad W (sem call kw isa z).e) := by (intro X W ok ex h; cases h)
  tp : ∀ (X : Cx) (W : WX), Cok T call kw isa cad X W → ∀ es k pos, (mat T X.N z X.env.scope X.fn).e (.Tuple es k pos) = true → ∃ as, z = .tup as ∧ PA X es (LA X.K cad W (sem call kw isa as).a) := by (intro X W ok es k pos h; cases h)
  lc : ∀ (X : Cx) (W : WX), Cok T call kw isa cad X W → ∀ x gens scope pos y py i spos, X.N[i]? = some y → swLc X.env.scope scope y py pos = true → (mat T X.N z X.env.scope X.fn).e (.ListComp x gens scope pos) = true → PS X (.Assign [.Name y py] (.ListComp x gens scope pos) spos) (tAsg (LE X.K cad W (sem call kw isa z).e) (gName i)) := by (intro X W ok x gens scope pos y py i spos hi hs h; cases h)
  t : ∀ (X : Cx) (W : WX), Cok T call kw isa cad X W → ∀ ex, (mat T X.N z X.env.scope X.fn).t ex = true → PT X ex (LT X.K cad W (sem call kw isa z).t) := by (intro X W ok ex h; cases h)
  c : ∀ (X : Cx) (W : WX), Cok T call kw isa cad X W → ∀ ex, (mat T X.N z X.env.scope X.fn).c ex = true → PTs X ex (LT X.K cad W (sem call kw isa z).t) := by (intro X W ok ex h; cases h)
  a : ∀ (X : Cx) (W : WX), Cok T call kw isa cad X W → ∀ ex, (mat T X.N z X.env.scope X.fn).a ex = true → PA X ex (LA X.K cad W (sem call kw isa z).a) := by (intro X W ok ex h; cases h)
  dp : ∀ (X : Cx) (W : WX), Cok T call kw isa cad X W → ∀ ks keys vals pos, keysB ks keys = true → (mat T X.N z X.env.scope X.fn).a vals = true → keys.length = vals.length → ∃ trs, PPs X pos keys vals trs ∧ ∀ σ H Q, LA X.K cad W (sem call kw isa z).a σ H (fun vs H' => Q ((ks.zip vs).map fun p => (V.str p.1, p.2)) H') → tPairs trs σ H Q := by (intro X W ok ks keys vals pos hk h; cases h)
  k : ∀ (X : Cx) (W : WX), Cok T call kw isa cad X W → ∀ ex, (mat T X.N z X.env.scope X.fn).k ex = true → PK X ex (LA X.K cad W (sem call kw isa z).a) := by (intro X W ok ex h; cases h)
  o : ∀ (X : Cx) (W : WX), Cok T call kw isa cad X W → ∀ ex, (mat T X.N z X.env.scope X.fn).o ex = true → PO X ex (LO X.K cad W (sem call kw isa z).o) := by (intro X W ok ex h; cases h)
  g : ∀ (X : Cx) (W : WX), Cok T call kw isa cad X W → ∀ ex, (mat T X.N z X.env.scope X.fn).g ex = true → PG X ex (LG X.K cad (slotsG z) (sem call kw isa z).g) := by (intro X W ok ex h; cases h)
  gs : ∀ (X : Cx) (W : WX), Cok T call kw isa cad X W → ∀ ex, (mat T X.N z X.env.scope X.fn).gs ex = true → PGs X ex (LGs X.K cad (slotsG z) (sem call kw isa z).gs) := by (intro X W ok ex h; cases h)
  gr : ∀ (X : Cx) (W : WX), Cok T call kw isa cad X W → ∀ ex, (mat T X.N z X.env.scope X.fn).gr ex = true → PGs X ex (LGs X.K cad (slotsG z) (sem call kw isa z).gs) := by (intro X W ok ex h; cases h)
  i : ∀ (X : Cx) (W : WX), Cok T call kw isa cad X W → ∀ tg ex, (mat T X.N z X.env.scope X.fn).i tg ex = true → PI X tg ex (LI X.K cad W (sem call kw isa z).i) := by (intro X W ok tg ex h; cases h)
  s : ∀ (X : Cx) (W : WX), Cok T call kw isa cad X W → Own X → X.env.scope.kind = .function → ∀ ex, (mat T X.N z X.env.scope X.fn).s ex = true → PS X ex (LS X.K cad W (sem call kw isa z).s) := by (intro X W ok ow hk ex h; cases h)
  b : ∀ (X : Cx) (W : WX), Cok T call kw isa cad X W → Own X → X.env.scope.kind = .function → ∀ ex, (mat T X.N z X.env.scope X.fn).b ex = true → PSs X ex (LS X.K cad W (sem call kw isa z).s) := by (intro X W ok ow hk ex h; cases h)
end
section
variable {T : Tab} {call : CallT} {kw : Nat → List Dt → List Str → List Dt → List Dt} {isa : Nat → Nat → Bool} {cad : Cad}
theorem notHot {T : Tab} (h : (!T.hot) = true) : T.hot = false := by simpa using h
theorem b2 {a b : Bool} (h : (a && b) = true) : a = true ∧ b = true := Bool.and_eq_true_iff.mp h
theorem snd_var (i : Nat) : Snd T call kw isa cad (.var i) where
  e := fun X W ok ex h => by
    cases ex <;> try (cases h; done)
    rename_i x pos
    obtain ⟨h, h3⟩ := b2 h
    obtain ⟨h1, h2⟩ := b2 h
    obtain ⟨d1, d2⟩ := dbg_of h3
    refine (pe_var (i := i) (by simpa using h1) (vis_of h2) d1 d2).wk fun σ H Q ⟨μ, G, env, R, d, e, q⟩ => ?_
    obtain ⟨v, e1, r⟩ := R.var i d e
    exact ⟨v, e1, q.now R.h r⟩
theorem snd_kint (i : Int) : Snd T call kw isa cad (.kint i) where
  e := fun X W ok ex h => by
    cases ex <;> try (cases h; done)
    rename_i c j pos
    cases c <;> try (cases h; done)
    rename_i z
    have h : (z == i) = true := h
    have e : z = i := by simpa using h
    subst e
    exact pe_int.wk fun σ H Q ⟨μ, G, env, R, q⟩ => q.now R.h (rp_int.mpr rfl)
theorem snd_kstr (i : Str) : Snd T call kw isa cad (.kstr i) where
  e := fun X W ok ex h => by
    cases ex <;> try (cases h; done)
    rename_i c j pos
    cases c <;> try (cases h; done)
    rename_i z
    have h : (z == i) = true := h
    have e : z = i := by simpa using h
    subst e
    exact pe_str.wk fun σ H Q ⟨μ, G, env, R, q⟩ => q.now R.h (rp_str.mpr rfl)
theorem snd_kbl (i : Bool) : Snd T call kw isa cad (.kbl i) where
  e := fun X W ok ex h => by
    cases ex <;> try (cases h; done)
    rename_i c j pos
    cases c <;> try (cases h; done)
    rename_i z
    have h : (z == i) = true := h
    have e : z = i := by simpa using h
    subst e
    exact pe_bl.wk fun σ H Q ⟨μ, G, env, R, q⟩ => q.now R.h (rp_bl.mpr rfl)
theorem snd_knon : Snd T call kw isa cad .knon where
  e := fun X W ok ex h => by
    cases ex <;> try (cases h; done)
    rename_i c j pos
    cases c <;> try (cases h; done)
    exact pe_non.wk fun σ H Q ⟨μ, G, env, R, q⟩ => q.now R.h (rp_non.mpr rfl)
theorem scal_of {d e : Dt} (h : scalB d e = true) : d = e := by
  cases d <;> cases e <;> simp [scalB] at h <;> first | rfl | (rw [h])
theorem scals_of : ∀ {xs ys : List Dt}, scalsB xs ys = true → xs = ys
  | [], [], _ => rfl
  | x :: xs, y :: ys, h => by
    obtain ⟨h1, h2⟩ := b2 (show (scalB x y && scalsB xs ys) = true from h)
    rw [scal_of h1, scals_of h2]
  | [], _ :: _, h => by cases h
  | _ :: _, [], h => by cases h
theorem con_of {x y : Dt} (h : conEq x y = true) : x = y := by
  unfold conEq at h
  split at h
  · rw [scals_of h]
  · exact scal_of h
theorem snd_gk (d : Dt) : Snd T call kw isa cad (.gk d) where
  e := fun X W ok ex h => by
    cases ex <;> try (cases h; done)
    rename_i x pos
    obtain ⟨h1, h2⟩ := b2 h
    obtain ⟨g1, g2⟩ := glo_of h2
    obtain ⟨k, _, tk, _⟩ := ok.ex
    have h1 : conB T x d = true := h1
    unfold conB at h1
    split at h1
    · rename_i e ce
      obtain ⟨u, v, hm, rv, hp⟩ := tk.con x e ce
      rw [con_of h1] at hp
      exact (pe_glob g1 hm rv g2).wk fun σ H Q ⟨μ, G, env, R, q⟩ => q.now R.h (hp _ _)
    · cases h1
section
variable (mc : MonoC call)
include mc
theorem snd_bin {o : Op2} {a b : Cd} (ia : Snd T call kw isa cad a) (ib : Snd T call kw isa cad b) : Snd T call kw isa cad (.bin o a b) where
  e := fun X W ok ex h => by
    cases ex <;> try (cases h; done)
    rename_i x op y pos
    obtain ⟨h, h3⟩ := b2 h
    obtain ⟨h1, h2⟩ := b2 h
    have e : op = o.py := by simpa using h1
    subst e
    have ma := sem_mono (kw := kw) (isa := isa) mc a
    have mb := sem_mono (kw := kw) (isa := isa) mc b
    refine (pe_op (op2_ok (cad := cad) o) (ia.e X W ok x h2) (ib.e X W ok y h3)).wk fun σ H Q ⟨μ, G, env, R, q⟩ => ?_
    exact LE.mk ma R q (fun d1 G1 q1 μ1 v1 H1 p1 k1 hr1 r1 => LE.mk mb (R.step p1 k1 hr1) q1 (fun d2 G2 q2 μ2 v2 H2 p2 k2 hr2 r2 =>
      ⟨μ2, G2, d1, d2, hr2, r1.mono k2 p2, r2, op2D_mono (fun d G' z => (z.step p1 k1).step p2 k2) q2⟩) fun x G' z => z.step p1 k1) fun x G' z => z
theorem snd_ix {a b : Cd} (ia : Snd T call kw isa cad a) (ib : Snd T call kw isa cad b) : Snd T call kw isa cad (.ix a b) where
  e := fun X W ok ex h => by
    cases ex <;> try (cases h; done)
    rename_i x y pos
    obtain ⟨h, h3⟩ := b2 h
    obtain ⟨h1, h2⟩ := b2 h
    have ma := sem_mono (kw := kw) (isa := isa) mc a
    have mb := sem_mono (kw := kw) (isa := isa) mc b
    refine (pe_ix (ix_ok (cad := cad) ok.units) (ia.e X W ok x h1) (ib.e X W ok y h2) (ix_of h3)).wk fun σ H Q ⟨μ, G, env, R, q⟩ => ?_
    exact LE.mk ma R q (fun d1 G1 q1 μ1 v1 H1 p1 k1 hr1 r1 => LE.mk mb (R.step p1 k1 hr1) q1 (fun d2 G2 q2 μ2 v2 H2 p2 k2 hr2 r2 =>
      ⟨μ2, G2, d1, d2, hr2, r1.mono k2 p2, r2, ixD_mono (fun d G' z => (z.step p1 k1).step p2 k2) q2⟩) fun x G' z => z.step p1 k1) fun x G' z => z
theorem snd_cmp {o : Cm} {a b : Cd} (ia : Snd T call kw isa cad a) (ib : Snd T call kw isa cad b) : Snd T call kw isa cad (.cmp o a b) where
  e := fun X W ok ex h => by
    unfold mat at h
    dsimp only at h
    split at h <;> try (cases h; done)
    rename_i x op y pos
    obtain ⟨h, h4⟩ := b2 h
    obtain ⟨h, h3⟩ := b2 h
    obtain ⟨h1, h2⟩ := b2 h
    have e : op = o.py := by simpa using h1
    subst e
    have ma := sem_mono (kw := kw) (isa := isa) mc a
    have mb := sem_mono (kw := kw) (isa := isa) mc b
    refine (pe_cmpR (cmp_ok (cad := cad) ok.units o) (ia.e X W ok x h2) (ib.e X W ok y h3) (mark_of h4)).wk fun σ H Q ⟨μ, G, env, R, q⟩ => ?_
    exact LE.mk ma R q (fun d1 G1 q1 μ1 v1 H1 p1 k1 hr1 r1 => LE.mk mb (R.step p1 k1 hr1) q1 (fun d2 G2 q2 μ2 v2 H2 p2 k2 hr2 r2 =>
      ⟨μ2, G2, d1, d2, hr2, r1.mono k2 p2, r2, cmpD_mono (fun d z => ((z.step p1 k1).step p2 k2).now hr2 (rp_bl.mpr rfl)) q2⟩) fun x G' z => z.step p1 k1) fun x G' z => z
theorem pt_tcmp {o : Cm} {a b : Cd} (ia : Snd T call kw isa cad a) (ib : Snd T call kw isa cad b) {X : Cx} {W : WX} (ok : Cok T call kw isa cad X W) {x y : Expr} {pos : Pos} (h2 : (mat T X.N a X.env.scope X.fn).e x = true) (h3 : (mat T X.N b X.env.scope X.fn).e y = true) (h4 : notSet y = true) :
    PT X (.Compare x [o.py] [y] pos) (LT X.K cad W (sem call kw isa (.tcmp o a b)).t) := by
  have ma := sem_mono (kw := kw) (isa := isa) mc a
  have mb := sem_mono (kw := kw) (isa := isa) mc b
  refine (pt_cmpR (cmp_ok (cad := cad) ok.units o) (ia.e X W ok x h2) (ib.e X W ok y h3) (mark_of h4)).wk fun σ H Q ⟨μ, G, env, R, q⟩ => ?_
  exact LE.mk ma R q (fun d1 G1 q1 μ1 v1 H1 p1 k1 hr1 r1 => LE.mk mb (R.step p1 k1 hr1) q1 (fun d2 G2 q2 μ2 v2 H2 p2 k2 hr2 r2 =>
      ⟨μ2, G2, d1, d2, hr2, r1.mono k2 p2, r2, cmpD_mono (fun d z => ⟨d, rfl, ((z.step p1 k1).step p2 k2) μ2 H2 (Pre.refl _) (KeepI.refl _) hr2⟩) q2⟩) fun x G' z => z.step p1 k1) fun x G' z => z
theorem snd_tcmp {o : Cm} {a b : Cd} (ia : Snd T call kw isa cad a) (ib : Snd T call kw isa cad b) : Snd T call kw isa cad (.tcmp o a b) where
  t := fun X W ok ex h => by
    unfold mat at h
    dsimp only at h
    split at h <;> try (cases h; done)
    rename_i x op y pos
    obtain ⟨h, h4⟩ := b2 h
    obtain ⟨h, h3⟩ := b2 h
    obtain ⟨h1, h2⟩ := b2 h
    have e : op = o.py := by simpa using h1
    subst e
    exact pt_tcmp mc ia ib ok h2 h3 h4
  c := fun X W ok ex h => by
    unfold mat at h
    dsimp only at h
    split at h <;> try (cases h; done)
    rename_i x op y pos
    obtain ⟨h, h4⟩ := b2 h
    obtain ⟨h, h3⟩ := b2 h
    obtain ⟨h1, h2⟩ := b2 h
    have e : op = o.py := by simpa using h1
    subst e
    exact pts_one (pt_tcmp mc ia ib ok h2 h3 h4)
end
end
end Wm

namespace Wm
open PySem PySem.Spec PyProof.Rows L2
section
variable {T : Tab} {call : CallT} {kw : Nat → List Dt → List Str → List Dt → List Dt} {isa : Nat → Nat → Bool} {cad : Cad}
theorem tru_of {K : PySem.W.Frag} {H : Hp} {μ : List Addr} {G : Gh} {d : Dt} {v : V} {b : Bool} (hr : HRel K cad H μ G) (r : Rp K H μ d v) (e : truD G d = some b) : TruV K v H b := by
  unfold truD at e
  split at e
  · cases e; rw [rp_non.mp r]; rfl
  · cases e; rw [rp_bl.mp r]; rfl
  · cases e; rw [rp_int.mp r]; rfl
  · cases e
  · cases e
    obtain ⟨a, vs, rfl, q, l⟩ := rp_tup.mp r
    refine .inr (.inl ⟨vs, q, ?_⟩)
    rename_i xs
    cases xs with
    | nil => rw [rpl_nil.mp l]; rfl
    | cons x xs => obtain ⟨w, r', rfl, _, _⟩ := rpl_cons.mp l; rfl
  · obtain ⟨a, g1, rfl⟩ := rp_ref.mp r
    rename_i n
    cases e1 : lstAt G n with
    | none => rw [e1] at e; cases e
    | some xs =>
      rw [e1] at e
      cases e
      obtain ⟨a', vs, g2, q, l⟩ := hr.lstAt e1
      rw [g1] at g2; cases g2
      refine .inl ⟨vs, q, ?_⟩
      cases xs with
      | nil => rw [rpl_nil.mp l]; rfl
      | cons x xs => obtain ⟨w, r', rfl, _, _⟩ := rpl_cons.mp l; rfl
theorem snd_ttrue : Snd T call kw isa cad .ttrue where
  c := fun X W ok ex h => by
    cases ex with
    | nil => exact pts_nil.wk fun σ H Q ⟨μ, G, env, R, q⟩ => q μ H (Pre.refl _) (KeepI.refl _) R.h
    | cons _ _ => cases h
theorem snd_nil : Snd T call kw isa cad .nil where
  dp := fun X W ok ks keys vals pos hk h hl => by
    cases vals with
    | cons _ _ => cases h
    | nil =>
      cases keys with
      | cons _ _ => cases hl
      | nil =>
        cases ks with
        | cons _ _ => cases hk
        | nil => exact ⟨[], pps_nil, fun σ H Q ⟨μ, G, env, R, q⟩ => q μ [] H (Pre.refl _) (KeepI.refl _) R.h (rpl_nil.mpr rfl)⟩
  a := fun X W ok ex h => by
    cases ex with
    | nil => exact pa_nil.wk fun σ H Q ⟨μ, G, env, R, q⟩ => q μ [] H (Pre.refl _) (KeepI.refl _) R.h (rpl_nil.mpr rfl)
    | cons _ _ => cases h
  k := fun X W ok ex h => by
    cases ex with
    | nil => exact pk_nil.wk fun σ H Q ⟨μ, G, env, R, q⟩ => q μ [] H (Pre.refl _) (KeepI.refl _) R.h (rpl_nil.mpr rfl)
    | cons _ _ => cases h
  gs := fun X W ok ex h => by
    cases ex with
    | nil =>
      refine pgs_nil.wk fun v σ H Q ⟨μ, G, env, ds, R, r, e, q⟩ => ?_
      subst e
      exact ⟨rpl_nil.mp r, q μ σ H (Pre.refl _) (KeepI.refl _) R (But.refl _ _)⟩
    | cons _ _ => cases h
  o := fun X W ok ex h => by
    cases ex with
    | none => exact po_none.wk fun σ H Q ⟨μ, G, env, R, q⟩ => q μ H (Pre.refl _) (KeepI.refl _) R.h
    | some _ => cases h
  b := fun X W ok ow hk ex h => by
    cases ex with
    | nil => exact pss_nil.wk fun D σ H ⟨μ, G, env, R, q⟩ => q μ σ H (Pre.refl _) (KeepI.refl _) R
    | cons _ _ => cases h
theorem assign_of {e : Expr} {es : List Expr} {env : Env} (h : notStar e = true) : assignEach (e :: es) env = (false, assign e env) :: assignEach es env := by
  cases e <;> first | rfl | cases h
section
variable (mc : MonoC call)
include mc
theorem snd_neg {a : Cd} (ia : Snd T call kw isa cad a) : Snd T call kw isa cad (.neg a) where
  e := fun X W ok ex h => by
    unfold mat at h
    dsimp only at h
    split at h <;> try (cases h; done)
    rename_i x pos
    refine (pe_un un_neg (ia.e X W ok x h)).wk fun σ H Q ⟨μ, G, env, R, q⟩ => ?_
    refine LE.mk (sem_mono mc a) R q (fun d G1 ⟨i, e, q1⟩ μ1 v1 H1 p1 k1 hr1 r1 => ?_) fun x G' z => z
    subst e
    exact ⟨i, rp_int.mp r1, (q1.step p1 k1).now hr1 (rp_int.mpr rfl)⟩
theorem snd_notv {a : Cd} (ia : Snd T call kw isa cad a) : Snd T call kw isa cad (.notv a) where
  e := fun X W ok ex h => by
    unfold mat at h
    dsimp only at h
    split at h <;> try (cases h; done)
    rename_i x pos
    refine (pe_notT (ia.e X W ok x h)).wk fun σ H Q ⟨μ, G, env, R, q⟩ => ?_
    exact LE.mk (sem_mono mc a) R q (fun d G1 ⟨b, e, q1⟩ μ1 v1 H1 p1 k1 hr1 r1 => ⟨b, tru_of hr1 r1 e, (q1.step p1 k1).now hr1 (rp_bl.mpr rfl)⟩) fun x G' z => z
theorem snd_chain {o o2 : Cm} {a b c : Cd} (ia : Snd T call kw isa cad a) (ib : Snd T call kw isa cad b) (ic : Snd T call kw isa cad c) : Snd T call kw isa cad (.chain o o2 a b c) where
  e := fun X W ok ex h => by
    unfold mat at h
    dsimp only at h
    split at h <;> try (cases h; done)
    rename_i x op op2 y z pos
    obtain ⟨h, h6⟩ := b2 h
    obtain ⟨h, h5⟩ := b2 h
    obtain ⟨h, h4⟩ := b2 h
    obtain ⟨h, h3⟩ := b2 h
    obtain ⟨h1, h2⟩ := b2 h
    have e1 : op = o.py := by simpa using h1
    have e2 : op2 = o2.py := by simpa using h2
    subst e1 e2
    refine (pe_chain (cmp_ok (cad := cad) ok.units o) (cmp_ok (cad := cad) ok.units o2) (ia.e X W ok x h3) (ib.e X W ok y h4) (ic.e X W ok z h5) (mark_of h6)).wk fun σ H Q ⟨μ, G, env, R, q⟩ => ?_
    refine LE.mk (sem_mono mc a) R q (fun d1 G1 q1 μ1 v1 H1 p1 k1 hr1 r1 => LE.mk (sem_mono mc b) (R.step p1 k1 hr1) q1 (fun d2 G2 q2 μ2 v2 H2 p2 k2 hr2 r2 =>
      ⟨μ2, G2, d1, d2, hr2, r1.mono k2 p2, r2, cmpD_mono (fun k q3 => ⟨k, rfl, ?_⟩) q2⟩) fun x G' z => z.step p1 k1) fun x G' z => z
    cases k with
    | false => exact ((PostE.step p1 k1 q3).step p2 k2).now hr2 (rp_bl.mpr rfl)
    | true =>
      exact LE.mk (sem_mono mc c) ((R.step p1 k1 hr1).step p2 k2 hr2) q3 (fun d3 G3 q3 μ3 v3 H3 p3 k3 hr3 r3 =>
        ⟨μ3, G3, d2, d3, hr3, r2.mono k3 p3, r3, cmpD_mono (fun d z => (((z.step p1 k1).step p2 k2).step p3 k3).now hr3 (rp_bl.mpr rfl)) q3⟩) fun x G' z => (z.step p1 k1).step p2 k2
theorem pt_tchain {o o2 : Cm} {a b c : Cd} (ia : Snd T call kw isa cad a) (ib : Snd T call kw isa cad b) (ic : Snd T call kw isa cad c) {X : Cx} {W : WX} (ok : Cok T call kw isa cad X W) {x y z : Expr} {pos : Pos} (h3 : (mat T X.N a X.env.scope X.fn).e x = true) (h4 : (mat T X.N b X.env.scope X.fn).e y = true) (h5 : (mat T X.N c X.env.scope X.fn).e z = true) (h6 : notSet z = true) :
    PT X (.Compare x [o.py, o2.py] [y, z] pos) (LT X.K cad W (sem call kw isa (.tchain o o2 a b c)).t) := by
  refine (pt_chain (cmp_ok (cad := cad) ok.units o) (cmp_ok (cad := cad) ok.units o2) (ia.e X W ok x h3) (ib.e X W ok y h4) (ic.e X W ok z h5) (mark_of h6)).wk fun σ H Q ⟨μ, G, env, R, q⟩ => ?_
  refine LE.mk (sem_mono mc a) R q (fun d1 G1 q1 μ1 v1 H1 p1 k1 hr1 r1 => LE.mk (sem_mono mc b) (R.step p1 k1 hr1) q1 (fun d2 G2 q2 μ2 v2 H2 p2 k2 hr2 r2 =>
      ⟨μ2, G2, d1, d2, hr2, r1.mono k2 p2, r2, cmpD_mono (fun k q3 => ⟨k, rfl, ?_⟩) q2⟩) fun x G' z => z.step p1 k1) fun x G' z => z
  cases k with
  | false => exact ⟨false, rfl, ((PostB.step p1 k1 q3).step p2 k2) μ2 H2 (Pre.refl _) (KeepI.refl _) hr2⟩
  | true =>
    exact LE.mk (sem_mono mc c) ((R.step p1 k1 hr1).step p2 k2 hr2) q3 (fun d3 G3 q3 μ3 v3 H3 p3 k3 hr3 r3 =>
        ⟨μ3, G3, d2, d3, hr3, r2.mono k3 p3, r3, cmpD_mono (fun d z => ⟨d, rfl, (((z.step p1 k1).step p2 k2).step p3 k3) μ3 H3 (Pre.refl _) (KeepI.refl _) hr3⟩) q3⟩) fun x G' z => (z.step p1 k1).step p2 k2
theorem snd_tchain {o o2 : Cm} {a b c : Cd} (ia : Snd T call kw isa cad a) (ib : Snd T call kw isa cad b) (ic : Snd T call kw isa cad c) : Snd T call kw isa cad (.tchain o o2 a b c) where
  t := fun X W ok ex h => by
    unfold mat at h
    dsimp only at h
    split at h <;> try (cases h; done)
    rename_i x op op2 y z pos
    obtain ⟨h, h6⟩ := b2 h
    obtain ⟨h, h5⟩ := b2 h
    obtain ⟨h, h4⟩ := b2 h
    obtain ⟨h, h3⟩ := b2 h
    obtain ⟨h1, h2⟩ := b2 h
    have e1 : op = o.py := by simpa using h1
    have e2 : op2 = o2.py := by simpa using h2
    subst e1 e2
    exact pt_tchain mc ia ib ic ok h3 h4 h5 h6
  c := fun X W ok ex h => by
    unfold mat at h
    dsimp only at h
    split at h <;> try (cases h; done)
    rename_i x op op2 y z pos
    obtain ⟨h, h6⟩ := b2 h
    obtain ⟨h, h5⟩ := b2 h
    obtain ⟨h, h4⟩ := b2 h
    obtain ⟨h, h3⟩ := b2 h
    obtain ⟨h1, h2⟩ := b2 h
    have e1 : op = o.py := by simpa using h1
    have e2 : op2 = o2.py := by simpa using h2
    subst e1 e2
    exact pts_one (pt_tchain mc ia ib ic ok h3 h4 h5 h6)
theorem snd_andv {a b : Cd} (ia : Snd T call kw isa cad a) (ib : Snd T call kw isa cad b) : Snd T call kw isa cad (.andv a b) where
  e := fun X W ok ex h => by
    unfold mat at h
    dsimp only at h
    split at h <;> try (cases h; done)
    rename_i x y rest pos
    obtain ⟨h1, h2⟩ := b2 h
    have hb : PE X (.BoolOp .And (y :: rest) pos) (LE X.K cad W (sem call kw isa b).e) := by
      cases rest with
      | nil => exact pe_one (ib.e X W ok y h2)
      | cons z r => exact ib.e X W ok _ h2
    refine (pe_and (ia.e X W ok x h1) hb).wk fun σ H Q ⟨μ, G, env, R, q⟩ => ?_
    refine LE.mk (sem_mono mc a) R q (fun d G1 ⟨c, e, q1⟩ μ1 v1 H1 p1 k1 hr1 r1 => ?_) fun x G' z => z
    subst e
    refine ⟨c, rp_bl.mp r1, ?_⟩
    cases c with
    | false => exact (PostE.step p1 k1 q1).now hr1 (rp_bl.mpr rfl)
    | true => exact LE.mk (sem_mono mc b) (R.step p1 k1 hr1) q1 (fun d G' z => PostE.step p1 k1 z) fun x G' z => z.step p1 k1
theorem snd_orv {a b : Cd} (ia : Snd T call kw isa cad a) (ib : Snd T call kw isa cad b) : Snd T call kw isa cad (.orv a b) where
  e := fun X W ok ex h => by
    unfold mat at h
    dsimp only at h
    split at h <;> try (cases h; done)
    rename_i x y rest pos
    obtain ⟨h1, h2⟩ := b2 h
    have hb : PE X (.BoolOp .Or (y :: rest) pos) (LE X.K cad W (sem call kw isa b).e) := by
      cases rest with
      | nil => exact pe_one (ib.e X W ok y h2)
      | cons z r => exact ib.e X W ok _ h2
    refine (pe_or (ia.e X W ok x h1) hb).wk fun σ H Q ⟨μ, G, env, R, q⟩ => ?_
    refine LE.mk (sem_mono mc a) R q (fun d G1 ⟨c, e, q1⟩ μ1 v1 H1 p1 k1 hr1 r1 => ?_) fun x G' z => z
    subst e
    refine ⟨c, rp_bl.mp r1, ?_⟩
    cases c with
    | true => exact (PostE.step p1 k1 q1).now hr1 (rp_bl.mpr rfl)
    | false => exact LE.mk (sem_mono mc b) (R.step p1 k1 hr1) q1 (fun d G' z => PostE.step p1 k1 z) fun x G' z => z.step p1 k1
theorem snd_ifx {c a b : Cd} (ic : Snd T call kw isa cad c) (ia : Snd T call kw isa cad a) (ib : Snd T call kw isa cad b) : Snd T call kw isa cad (.ifx c a b) where
  e := fun X W ok ex h => by
    unfold mat at h
    dsimp only at h
    split at h <;> try (cases h; done)
    rename_i z x y pos
    obtain ⟨h, h3⟩ := b2 h
    obtain ⟨h1, h2⟩ := b2 h
    refine (pe_ifExp (ic.t X W ok z h1) (ia.e X W ok x h2) (ib.e X W ok y h3)).wk fun σ H Q ⟨μ, G, env, R, q⟩ => ?_
    refine LT.mk (sem_mono mc c) R q (fun k G1 q1 μ1 H1 p1 k1 hr1 => ?_) fun x G' z => z
    cases k with
    | true => exact LE.mk (sem_mono mc a) (R.step p1 k1 hr1) q1 (fun d G' z => PostE.step p1 k1 z) fun x G' z => z.step p1 k1
    | false => exact LE.mk (sem_mono mc b) (R.step p1 k1 hr1) q1 (fun d G' z => PostE.step p1 k1 z) fun x G' z => z.step p1 k1
theorem snd_tup {a : Cd} (ia : Snd T call kw isa cad a) : Snd T call kw isa cad (.tup a) where
  e := fun X W ok ex h => by
    unfold mat at h
    dsimp only at h
    split at h <;> try (cases h; done)
    rename_i es k pos
    refine (pe_tup (ia.a X W ok es h)).wk fun σ H Q ⟨μ, G, env, R, q⟩ => ?_
    exact LA.mk (sem_mono mc a) R q (fun ds G1 ⟨z, q1⟩ μ1 vs H1 p1 k1 hr1 r1 => ⟨by rw [← r1.length]; exact z, fun p hp => (PostE.step p1 k1 q1).newT hr1 r1 hp⟩) fun x G' z => z
  tp := fun X W ok es k pos h => ⟨a, rfl, ia.a X W ok es h⟩
theorem snd_lst {a : Cd} (ia : Snd T call kw isa cad a) : Snd T call kw isa cad (.lst a) where
  e := fun X W ok ex h => by
    unfold mat at h
    dsimp only at h
    split at h <;> try (cases h; done)
    rename_i es pos
    refine (pe_lst (ia.a X W ok es h)).wk fun σ H Q ⟨μ, G, env, R, q⟩ => ?_
    exact LA.mk (sem_mono mc a) R q (fun ds G1 ⟨z, q1⟩ μ1 vs H1 p1 k1 hr1 r1 => ⟨by rw [← r1.length]; exact z, fun p hp => (PostE.step p1 k1 q1).newL hr1 r1 hp⟩) fun x G' z => z
theorem snd_dic {ks : List Str} {a : Cd} (ia : Snd T call kw isa cad a) : Snd T call kw isa cad (.dic ks a) where
  e := fun X W ok ex h => by
    unfold mat at h
    dsimp only at h
    split at h <;> try (cases h; done)
    rename_i keys vals pos
    obtain ⟨h, h3⟩ := b2 h
    obtain ⟨h1, h2⟩ := b2 h
    obtain ⟨h3, h4⟩ := b2 h3
    obtain ⟨h4, h5⟩ := b2 h4
    have hl : keys.length = vals.length := of_decide_eq_true h3
    have h15 : keys.length ≤ 15 := of_decide_eq_true h5
    by_cases h0 : keys = []
    · subst h0
      have ea : a = .nil := by
        cases a <;> first | rfl | cases h4
      subst ea
      cases vals with
      | cons _ _ => cases hl
      | nil =>
      cases ks with
      | cons _ _ => cases h1
      | nil =>
      refine pe_dnewK.wk fun σ H Q ⟨μ, G, env, R, q⟩ => fun p hp => ?_
      obtain ⟨e1, e2, e3, q1⟩ := q
      have es : (G ++ [Ob.dct []]).set G.length (.dct (mergeG [] (([] : List Str).zip []))) = G ++ [Ob.dct []] := by
        show (G ++ [Ob.dct []]).set G.length (.dct []) = _
        simp
      rw [es] at q1
      exact q1 (μ ++ [p]) _ _ (Pre.snoc μ p) (KeepI.new hp) (R.h.alloc hp rfl ⟨[], upd_same, rfl, rpl_nil.mpr rfl⟩) (rp_ref.mpr ⟨p, by rw [← R.h.len]; exact snoc_at μ p, rfl⟩)
    obtain ⟨trs, P, hr⟩ := ia.dp X W ok ks keys vals pos h1 h2 hl
    have hall : ∀ (ks : List Str) (keys : List (Option Expr)), keysB ks keys = true → keys.all (·.isSome) = true ∧ ks.length = keys.length := by
      intro ks
      induction ks with
      | nil => intro keys h; cases keys with
        | nil => exact ⟨rfl, rfl⟩
        | cons _ _ => cases h
      | cons k ks ih =>
        intro keys h
        unfold keysB at h
        split at h <;> try (cases h; done)
        · rename_i e2
          cases e2
        · rename_i e2
          cases e2
          obtain ⟨a, b⟩ := ih _ (b2 h).2
          exact ⟨by rw [List.all_cons, a]; rfl, by rw [List.length_cons, List.length_cons, b]⟩
    obtain ⟨al, lk⟩ := hall ks keys h1
    refine (pe_disp P al hl h0 h15).wk fun σ H Q ⟨μ, G, env, R, q⟩ => fun p hp => hr σ _ _ ?_
    have hn : (μ ++ [p])[G.length]? = some p := by rw [← R.h.len]; exact snoc_at μ p
    have R1 : Rel X.K cad (upd H p (.dK [])) (μ ++ [p]) (G ++ [.dct []]) σ env := R.step (Pre.snoc μ p) (KeepI.new hp) (R.h.alloc hp rfl ⟨[], upd_same, rfl, rpl_nil.mpr rfl⟩)
    refine LA.mk (sem_mono mc a) R1 q (fun ds G1 ⟨e1, e2, e3, q1⟩ μ1 vs H1 p1 k1 hr1 r1 => ?_) fun x G' z => PostX.step (Pre.snoc μ p) (KeepI.new hp) z
    obtain ⟨a', g1, ws, q2, ek, l⟩ := hr1.at e1
    rw [p1 _ _ hn] at g1
    cases g1
    have ew : ws = [] := List.map_eq_nil_iff.mp ek
    subst ew
    have ezip : (ks.zip vs).map (fun p => ((V.str p.1, p.2) : V × V)) = ((ks.zip vs).map fun p => ((.inr p.1 : Key), p.2)).map (fun kv => (kV kv.1, kv.2)) := by
      rw [List.map_map]
      rfl
    refine ⟨q2, _, ezip, by rw [List.length_map, List.length_zip]; omega, ?_⟩
    obtain ⟨b1, b2'⟩ := dmerge_of (ks := ks) (kvs := []) (ws := []) r1 rfl (rpl_nil.mpr rfl)
    have pre : Pre μ μ1 := (Pre.snoc μ p).trans p1
    have kp : KeepI H (upd H1 p (.dK (mergeK [] ((ks.zip vs).map fun p => ((.inr p.1 : Key), p.2))))) := ((KeepI.new hp).trans k1).trans (KeepI.dct q2)
    exact q1 μ1 _ _ pre kp (hr1.write (p1 _ _ hn) e1 rfl (KeepI.dct q2) rfl ⟨_, upd_same, b1, b2'.mono (KeepI.dct q2) (Pre.refl _)⟩) (rp_ref.mpr ⟨p, p1 _ _ hn, rfl⟩)
theorem snd_sl {a lo hi : Cd} (ia : Snd T call kw isa cad a) (il : Snd T call kw isa cad lo) (ih : Snd T call kw isa cad hi) : Snd T call kw isa cad (.sl a lo hi) where
  e := fun X W ok ex h => by
    unfold mat at h
    dsimp only at h
    split at h <;> try (cases h; done)
    rename_i x l u p2 pos
    obtain ⟨h, h3⟩ := b2 h
    obtain ⟨h1, h2⟩ := b2 h
    refine (pe_slice (sl_ok (cad := cad)) (ia.e X W ok x h1) (il.o X W ok l h2) (ih.o X W ok u h3)).wk fun σ H Q ⟨μ, G, env, R, q⟩ => ?_
    exact LE.mk (sem_mono mc a) R q (fun d1 G1 q1 μ1 v1 H1 p1 k1 hr1 r1 => LO.mk (sem_mono mc lo) (R.step p1 k1 hr1) q1 (fun l G2 q2 μ2 H2 p2 k2 hr2 =>
      LO.mk (sem_mono mc hi) ((R.step p1 k1 hr1).step p2 k2 hr2) q2 (fun u G3 q3 μ3 H3 p3 k3 hr3 => ⟨μ3, G3, d1, hr3, (r1.mono k2 p2).mono k3 p3, slD_mono (fun d G' z => ((PostE.step p1 k1 z).step p2 k2).step p3 k3) q3⟩) fun x G' z => (z.step p1 k1).step p2 k2) fun x G' z => z.step p1 k1) fun x G' z => z
theorem snd_cons {a b : Cd} (ia : Snd T call kw isa cad a) (ib : Snd T call kw isa cad b) : Snd T call kw isa cad (.cons a b) where
  dp := fun X W ok ks keys vals pos hk h hl => by
    cases vals with
    | nil => cases h
    | cons x xs =>
      cases keys with
      | nil => cases hl
      | cons ke keys =>
        cases ks with
        | nil => cases hk
        | cons k ks =>
          unfold keysB at hk
          split at hk <;> try (cases hk; done)
          · rename_i e1 e2
            cases e1
          rename_i k' ks' z cn cp es e1 e2
          cases e1; cases e2
          obtain ⟨hk1, hk2⟩ := b2 hk
          have ez : z = k := by simpa using hk1
          subst ez
          obtain ⟨h, h3⟩ := b2 (show (notStar x && (mat T X.N a X.env.scope X.fn).e x && (mat T X.N b X.env.scope X.fn).a xs) = true from h)
          obtain ⟨h1, h2⟩ := b2 h
          obtain ⟨trs, P, hr⟩ := ib.dp X W ok ks keys xs pos hk2 h3 (by simpa using hl)
          refine ⟨_, pps_cons pe_str (ia.e X W ok x h2) P, fun σ H Q ⟨μ, G, env, R, q⟩ => ?_⟩
          refine LE.mk (sem_mono mc a) R q (fun d1 G1 q1 μ1 v1 H1 p1 k1 hr1 r1 => hr σ H1 _ ?_) fun x G' z => z
          exact LA.mk (sem_mono mc b) (R.step p1 k1 hr1) q1 (fun ds G2 q2 μ2 vs H2 p2 k2 hr2 r2 =>
            (PostA.step p1 k1 q2) μ2 (v1 :: vs) H2 p2 k2 hr2 (rpl_cons.mpr ⟨v1, vs, rfl, r1.mono k2 p2, r2⟩)) fun x G' z => z.step p1 k1
  a := fun X W ok ex h => by
    cases ex with
    | nil => cases h
    | cons x xs =>
      obtain ⟨h, h3⟩ := b2 (show (notStar x && (mat T X.N a X.env.scope X.fn).e x && (mat T X.N b X.env.scope X.fn).a xs) = true from h)
      obtain ⟨h1, h2⟩ := b2 h
      refine (pa_cons (ia.e X W ok x h2) (ib.a X W ok xs h3) (star_of h1)).wk fun σ H Q ⟨μ, G, env, R, q⟩ => ?_
      exact LE.mk (sem_mono mc a) R q (fun d1 G1 q1 μ1 v1 H1 p1 k1 hr1 r1 => LA.mk (sem_mono mc b) (R.step p1 k1 hr1) q1 (fun ds G2 q2 μ2 vs H2 p2 k2 hr2 r2 =>
        (PostA.step p1 k1 q2) μ2 (v1 :: vs) H2 p2 k2 hr2 (rpl_cons.mpr ⟨v1, vs, rfl, r1.mono k2 p2, r2⟩)) fun x G' z => z.step p1 k1) fun x G' z => z
  k := fun X W ok ex h => by
    cases ex with
    | nil => cases h
    | cons q xs =>
      obtain ⟨nm, x, pp⟩ := q
      cases nm with
      | none => cases h
      | some nm =>
        obtain ⟨h2, h3⟩ := b2 (show ((mat T X.N a X.env.scope X.fn).e x && (mat T X.N b X.env.scope X.fn).k xs) = true from h)
        refine (pk_cons (ia.e X W ok x h2) (ib.k X W ok xs h3)).wk fun σ H Q ⟨μ, G, env, R, q⟩ => ?_
        exact LE.mk (sem_mono mc a) R q (fun d1 G1 q1 μ1 v1 H1 p1 k1 hr1 r1 => LA.mk (sem_mono mc b) (R.step p1 k1 hr1) q1 (fun ds G2 q2 μ2 vs H2 p2 k2 hr2 r2 =>
          (PostA.step p1 k1 q2) μ2 (v1 :: vs) H2 p2 k2 hr2 (rpl_cons.mpr ⟨v1, vs, rfl, r1.mono k2 p2, r2⟩)) fun x G' z => z.step p1 k1) fun x G' z => z
  gs := fun X W ok ex h => by
    cases ex with
    | nil => cases h
    | cons x xs =>
      obtain ⟨h, h3⟩ := b2 (show (notStar x && (mat T X.N a X.env.scope X.fn).g x && (mat T X.N b X.env.scope X.fn).gs xs) = true from h)
      obtain ⟨h1, h2⟩ := b2 h
      refine (pgs_cons (ia.g X W ok x h2) (ib.gs X W ok xs h3) (by rw [assign_of h1]; rfl)).wk fun vs σ H Q ⟨μ, G, env, ds, R, r, d, ds', e, q⟩ => ?_
      subst e
      obtain ⟨v, vr, rfl, r1, r2⟩ := rpl_cons.mp r
      refine ⟨v, vr, rfl, LG.mk (sem_mono mc a) R r1 q fun env1 G1 q1 μ1 σ1 H1 p1 k1 R1 bt1 => LGs.mk (sem_mono mc b) R1 (r2.mono k1 p1) q1 fun e G' z μ2 σ2 H2 p2 k2 R2 bt2 => z μ2 σ2 H2 (p1.trans p2) (k1.trans k2) R2 ⟨bt2.1.trans bt1.1, fun j hj => ?_⟩⟩
      have hj2 : j ∉ slotsG a ∧ j ∉ slotsG b := by
        have : j ∉ slotsG a ++ slotsG b := hj
        rw [List.mem_append, not_or] at this
        exact this
      rw [bt2.2 j hj2.2, bt1.2 j hj2.1]
  gr := fun X W ok ex h => by
    cases ex with
    | nil => cases h
    | cons x xs =>
      obtain ⟨h, h3⟩ := b2 (show (notStar x && (mat T X.N a X.env.scope X.fn).g x && (mat T X.N b X.env.scope X.fn).gr xs) = true from h)
      obtain ⟨h1, h2⟩ := b2 h
      refine (pgs_cons (ia.g X W ok x h2) (ib.gr X W ok xs h3) (by rw [assign_of h1]; rfl)).wk fun vs σ H Q ⟨μ, G, env, ds, R, r, d, ds', e, q⟩ => ?_
      subst e
      obtain ⟨v, vr, rfl, r1, r2⟩ := rpl_cons.mp r
      refine ⟨v, vr, rfl, LG.mk (sem_mono mc a) R r1 q fun env1 G1 q1 μ1 σ1 H1 p1 k1 R1 bt1 => LGs.mk (sem_mono mc b) R1 (r2.mono k1 p1) q1 fun e G' z μ2 σ2 H2 p2 k2 R2 bt2 => z μ2 σ2 H2 (p1.trans p2) (k1.trans k2) R2 ⟨bt2.1.trans bt1.1, fun j hj => ?_⟩⟩
      have hj2 : j ∉ slotsG a ∧ j ∉ slotsG b := by
        have : j ∉ slotsG a ++ slotsG b := hj
        rw [List.mem_append, not_or] at this
        exact this
      rw [bt2.2 j hj2.2, bt1.2 j hj2.1]
  o := fun X W ok ex h => by
    cases ex with
    | none => cases h
    | some x =>
      refine (po_some (ia.e X W ok x h)).wk fun σ H Q ⟨μ, G, env, R, q⟩ => ?_
      refine LE.mk (sem_mono mc a) R q (fun d G1 ⟨i, e, q1⟩ μ1 v1 H1 p1 k1 hr1 r1 => ?_) fun x G' z => z
      subst e
      exact ⟨i, rp_int.mp r1, (PostO.step p1 k1 q1) μ1 H1 (Pre.refl _) (KeepI.refl _) hr1⟩
end
end
end Wm

namespace Wm
open PySem PySem.Spec PyProof.Rows L2
section
variable {T : Tab} {call : CallT} {kw : Nat → List Dt → List Str → List Dt → List Dt} {isa : Nat → Nat → Bool} {cad : Cad}
theorem mat_a_len {N : List Str} {sc : Scope} {fn : Str → Bool} : ∀ (c : Cd) {es : List Expr}, (mat T N c sc fn).a es = true → es.length = lenA c := by
  intro c
  induction c with
  | nil => intro es h; cases es with
    | nil => rfl
    | cons _ _ => cases h
  | cons a b ia ib =>
    intro es h
    cases es with
    | nil => cases h
    | cons x xs =>
      obtain ⟨_, h3⟩ := b2 (show (notStar x && (mat T N a sc fn).e x && (mat T N b sc fn).a xs) = true from h)
      show xs.length + 1 = lenA b + 1
      rw [ib h3]
  | _ => intro es h; cases h
theorem mat_k_len {N : List Str} {sc : Scope} {fn : Str → Bool} : ∀ (c : Cd) {es : List Keyword}, (mat T N c sc fn).k es = true → (kwNames es).length = lenA c := by
  intro c
  induction c with
  | nil => intro es h; cases es with
    | nil => rfl
    | cons _ _ => cases h
  | cons a b ia ib =>
    intro es h
    cases es with
    | nil => cases h
    | cons q xs =>
      obtain ⟨nm, x, pp⟩ := q
      cases nm with
      | none => cases h
      | some nm =>
        obtain ⟨_, h3⟩ := b2 (show ((mat T N a sc fn).e x && (mat T N b sc fn).k xs) = true from h)
        show (kwNames xs).length + 1 = lenA b + 1
        rw [ib h3]
  | _ => intro es h; cases h
theorem sem_a_len (mc : MonoC call) : ∀ (c : Cd) {env : En} {G : Gh} {Q : List Dt → Gh → Prop} {E : XQ}, (sem call kw isa c).a env G Q E → (sem call kw isa c).a env G (fun xs G' => xs.length = lenA c ∧ Q xs G') E := by
  intro c
  induction c with
  | nil => intro env G Q E h; exact ⟨rfl, h⟩
  | cons a b ia ib =>
    intro env G Q E h
    refine (sem_mono mc a).e (fun x G1 q => ?_) (fun _ _ z => z) h
    exact (sem_mono mc b).a (fun xs G2 z => ⟨by show xs.length + 1 = lenA b + 1; rw [z.1], z.2⟩) (fun _ _ z => z) (ib q)
  | _ => intro env G Q E h; exact h.elim
section
variable (mc : MonoC call)
include mc
theorem snd_call {f : Nat} {a : Cd} (ia : Snd T call kw isa cad a) : Snd T call kw isa cad (.call f a) where
  e := fun X W ok ex h => by
    unfold mat at h
    dsimp only at h
    split at h <;> try (cases h; done)
    rename_i x pp es pos
    obtain ⟨h, h4⟩ := b2 h
    obtain ⟨h, h3⟩ := b2 h
    obtain ⟨h1, h2⟩ := b2 h
    obtain ⟨g1, g2⟩ := glo_of h2
    obtain ⟨k, rm, tk, _⟩ := ok.ex
    obtain ⟨fa, fd, ps, hm, hk, hf, hs⟩ := tk.fn x f (by simpa using h1)
    obtain ⟨g, gV, kb, hv⟩ := hs _ _ h4
    have hl := mat_a_len a h3
    cases es with
    | nil =>
      refine (pe_C0 hf ok.gd (rm.mono (by omega)) g1 hm hk kb ok.tk g2).wk fun σ H Q ⟨μ, G, env, R, q⟩ => ?_
      cases a <;> try (exact q.elim)
      · obtain ⟨r, l⟩ := hv H μ [] [] [] [] rfl rfl (rpl_nil.mpr rfl) (rpl_nil.mpr rfl)
        exact ⟨l, μ, G, _, R.h, r, q⟩
      · cases h3
    | cons e es =>
      refine (pe_C hf ok.gd (rm.mono (by omega)) g1 hm hk kb ok.tk (ia.a X W ok _ h3) (mat_a_star a h3) g2).wk fun σ H Q ⟨μ, G, env, R, q⟩ => ?_
      refine LA.mk (sem_mono mc a) R (sem_a_len mc a q) (fun ds G1 ⟨el, q1⟩ μ1 vs H1 p1 k1 hr1 r1 => ?_) fun x G' z => z
      have lv : vs.length = (e :: es).length := by rw [← r1.length, el, hl]
      obtain ⟨r, l⟩ := hv H1 μ1 ds vs [] [] lv rfl r1 (rpl_nil.mpr rfl)
      exact ⟨lv, l, μ1, G1, _, hr1, r, mc.m (fun d G' z => PostE.step p1 k1 z) (fun x G' z => PostX.step p1 k1 z) q1⟩
theorem snd_callk {f : Nat} {a w : Cd} {ks : List Str} (ia : Snd T call kw isa cad a) (iw : Snd T call kw isa cad w) : Snd T call kw isa cad (.callk f a ks w) where
  e := fun X W ok ex h => by
    unfold mat at h
    dsimp only at h
    split at h <;> try (cases h; done)
    rename_i x pp e es kq kqs pos
    obtain ⟨h, h7⟩ := b2 h
    obtain ⟨h, h6⟩ := b2 h
    obtain ⟨h, h5⟩ := b2 h
    obtain ⟨h, h4⟩ := b2 h
    obtain ⟨h, h3⟩ := b2 h
    obtain ⟨h1, h2⟩ := b2 h
    obtain ⟨g1, g2⟩ := glo_of h2
    obtain ⟨k, rm, tk, _⟩ := ok.ex
    have ek := of_decide_eq_true h5
    subst ek
    obtain ⟨fa, fd, ps, hm, hk, hf, hs⟩ := tk.fn x f (by simpa using h1)
    obtain ⟨g, gV, kb, hv⟩ := hs _ _ h7
    have hl := mat_a_len a h3
    have hl2 := mat_k_len w h4
    refine (pe_CK hf ok.gd (rm.mono (by omega)) g1 hm hk kb ok.tk (ia.a X W ok _ h3) (iw.k X W ok _ h4) (mat_a_star a h3) h6 g2).wk fun σ H Q ⟨μ, G, env, R, q⟩ => ?_
    refine LA.mk (sem_mono mc a) R (sem_a_len mc a q) (fun ds G1 ⟨el, q1⟩ μ1 vs H1 p1 k1 hr1 r1 => ?_) fun x G' z => z
    refine LA.mk (sem_mono mc w) (R.step p1 k1 hr1) (sem_a_len mc w q1) (fun es2 G2 ⟨el2, q2⟩ μ2 ws H2 p2 k2 hr2 r2 => ?_) fun x G' z => z.step p1 k1
    have lv : vs.length = (e :: es).length := by rw [← r1.length, el, hl]
    have lw : ws.length = (kwNames (kq :: kqs)).length := by rw [← r2.length, el2, hl2]
    obtain ⟨r, l⟩ := hv H2 μ2 ds vs es2 ws lv lw (r1.mono k2 p2) r2
    exact ⟨lv, lw, l, μ2, G2, _, hr2, r, mc.m (fun d G' z => (PostE.step p1 k1 z).step p2 k2) (fun x G' z => (PostX.step p1 k1 z).step p2 k2) q2⟩
theorem boot_bi (b : Bi) : bootBuiltins b.name = some b.py := by cases b <;> decide +kernel
theorem snd_bi {b : Bi} {a : Cd} (ia : Snd T call kw isa cad a) : Snd T call kw isa cad (.bi b a) where
  e := fun X W ok ex h => by
    unfold mat at h
    dsimp only at h
    split at h <;> try (cases h; done)
    rename_i x pp e es pos
    obtain ⟨h, hh⟩ := b2 h
    have calm := ok.calm (notHot hh)
    obtain ⟨h, h4⟩ := b2 h
    obtain ⟨h, h3⟩ := b2 h
    obtain ⟨h1, h2⟩ := b2 h
    have ex := eqs h1
    subst ex
    obtain ⟨g1, g2⟩ := glo_of h2
    obtain ⟨k, rm, tk, _⟩ := ok.ex
    have hst := mat_a_star a h4
    rw [List.all_cons, Bool.and_eq_true] at hst
    have nn : b.name ≠ "__name__" := by cases b <;> decide +kernel
    have key : PE X (.Call (.Name b.name pp) (e :: es) [] pos) (tCB (rBi X.K cad b) (LA X.K cad W (sem call kw isa a).a)) := by
      have hc := bi_ok (cad := cad) tk.sm calm ok.gd ok.units b
      have hv := boot_bi mc b
      cases b
      case int => exact pe_callTy hc g1 (tk.free _ h3) hv (ia.a X W ok _ h4) nn g2 (star_of hst.1) (stars_any hst.2)
      case tuple => exact pe_callTy hc g1 (tk.free _ h3) hv (ia.a X W ok _ h4) nn g2 (star_of hst.1) (stars_any hst.2)
      case list => exact pe_callTy hc g1 (tk.free _ h3) hv (ia.a X W ok _ h4) nn g2 (star_of hst.1) (stars_any hst.2)
      case str => exact pe_callTy hc g1 (tk.free _ h3) hv (ia.a X W ok _ h4) nn g2 (star_of hst.1) (stars_any hst.2)
      all_goals exact pe_callB hc g1 (tk.free _ h3) hv (ia.a X W ok _ h4) nn g2 (star_of hst.1) (stars_any hst.2)
    refine key.wk fun σ H Q ⟨μ, G, env, R, q⟩ => ?_
    exact LA.mk (sem_mono mc a) R q (fun ds G1 q1 μ1 vs H1 p1 k1 hr1 r1 => ⟨μ1, G1, ds, hr1, r1, biD_mono (fun d G' z => PostE.step p1 k1 z) q1⟩) fun x G' z => z
theorem snd_tnot {a : Cd} (ia : Snd T call kw isa cad a) : Snd T call kw isa cad (.tnot a) where
  t := fun X W ok ex h => by
    unfold mat at h
    dsimp only at h
    split at h <;> try (cases h; done)
    rename_i x pos
    refine (pt_not (ia.t X W ok x h)).wk fun σ H Q ⟨μ, G, env, R, q⟩ => ?_
    exact LT.mk (sem_mono mc a) R q (fun c G1 q1 => q1) fun x G' z => z
  c := fun X W ok ex h => by
    unfold mat at h
    dsimp only at h
    split at h <;> try (cases h; done)
    rename_i x pos
    refine (pts_one (pt_not (ia.t X W ok x h))).wk fun σ H Q ⟨μ, G, env, R, q⟩ => ?_
    exact LT.mk (sem_mono mc a) R q (fun c G1 q1 => q1) fun x G' z => z
theorem snd_tval {a : Cd} (ia : Snd T call kw isa cad a) : Snd T call kw isa cad (.tval a) where
  t := fun X W ok ex h => by
    obtain ⟨h1, h2⟩ := b2 (show (plainT ex && (mat T X.N a X.env.scope X.fn).e ex) = true from h)
    refine (pt_truth (ia.e X W ok ex h2) (plain_of h1)).wk fun σ H Q ⟨μ, G, env, R, q⟩ => ?_
    exact LE.mk (sem_mono mc a) R q (fun d G1 ⟨b, e, q1⟩ μ1 v1 H1 p1 k1 hr1 r1 => ⟨b, tru_of hr1 r1 e, (PostB.step p1 k1 q1) μ1 H1 (Pre.refl _) (KeepI.refl _) hr1⟩) fun x G' z => z
  c := fun X W ok ex h => by
    unfold mat at h
    dsimp only at h
    split at h <;> try (cases h; done)
    rename_i x
    obtain ⟨h1, h2⟩ := b2 h
    refine (pts_one (pt_truth (ia.e X W ok x h2) (plain_of h1))).wk fun σ H Q ⟨μ, G, env, R, q⟩ => ?_
    exact LE.mk (sem_mono mc a) R q (fun d G1 ⟨b, e, q1⟩ μ1 v1 H1 p1 k1 hr1 r1 => ⟨b, tru_of hr1 r1 e, (PostB.step p1 k1 q1) μ1 H1 (Pre.refl _) (KeepI.refl _) hr1⟩) fun x G' z => z
theorem pt_tand {a b : Cd} (ia : Snd T call kw isa cad a) (ib : Snd T call kw isa cad b) {X : Cx} {W : WX} (ok : Cok T call kw isa cad X W) {x y : Expr} {rest : List Expr} {pos : Pos} (h : ((mat T X.N a X.env.scope X.fn).t x && (match rest with
      | [] => (mat T X.N b X.env.scope X.fn).t y
      | z :: r => (mat T X.N b X.env.scope X.fn).t (.BoolOp .And (y :: z :: r) pos))) = true) : PT X (.BoolOp .And (x :: y :: rest) pos) (LT X.K cad W (sem call kw isa (.tand a b)).t) := by
  obtain ⟨h1, h2⟩ := b2 h
  have hb : PW X (.BoolOp .And (y :: rest) pos) (LT X.K cad W (sem call kw isa b).t) := by
    cases rest with
    | nil => exact pw_and1 (ib.t X W ok y h2)
    | cons z r => exact PW.ofT (ib.t X W ok _ h2)
  refine (PW.pt (pw_and (ia.t X W ok x h1) hb)).wk fun σ H Q ⟨μ, G, env, R, q⟩ => ?_
  refine LT.mk (sem_mono mc a) R q (fun c G1 q1 μ1 H1 p1 k1 hr1 => ?_) fun x G' z => z
  cases c with
  | false => exact (PostB.step p1 k1 q1) μ1 H1 (Pre.refl _) (KeepI.refl _) hr1
  | true => exact LT.mk (sem_mono mc b) (R.step p1 k1 hr1) q1 (fun d G' z => PostB.step p1 k1 z) fun x G' z => z.step p1 k1
theorem pt_tor {a b : Cd} (ia : Snd T call kw isa cad a) (ib : Snd T call kw isa cad b) {X : Cx} {W : WX} (ok : Cok T call kw isa cad X W) {x y : Expr} {rest : List Expr} {pos : Pos} (h : ((mat T X.N a X.env.scope X.fn).t x && (match rest with
      | [] => (mat T X.N b X.env.scope X.fn).t y
      | z :: r => (mat T X.N b X.env.scope X.fn).t (.BoolOp .Or (y :: z :: r) pos))) = true) : PT X (.BoolOp .Or (x :: y :: rest) pos) (LT X.K cad W (sem call kw isa (.tor a b)).t) := by
  obtain ⟨h1, h2⟩ := b2 h
  have hb : PW X (.BoolOp .Or (y :: rest) pos) (LT X.K cad W (sem call kw isa b).t) := by
    cases rest with
    | nil => exact pw_or1 (ib.t X W ok y h2)
    | cons z r => exact PW.ofT (ib.t X W ok _ h2)
  refine (PW.pt (pw_or (ia.t X W ok x h1) hb)).wk fun σ H Q ⟨μ, G, env, R, q⟩ => ?_
  refine LT.mk (sem_mono mc a) R q (fun c G1 q1 μ1 H1 p1 k1 hr1 => ?_) fun x G' z => z
  cases c with
  | true => exact (PostB.step p1 k1 q1) μ1 H1 (Pre.refl _) (KeepI.refl _) hr1
  | false => exact LT.mk (sem_mono mc b) (R.step p1 k1 hr1) q1 (fun d G' z => PostB.step p1 k1 z) fun x G' z => z.step p1 k1
theorem snd_tand {a b : Cd} (ia : Snd T call kw isa cad a) (ib : Snd T call kw isa cad b) : Snd T call kw isa cad (.tand a b) where
  t := fun X W ok ex h => by
    unfold mat at h
    dsimp only at h
    split at h <;> try (cases h; done)
    exact pt_tand mc ia ib ok h
  c := fun X W ok ex h => by
    unfold mat at h
    dsimp only at h
    split at h <;> try (cases h; done)
    exact pts_one (pt_tand mc ia ib ok h)
theorem snd_tor {a b : Cd} (ia : Snd T call kw isa cad a) (ib : Snd T call kw isa cad b) : Snd T call kw isa cad (.tor a b) where
  t := fun X W ok ex h => by
    unfold mat at h
    dsimp only at h
    split at h <;> try (cases h; done)
    exact pt_tor mc ia ib ok h
  c := fun X W ok ex h => by
    unfold mat at h
    dsimp only at h
    split at h <;> try (cases h; done)
    exact pts_one (pt_tor mc ia ib ok h)
theorem snd_gn {i : Nat} : Snd T call kw isa cad (.gn i) where
  g := fun X W ok ex h => by
    unfold mat at h
    dsimp only at h
    split at h <;> try (cases h; done)
    rename_i x pos
    obtain ⟨h1, h2⟩ := b2 h
    obtain ⟨l1, l2⟩ := loc_of h2
    refine (pg_name (i := i) ok.nd (by simpa using h1) l1 l2).wk fun v σ H Q ⟨μ, G, env, d, R, r, q⟩ => ?_
    refine q μ _ H (Pre.refl _) (KeepI.refl _) (R.set r) ⟨by simp, fun j hj => List.getElem?_set_ne fun e => hj ?_⟩
    rw [← e]
    exact List.mem_singleton.mpr rfl
theorem assigns_star {N : List Str} {sc : Scope} {fn : Str → Bool} {env : Env} : ∀ (c : Cd) {es : List Expr}, (mat T N c sc fn).gs es = true → (assignEach es env).length = es.length ∧ (assignEach es env).findIdx? (·.1) = none := by
  intro c
  induction c with
  | nil => intro es h; cases es with
    | nil => exact ⟨rfl, rfl⟩
    | cons _ _ => cases h
  | cons a b ia ib =>
    intro es h
    cases es with
    | nil => cases h
    | cons x xs =>
      obtain ⟨h, h3⟩ := b2 (show (notStar x && (mat T N a sc fn).g x && (mat T N b sc fn).gs xs) = true from h)
      obtain ⟨h1, _⟩ := b2 h
      obtain ⟨e1, e2⟩ := ib h3
      rw [assign_of h1]
      refine ⟨by simp [e1], ?_⟩
      rw [List.findIdx?_cons, if_neg Bool.false_ne_true, e2]
      rfl
  | _ => intro es h; cases h
theorem mat_gs_len {N : List Str} {sc : Scope} {fn : Str → Bool} : ∀ (c : Cd) {es : List Expr}, (mat T N c sc fn).gs es = true → es.length = lenA c := by
  intro c
  induction c with
  | nil => intro es h; cases es with
    | nil => rfl
    | cons _ _ => cases h
  | cons a b ia ib =>
    intro es h
    cases es with
    | nil => cases h
    | cons x xs =>
      obtain ⟨_, h3⟩ := b2 (show (notStar x && (mat T N a sc fn).g x && (mat T N b sc fn).gs xs) = true from h)
      show xs.length + 1 = lenA b + 1
      rw [ib h3]
  | _ => intro es h; cases h
theorem snd_gt {a : Cd} (ia : Snd T call kw isa cad a) : Snd T call kw isa cad (.gt a) where
  g := fun X W ok ex h => by
    unfold mat at h
    dsimp only at h
    split at h <;> try (cases h; done)
    rename_i es k pos
    obtain ⟨h, hh⟩ := b2 h
    have calm := ok.calm (notHot hh)
    obtain ⟨e1, e2⟩ := assigns_star (env := X.env) mc a h
    refine ⟨fun pins s σ H v u Q I rv ⟨μ, G, env, d, R, r, xs, ed, hl, q⟩ => ?_⟩
    obtain ⟨p, vs, rfl, sq, l⟩ := seq_of R.h r ed
    rcases sq with ⟨q1, n, rfl⟩ | ⟨q1, rfl⟩
    · exact (pg_unl calm (ia.gs X W ok es h) rfl e2).run pins s σ H _ u Q I rv ⟨p, vs, rfl, q1, by rw [e1, ← l.length, hl, mat_gs_len mc a h], μ, G, env, xs, R, l, q⟩
    · exact (pg_tup calm (ia.gs X W ok es h) rfl e2).run pins s σ H _ u Q I rv ⟨p, vs, rfl, q1, by rw [e1, ← l.length, hl, mat_gs_len mc a h], μ, G, env, xs, R, l, q⟩
theorem sub_of {o i : Expr} {pos : Pos} {env : Env} (h : notSlice i = true) : ∀ v, assign (.Subscript o i pos) env v = (do
      let ov ← holding [v] (eval o env)
      let iv ← holding [v, ov] (eval i env)
      standAt pos
      holding [v, ov, iv] (setItem ov iv v)
      release [v, ov, iv] []) := by
  intro v
  cases i <;> first | rfl | cases h
theorem snd_gsub {o i : Cd} (io : Snd T call kw isa cad o) (ii : Snd T call kw isa cad i) : Snd T call kw isa cad (.gsub o i) where
  g := fun X W ok ex h => by
    unfold mat at h
    dsimp only at h
    split at h <;> try (cases h; done)
    rename_i x y pos
    obtain ⟨h, h3⟩ := b2 h
    obtain ⟨h1, h2⟩ := b2 h
    refine (pg_sub (io.e X W ok x h1) (ii.e X W ok y h2) (store_okD (cad := cad) ok.units) (sub_of mc h3)).wk fun v σ H Q ⟨μ, G, env, d, R, r, q⟩ => ?_
    exact LE.mk (sem_mono mc o) R q (fun d1 G1 q1 μ1 v1 H1 p1 k1 hr1 r1 => LE.mk (sem_mono mc i) (R.step p1 k1 hr1) q1 (fun d2 G2 q2 μ2 v2 H2 p2 k2 hr2 r2 =>
      ⟨μ2, G2, d1, d2, d, hr2, r1.mono k2 p2, r2, (r.mono k1 p1).mono k2 p2, storeD_mono (fun G3 q3 H3 k3 hr3 => q3 μ2 σ H3 (p1.trans p2) ((k1.trans k2).trans k3) (((R.step p1 k1 hr1).step p2 k2 hr2).step (Pre.refl _) k3 hr3) (But.refl _ _)) q2⟩)
      fun x G' z => z.elim) fun x G' z => z.elim
theorem assigns_rest {N : List Str} {sc : Scope} {fn : Str → Bool} {env : Env} : ∀ (c : Cd) {es : List Expr}, (mat T N c sc fn).gr es = true → (assignEach es env).length = lenA c + 1 ∧ (assignEach es env).findIdx? (·.1) = some (lenA c) := by
  intro c
  induction c with
  | gst i =>
    intro es h
    unfold mat at h
    dsimp only at h
    split at h <;> try (cases h; done)
    exact ⟨rfl, rfl⟩
  | cons a b ia ib =>
    intro es h
    cases es with
    | nil => cases h
    | cons x xs =>
      obtain ⟨h, h3⟩ := b2 (show (notStar x && (mat T N a sc fn).g x && (mat T N b sc fn).gr xs) = true from h)
      obtain ⟨h1, _⟩ := b2 h
      obtain ⟨e1, e2⟩ := ib h3
      rw [assign_of h1]
      refine ⟨by simp [e1, lenA], ?_⟩
      rw [List.findIdx?_cons, if_neg Bool.false_ne_true, e2]
      rfl
  | _ => intro es h; cases h
theorem snd_gst {i : Nat} : Snd T call kw isa cad (.gst i) where
  gr := fun X W ok ex h => by
    unfold mat at h
    dsimp only at h
    split at h <;> try (cases h; done)
    rename_i x p1 p2
    obtain ⟨h1, h2⟩ := b2 h
    obtain ⟨l1, l2⟩ := loc_of h2
    refine (pgs_last (p := p2) (pg_name (pos := p1) (i := i) ok.nd (by simpa using h1) l1 l2)).wk fun vs σ H Q ⟨μ, G, env, ds, R, r, d, e, q⟩ => ?_
    subst e
    obtain ⟨v, vr, rfl, r1, r2⟩ := rpl_cons.mp r
    rw [rpl_nil.mp r2]
    refine ⟨v, rfl, q μ _ H (Pre.refl _) (KeepI.refl _) (R.set r1) ⟨by simp, fun j hj => List.getElem?_set_ne fun e => hj ?_⟩⟩
    rw [← e]
    exact List.mem_singleton.mpr rfl
theorem snd_gstar {ts : Cd} (ia : Snd T call kw isa cad ts) : Snd T call kw isa cad (.gstar ts) where
  g := fun X W ok ex h => by
    unfold mat at h
    dsimp only at h
    split at h <;> try (cases h; done)
    rename_i es k pos
    obtain ⟨h, hh⟩ := b2 h
    have calm := ok.calm (notHot hh)
    obtain ⟨e1, e2⟩ := assigns_rest (env := X.env) mc ts h
    refine (pg_star calm (ia.gr X W ok es h) e1 e2).wk fun v σ H Q ⟨μ, G, env, d, R, r, xs, ed, hl, q⟩ => ?_
    subst ed
    obtain ⟨p, vs, rfl, q1, l⟩ := rp_tup.mp r
    refine ⟨p, vs, rfl, q1, by rw [← l.length]; exact hl, fun a ha => ?_⟩
    have hr2 := R.h.allocL ha (l.drop (lenA ts))
    have k2 : KeepI H (upd H a (.lst (vs.drop (lenA ts)))) := KeepI.new ha
    have p2 := Pre.snoc μ a
    have rn : RpL X.K (upd H a (.lst (vs.drop (lenA ts)))) (μ ++ [a]) (xs.take (lenA ts) ++ [.ref G.length]) (vs.take (lenA ts) ++ [.ref a]) :=
      RpL.append ((l.take (lenA ts)).mono k2 p2) (rpl_cons.mpr ⟨_, [], rfl, rp_ref.mpr ⟨a, by rw [← R.h.len]; exact snoc_at μ a, rfl⟩, rpl_nil.mpr rfl⟩)
    exact LGs.mk (sem_mono mc ts) (R.step p2 k2 hr2) rn q fun e G' z μ3 σ3 H3 p3 k3 R3 bt3 => z μ3 σ3 H3 (p2.trans p3) (k2.trans k3) R3 bt3
theorem snd_iseq {a : Cd} (ia : Snd T call kw isa cad a) : Snd T call kw isa cad (.iseq a) where
  i := fun X W ok tg ex h => by
    obtain ⟨h1, _⟩ := b2 h
    refine (pi_seq (ia.e X W ok ex h1)).wk fun σ H Q ⟨μ, G, env, R, q⟩ => ?_
    refine LE.mk (sem_mono mc a) R q (fun d G1 ⟨xs, e, q1⟩ μ1 v1 H1 p1 k1 hr1 r1 => ?_) fun x G' z => z
    obtain ⟨p, vs, rfl, hs, l⟩ := seq_of hr1 r1 e
    refine ⟨p, vs, rfl, ?_⟩
    rcases hs with ⟨hs, n, en⟩ | ⟨hs, en⟩
    · subst en
      obtain ⟨p', g1, g2⟩ := rp_ref.mp r1
      cases g2
      exact .inl ⟨hs, (PostI.step p1 k1 q1) μ1 H1 _ (Pre.refl _) (KeepI.refl _) hr1 (deliv_list (G := G1) g1)⟩
    · subst en
      exact .inr ⟨hs, (PostI.step p1 k1 q1) μ1 H1 _ (Pre.refl _) (KeepI.refl _) hr1 (deliv_tup hs l)⟩
theorem snd_irange1 {a : Cd} (ia : Snd T call kw isa cad a) : Snd T call kw isa cad (.irange1 a) where
  i := fun X W ok tg ex h => by
    unfold mat at h
    dsimp only at h
    split at h <;> try (cases h; done)
    rename_i x p e pos
    obtain ⟨h, h5⟩ := b2 h
    obtain ⟨h, h4⟩ := b2 h
    obtain ⟨h, h3⟩ := b2 h
    obtain ⟨h1, h2⟩ := b2 h
    have ex := eqs h1
    subst ex
    obtain ⟨g1, g2⟩ := glo_of h2
    obtain ⟨k, rm, tk, _⟩ := ok.ex
    refine (pi_range1 g1 (tk.free _ h3) (pa_cons (ia.e X W ok e h4) pa_nil (star_of h5)) (star_of h5)).wk fun σ H Q ⟨μ, G, env, R, q⟩ => ?_
    refine LE.mk (sem_mono mc a) R q (fun d G1 ⟨j, e, l1, l2, q1⟩ μ1 v1 H1 p1 k1 hr1 r1 => ?_) fun x G' z => z
    subst e
    refine ⟨j, by rw [rp_int.mp r1], l1, l2, ?_⟩
    have := (PostI.step p1 k1 q1) μ1 H1 (Itr 0 (j - 0).toNat) (Pre.refl _) (KeepI.refl _) hr1 (deliv_range 0 j)
    rw [Int.sub_zero] at this
    exact this
theorem downD_get {i j : Int} {k : Nat} {d : Dt} (h : (downD i j)[k]? = some d) : k < (i - j).toNat ∧ d = .int (i - k) := by
  unfold downD at h
  rw [List.getElem?_map] at h
  obtain ⟨n, e1, e2⟩ := Option.map_eq_some_iff.mp h
  obtain ⟨l, e3⟩ := List.getElem?_eq_some_iff.mp e1
  rw [List.getElem_range] at e3
  subst e3
  exact ⟨by simpa using l, e2.symm⟩
theorem deliv_down {K : PySem.W.Frag} {H : Hp} {μ : List Addr} (i j : Int) : Deliv K cad μ H (Itc i (-1) (i - j).toNat) ⟨downD i j, []⟩ := fun k H1 μ1 G1 p kk hr st => by
  refine ⟨fun d e => ?_, fun hk => ?_⟩
  · obtain ⟨hk, rfl⟩ := downD_get mc e
    refine ⟨hk, fun v H' y => ?_⟩
    obtain ⟨rfl, rfl⟩ := y
    refine ⟨KeepI.refl _, hr, rp_int.mpr ?_, fun _ _ => rfl⟩
    have : i - (k : Int) = i + (k : Nat) * (-1) := by omega
    rw [this]
  · have : (downD i j).length = (i - j).toNat := by simp [downD]
    show (i - j).toNat ≤ k
    rw [← this]
    exact hk
theorem snd_irangeD {a b : Cd} (ia : Snd T call kw isa cad a) (ib : Snd T call kw isa cad b) : Snd T call kw isa cad (.irangeD a b) where
  i := fun X W ok tg ex h => by
    unfold mat at h
    dsimp only at h
    split at h <;> try (cases h; done)
    rename_i x p e e2 c1 c2 c3 pos
    obtain ⟨h, h7⟩ := b2 h
    obtain ⟨h, h6⟩ := b2 h
    obtain ⟨h, h5⟩ := b2 h
    obtain ⟨h, h4⟩ := b2 h
    obtain ⟨h, h3⟩ := b2 h
    obtain ⟨h1, h2⟩ := b2 h
    have ex := eqs h1
    subst ex
    obtain ⟨g1, g2⟩ := glo_of h2
    obtain ⟨k, rm, tk, _⟩ := ok.ex
    refine (pi_range3 g1 (tk.free _ h3) (pa_cons (ia.e X W ok e h4) (pa_cons (ib.e X W ok e2 h6) (pa_cons (pe_un un_neg pe_int) pa_nil rfl) (star_of h7)) (star_of h5)) (star_of h5) (by rw [star_of h7]; rfl)).wk fun σ H Q ⟨μ, G, env, R, q⟩ => ?_
    refine LE.mk (sem_mono mc a) R q (fun d G1 q1 μ1 v1 H1 p1 k1 hr1 r1 => LE.mk (sem_mono mc b) (R.step p1 k1 hr1) q1 (fun d2 G2 ⟨i, j, e1, e2, l1, l2, l3, l4, q2⟩ μ2 v2 H2 p2 k2 hr2 r2 => ?_) fun x G' z => z.step p1 k1) fun x G' z => z
    subst e1 e2
    exact ⟨1, rfl, i, j, -1, (i - j).toNat, by rw [rp_int.mp r1, rp_int.mp r2], RgC.neg l1 l2 l3 l4, ((PostI.step p1 k1 q2).step p2 k2) μ2 H2 _ (Pre.refl _) (KeepI.refl _) hr2 (deliv_down mc i j)⟩
theorem snd_irange2 {a b : Cd} (ia : Snd T call kw isa cad a) (ib : Snd T call kw isa cad b) : Snd T call kw isa cad (.irange2 a b) where
  i := fun X W ok tg ex h => by
    unfold mat at h
    dsimp only at h
    split at h <;> try (cases h; done)
    rename_i x p e e2 pos
    obtain ⟨h, h7⟩ := b2 h
    obtain ⟨h, h6⟩ := b2 h
    obtain ⟨h, h5⟩ := b2 h
    obtain ⟨h, h4⟩ := b2 h
    obtain ⟨h, h3⟩ := b2 h
    obtain ⟨h1, h2⟩ := b2 h
    have ex := eqs h1
    subst ex
    obtain ⟨g1, g2⟩ := glo_of h2
    obtain ⟨k, rm, tk, _⟩ := ok.ex
    refine (pi_range2 g1 (tk.free _ h3) (pa_cons (ia.e X W ok e h4) (pa_cons (ib.e X W ok e2 h6) pa_nil (star_of h7)) (star_of h5)) (by rw [star_of h5, star_of h7]; rfl) (star_of h7)).wk fun σ H Q ⟨μ, G, env, R, q⟩ => ?_
    refine LE.mk (sem_mono mc a) R q (fun d G1 q1 μ1 v1 H1 p1 k1 hr1 r1 => LE.mk (sem_mono mc b) (R.step p1 k1 hr1) q1 (fun d2 G2 ⟨i, j, e1, e2, l1, l2, l3, l4, q2⟩ μ2 v2 H2 p2 k2 hr2 r2 => ?_) fun x G' z => z.step p1 k1) fun x G' z => z
    subst e1 e2
    exact ⟨i, j, by rw [rp_int.mp r1, rp_int.mp r2], ⟨l1, l2, l3, l4⟩, ((PostI.step p1 k1 q2).step p2 k2) μ2 H2 _ (Pre.refl _) (KeepI.refl _) hr2 (deliv_range i j)⟩
end
end
end Wm

namespace Wm
open PySem PySem.Spec PyProof.Rows L2
section
variable {T : Tab} {call : CallT} {kw : Nat → List Dt → List Str → List Dt → List Dt} {isa : Nat → Nat → Bool} {cad : Cad} {K : PySem.W.Frag}
theorem zipD_get : ∀ {xs ys : List Dt} {i : Nat} {d : Dt}, (zipD xs ys)[i]? = some d → ∃ x y, xs[i]? = some x ∧ ys[i]? = some y ∧ d = .tup [x, y]
  | [], _, i, d, h => by simp [zipD] at h
  | _ :: _, [], i, d, h => by simp [zipD] at h
  | x :: xs, y :: ys, 0, d, h => by
    have e : Dt.tup [x, y] = d := by simpa [zipD] using h
    exact ⟨x, y, rfl, rfl, e.symm⟩
  | x :: xs, y :: ys, i + 1, d, h => by
    have h : (zipD xs ys)[i]? = some d := by simpa [zipD] using h
    obtain ⟨a, b, h1, h2, h3⟩ := zipD_get h
    exact ⟨a, b, by simpa using h1, by simpa using h2, h3⟩
theorem zipD_end : ∀ {xs ys : List Dt} {i : Nat}, (zipD xs ys).length ≤ i → xs.length ≤ i ∨ ys.length ≤ i
  | [], _, i, _ => .inl (Nat.zero_le _)
  | _ :: _, [], i, _ => .inr (Nat.zero_le _)
  | x :: xs, y :: ys, 0, h => by simp [zipD] at h
  | x :: xs, y :: ys, i + 1, h => by
    have h : (zipD xs ys).length ≤ i := by simpa [zipD] using h
    rcases zipD_end h with h | h
    · exact .inl (by simpa using h)
    · exact .inr (by simpa using h)
/-- a new pair is yielded -/
theorem yield_pair {H : Hp} {μ : List Addr} {G : Gh} {t : Addr} {x y : Dt} {v w : V} (hr : HRel K cad H μ G) (ht : H t = none) (r1 : Rp K H μ x v) (r2 : Rp K H μ y w) : KeepI H (upd H t (.tup [v, w])) ∧ HRel K cad (upd H t (.tup [v, w])) μ G ∧ Rp K (upd H t (.tup [v, w])) μ (.tup [x, y]) (.ref t) ∧ ∀ a, (H a).isSome → upd H t (.tup [v, w]) a = H a := by
  refine ⟨KeepI.new ht, hr.new ht, rp_tup.mpr ⟨t, [v, w], rfl, SqT.of upd_same, ?_⟩, fun a ha => upd_ne fun e => ?_⟩
  · exact rpl_cons.mpr ⟨v, [w], rfl, r1.mono (KeepI.new ht) (Pre.refl _), rpl_cons.mpr ⟨w, [], rfl, r2.mono (KeepI.new ht) (Pre.refl _), rpl_nil.mpr rfl⟩⟩
  · rw [e, ht] at ha
    cases ha
theorem deliv_zipL {H : Hp} {μ : List Addr} {m n : Nat} {xs ys : List Dt} {a b : Addr} (ha : μ[m]? = some a) (hb : μ[n]? = some b) : Deliv K cad μ H (Itz K a b) ⟨zipD xs ys, [(m, xs)] ++ [(n, ys)]⟩ := fun i H1 μ1 G1 p k hr st => by
  obtain ⟨vs, q1, l1⟩ := stands_sq hr (st (m, xs) (by simp)) ha p
  obtain ⟨ws, q2, l2⟩ := stands_sq hr (st (n, ys) (by simp)) hb p
  refine ⟨fun d e => ?_, fun hi => ⟨vs, ws, q1, q2, by rw [← l1.length, ← l2.length]; exact zipD_end hi⟩⟩
  obtain ⟨x, y, e1, e2, rfl⟩ := zipD_get e
  obtain ⟨v, e3, r1⟩ := l1.get e1
  obtain ⟨w, e4, r2⟩ := l2.get e2
  refine ⟨⟨vs, ws, v, w, q1, q2, e3, e4⟩, fun z H' yl => ?_⟩
  obtain ⟨t, v', w', rfl, ht, rfl, f1, f2⟩ := yl
  have g1 := f1 vs q1
  have g2 := f2 ws q2
  rw [e3] at g1; rw [e4] at g2
  cases g1; cases g2
  exact yield_pair hr ht r1 r2
theorem deliv_zipT {H : Hp} {μ : List Addr} {xs ys : List Dt} {vs ws : List V} {a b : Addr} (q01 : SqT K H a vs) (l01 : RpL K H μ xs vs) (q02 : SqT K H b ws) (l02 : RpL K H μ ys ws) : Deliv K cad μ H (RZ.ItzT K a b) ⟨zipD xs ys, []⟩ := fun i H1 μ1 G1 p k hr st => by
  have q1 := k.sqT q01
  have l1 := l01.mono k p
  have q2 := k.sqT q02
  have l2 := l02.mono k p
  refine ⟨fun d e => ?_, fun hi => ⟨vs, ws, q1, q2, by rw [← l1.length, ← l2.length]; exact zipD_end hi⟩⟩
  obtain ⟨x, y, e1, e2, rfl⟩ := zipD_get e
  obtain ⟨v, e3, r1⟩ := l1.get e1
  obtain ⟨w, e4, r2⟩ := l2.get e2
  refine ⟨⟨vs, ws, v, w, q1, q2, e3, e4⟩, fun z H' yl => ?_⟩
  obtain ⟨t, v', w', rfl, ht, rfl, f1, f2⟩ := yl
  have g1 := f1 vs q1
  have g2 := f2 ws q2
  rw [e3] at g1; rw [e4] at g2
  cases g1; cases g2
  exact yield_pair hr ht r1 r2
theorem enumD_get : ∀ {xs : List Dt} {k i : Nat} {d : Dt}, (enumD k xs)[i]? = some d → ∃ x, xs[i]? = some x ∧ d = .tup [.int ((k + i : Nat) : Int), x]
  | [], k, i, d, h => by simp [enumD] at h
  | x :: xs, k, 0, d, h => by
    have e : Dt.tup [.int (k : Nat), x] = d := by simpa [enumD] using h
    exact ⟨x, rfl, by rw [← e, Nat.add_zero]⟩
  | x :: xs, k, i + 1, d, h => by
    have h : (enumD (k + 1) xs)[i]? = some d := by simpa [enumD] using h
    obtain ⟨a, h1, h2⟩ := enumD_get h
    exact ⟨a, by simpa using h1, by rw [h2]; congr 3; omega⟩
theorem enumD_len : ∀ {xs : List Dt} {k : Nat}, (enumD k xs).length = xs.length
  | [], _ => rfl
  | x :: xs, k => by simp [enumD, enumD_len]
theorem deliv_enumL {H : Hp} {μ : List Addr} {m : Nat} {xs : List Dt} {a : Addr} (ha : μ[m]? = some a) : Deliv K cad μ H (Ite K a) ⟨enumD 0 xs, [(m, xs)]⟩ := fun i H1 μ1 G1 p k hr st => by
  obtain ⟨vs, q1, l1⟩ := stands_sq hr (st (m, xs) (by simp)) ha p
  refine ⟨fun d e => ?_, fun hi => ⟨vs, q1, by rw [← l1.length]; rw [enumD_len] at hi; exact hi⟩⟩
  obtain ⟨x, e1, rfl⟩ := enumD_get e
  obtain ⟨v, e3, r1⟩ := l1.get e1
  refine ⟨⟨vs, v, q1, e3⟩, fun z H' yl => ?_⟩
  obtain ⟨t, v', rfl, ht, rfl, f1⟩ := yl
  have g1 := f1 vs q1
  rw [e3] at g1
  cases g1
  rw [Nat.zero_add]
  exact yield_pair hr ht (rp_int.mpr rfl) r1
theorem deliv_enumT {H : Hp} {μ : List Addr} {xs : List Dt} {vs : List V} {a : Addr} (q0 : SqT K H a vs) (l0 : RpL K H μ xs vs) : Deliv K cad μ H (WmE.IteT K a) ⟨enumD 0 xs, []⟩ := fun i H1 μ1 G1 p k hr st => by
  have q1 := k.sqT q0
  have l1 := l0.mono k p
  refine ⟨fun d e => ?_, fun hi => ⟨vs, q1, by rw [← l1.length]; rw [enumD_len] at hi; exact hi⟩⟩
  obtain ⟨x, e1, rfl⟩ := enumD_get e
  obtain ⟨v, e3, r1⟩ := l1.get e1
  refine ⟨⟨vs, v, q1, e3⟩, fun z H' yl => ?_⟩
  obtain ⟨t, v', rfl, ht, rfl, f1⟩ := yl
  have g1 := f1 vs q1
  rw [e3] at g1
  cases g1
  rw [Nat.zero_add]
  exact yield_pair hr ht (rp_int.mpr rfl) r1
/-! ### the methods of lists -/
def Mt.id : Mt → String
  | .append => "list.append"
  | .extend => "list.extend"
  | .pop => "list.pop"
  | .popAt => "list.pop"
  | .insert => "list.insert"
  | .count => "list.count"
  | .index => "list.index"
  | .clear => "list.clear"
/-- list.count of flat items -/
def rCntF (K : PySem.W.Frag) : V → List V → Hp → VK → Prop := fun x xs H Q => ∃ (a : Addr) (ys : List V) (y : V), x = V.ref a ∧ xs = [y] ∧ SqL K H a ys ∧ flatV y = true ∧ ys.all flatV = true ∧ Q (.int ((ys.countP fun z => eqV z y : Nat) : Int)) H
theorem countU {y : V} : ∀ {ys : List V} {us : List Value}, Vals ys us → ys.all flatV = true → us.countP (eqU y) = ys.countP fun z => eqV z y
  | _, _, .nil, _ => rfl
  | z :: zs, u :: us, .cons r rs, h => by
    rw [List.all_cons, Bool.and_eq_true] at h
    rw [List.countP_cons, List.countP_cons, countU rs h.2, eqU_of r h.1]
theorem mt_countF {X : Cx} : MtR X "list.count" (rCntF X.K) := by
  intro pins s σ H x xs v us Q I rx rxs h
  obtain ⟨a, ys, y, rfl, rfl, hs, fy, fys, q⟩ := h
  cases rx
  cases rxs with
  | cons ry rt =>
    rename_i uy ut
    cases rt
    obtain ⟨its, rv, ⟨⟨cls, dd, data, sl⟩, n, ho, hc, hdn, hd⟩, hlen⟩ := I.list hs
    simp only at hc hd
    subst hc hd
    refine call_meets PySem.F.slot_list_count ⟨_, ho, rfl⟩ PySem.F.entry_list_count (PySem.F.args_list_count_2 _ _)
      (SeqAt.list_countAt a its.toArray n dd sl uy (eqU y)) ⟨ho, fun u' hu' => mem_eqAt ry fy rv fys u' (by simpa using hu'), ?_⟩
    refine ⟨.int ((ys.countP fun z => eqV z y : Nat) : Int), H, I.tok _, ⟨s.toks, ?_⟩, q⟩
    show Value.int ((its.toArray.toList.countP (eqU y) : Nat) : Int) s.toks = Value.int ((ys.countP fun z => eqV z y : Nat) : Int) s.toks
    rw [show its.toArray.toList = its from rfl, countU rv fys]
theorem countF_of {K : PySem.W.Frag} {H : Hp} {μ : List Addr} {d : Dt} {v : V} (rd : Rp K H μ d v) (fd : flatD d = true) : ∀ {ds : List Dt} {vs : List V}, RpL K H μ ds vs → ds.all flatD = true → (vs.countP fun z => eqV z v) = ds.countP fun z => eqF z d
  | [], vs, r, _ => by
    have := rpl_nil.mp r
    subst this
    rfl
  | x :: xs, vs, r, h => by
    obtain ⟨w, ws, rfl, r1, r2⟩ := rpl_cons.mp r
    rw [List.all_cons, Bool.and_eq_true] at h
    rw [List.countP_cons, List.countP_cons, countF_of rd fd r2 h.2, eqF_of r1 rd h.1 fd]
section
open PySem.SeqAt PySem.AutoSeq1 PySem.MeetsSeq PySem.MeetsSeq2 PySem.MeetsSeq3
theorem list_extT (l : Addr) (items : Array Value) (n : Nat) (b : Addr) (items2 : Array Value) (n2 : Nat) (dd : Option Addr) (sl : Array (Option Value)) (hs0 : ¬(!items.isEmpty && Builtin.List.listTooLong (items.size + items2.size)) = true) (hs1 : items.size ≤ sizeLine) (hs2 : items.size + items2.size ≤ sizeLine + 1) :
    Meets (Builtin.«list.extend» ⟨[.ref l, .ref b], []⟩) (fun _ R s => s.heap.get? l = some { cls := .type "list", dict := none, data := .seq items n, slots := #[] } ∧ s.heap.get? b = some { cls := .type "tuple", dict := dd, data := .seq items2 n2, slots := sl } ∧ R (.ok (.ret Value.none)) { s with heap := s.heap.update l (Obj.mapSeq fun x => x ++ items2), toks := s.toks }) :=
  .of_wp fun prog w A R s h => by
    obtain ⟨hp, g, d, tk, os⟩ := s; obtain ⟨hl, hb, h⟩ := h; have f1 := idx_int; have f2 := AutoSeq1.sub_tuple_tuple; have f3 := AutoSeq1.sub_list_list; have f4 := AutoSeq1.sub_tuple_list; have f5 := AutoSeq1.sub_list_tuple;
    have hz' : (items ++ items2).size ≤ sizeLine + 1 := by rw [Array.size_append]; exact hs2
    wp_walk using (wpAny_updateSeq hl rfl (hz := hs1) (_hz' := hz')), wpAny_loadPart' hl, wpAny_loadPart' hb; exact ⟨_, rfl, h⟩
end
def rExtT (K : PySem.W.Frag) : V → List V → Hp → VK → Prop := fun x vs H Q => ∃ l b xs zs, x = .ref l ∧ vs = [.ref b] ∧ H l = some (.lst xs) ∧ SqT K H b zs ∧ xs.length + zs.length ≤ sizeLine ∧ Q .non (upd H l (.lst (xs ++ zs)))
theorem mt_extT {X : Cx} : MtR X "list.extend" (rExtT X.K) := by
  intro pins s σ H x vs v us Q I rx rv h
  obtain ⟨l, b, xs, zs, rfl, rfl, hH, hB, hz, q⟩ := h
  cases rx
  obtain ⟨u, rfl, ru⟩ := rv.one
  cases ru
  obtain ⟨z, its, n, r, hl, e⟩ := I.lstM hH
  obtain ⟨its2, r2, ⟨⟨cls, dd, data, sl⟩, e2, hc, n2, hd⟩, hl2⟩ := I.tuple hB
  simp only at hc hd
  subst hc hd
  have hl2' : its2.length = zs.length := r2.length.symm
  have hsz : its.toArray.size + its2.toArray.size ≤ sizeLine := by rw [List.size_toArray, List.size_toArray]; omega
  have hlong : ¬ (!its.toArray.isEmpty && Builtin.List.listTooLong (its.toArray.size + its2.toArray.size)) = true := by
    rw [notLongL hsz, Bool.and_false]
    exact Bool.false_ne_true
  refine call_meets PySem.F.slot_list_extend ⟨_, e, rfl⟩ PySem.F.entry_list_extend (PySem.F.args_list_extend_2 _ _)
    (list_extT l its.toArray n b its2.toArray n2 dd sl hlong (by rw [List.size_toArray]; omega) (by omega)) ⟨e, e2, ?_⟩
  refine ⟨.non, _, I.lset (its' := its ++ its2) hH e (by simp) (r.append r2) ?_, rfl, q⟩
  rw [List.length_append]
  omega
theorem mt_ok {X : Cx} (m : Mt) : MtR X m.id (fun x xs H Q => ∃ μ G d ds, HRel X.K cad H μ G ∧ Rp X.K H μ d x ∧ RpL X.K H μ ds xs ∧ mtD m d ds G (PostE X.K cad H μ Q)) := by
  intro pins s σ H x xs v us Q I rx rv ⟨μ, G, d, ds, hr, r, l, h⟩
  unfold mtD at h
  split at h
  · rename_i n e
    obtain ⟨ys, e1, hz, h⟩ := h
    obtain ⟨w, rfl, r1⟩ := rpl1 l
    obtain ⟨a, g1, rfl⟩ := rp_ref.mp r
    obtain ⟨a', ws, g2, q, l2⟩ := hr.lst e1
    rw [g1] at g2; cases g2
    refine mt_append pins s σ H _ _ v us Q I rx rv ⟨a, ws, w, rfl, rfl, q, by rw [← l2.length]; exact hz, ?_⟩
    exact h μ _ _ (Pre.refl _) (KeepI.lst q) (hr.writeL g1 e1 q (l2.append (rpl_cons.mpr ⟨w, [], rfl, r1, rpl_nil.mpr rfl⟩))) (rp_non.mpr rfl)
  · rename_i n b
    obtain ⟨ys, zs, e1, e2, hz, h⟩ := h
    obtain ⟨w, rfl, r1⟩ := rpl1 l
    obtain ⟨a, g1, rfl⟩ := rp_ref.mp r
    obtain ⟨a2, g3, rfl⟩ := rp_ref.mp r1
    obtain ⟨a', ws, g2, q, l2⟩ := hr.lst e1
    rw [g1] at g2; cases g2
    obtain ⟨a', ws2, g4, q2, l3⟩ := hr.lst e2
    rw [g3] at g4; cases g4
    refine mt_extend pins s σ H _ _ v us Q I rx rv ⟨a, a2, ws, ws2, rfl, rfl, q, q2, by rw [← l2.length, ← l3.length]; exact hz, ?_⟩
    exact h μ _ _ (Pre.refl _) (KeepI.lst q) (hr.writeL g1 e1 q (l2.append l3)) (rp_non.mpr rfl)
  · rename_i n zs
    obtain ⟨ys, e1, hz, h⟩ := h
    obtain ⟨w, rfl, r1⟩ := rpl1 l
    obtain ⟨a, g1, rfl⟩ := rp_ref.mp r
    obtain ⟨b, ws2, rfl, q2, l3⟩ := rp_tup.mp r1
    obtain ⟨a', ws, g2, q, l2⟩ := hr.lst e1
    rw [g1] at g2; cases g2
    refine mt_extT pins s σ H _ _ v us Q I rx rv ⟨a, b, ws, ws2, rfl, rfl, q, q2, by rw [← l2.length, ← l3.length]; exact hz, ?_⟩
    exact h μ _ _ (Pre.refl _) (KeepI.lst q) (hr.writeL g1 e1 q (l2.append l3)) (rp_non.mpr rfl)
  · rename_i n
    obtain ⟨ys, d, e1, e2, h⟩ := h
    obtain ⟨a, g1, rfl⟩ := rp_ref.mp r
    obtain ⟨a', ws, g2, q, l2⟩ := hr.lst e1
    rw [g1] at g2; cases g2
    obtain ⟨w, e3, r3⟩ := l2.get e2
    refine mt_pop pins s σ H _ _ v us Q I rx rv ⟨a, ws, w, rfl, rpl_nil.mp l, q, by rw [← l2.length]; exact e3, ?_⟩
    exact h μ _ _ (Pre.refl _) (KeepI.lst q) (hr.writeL g1 e1 q l2.dropLast) (r3.mono (KeepI.lst q) (Pre.refl _))
  · rename_i n i
    obtain ⟨ys, d, k, e1, rfl, hk, e2, h⟩ := h
    obtain ⟨w0, rfl, r0⟩ := rpl1 l
    have r0 := rp_int.mp r0
    subst r0
    obtain ⟨a, g1, rfl⟩ := rp_ref.mp r
    obtain ⟨a', ws, g2, q, l2⟩ := hr.lst e1
    rw [g1] at g2; cases g2
    obtain ⟨w, e3, r3⟩ := l2.get e2
    have hl := (List.getElem?_eq_some_iff.mp e3).1
    have hi : seqIndex? (k : Int) ws.length = some k := by
      unfold seqIndex?
      have h1 : ¬ ((k : Int) < 0) := by omega
      have h2 : (k : Int) < (ws.length : Int) := by omega
      simp [h1, h2]
    refine mt_popAt pins s σ H _ _ v us Q I rx rv ⟨a, ws, k, k, w, rfl, rfl, q, by omega, by omega, hi, e3, ?_⟩
    exact h μ _ _ (Pre.refl _) (KeepI.lst q) (hr.writeL g1 e1 q (l2.erase k)) (r3.mono (KeepI.lst q) (Pre.refl _))
  · rename_i n i
    obtain ⟨ns, k, e1, e2, e3, h⟩ := h
    obtain ⟨w0, rfl, r0⟩ := rpl1 l
    have r0 := rp_int.mp r0
    subst r0
    obtain ⟨a, g1, rfl⟩ := rp_ref.mp r
    obtain ⟨a', ws, g2, q, l2⟩ := hr.lst e1
    rw [g1] at g2; cases g2
    have ei : intsOf (ns.map Dt.int) = some ns := by
      clear e1 e2 e3 l2 q
      induction ns with
      | nil => rfl
      | cons z zs ih =>
        show (intsOf (zs.map Dt.int)).map _ = _
        rw [ih]
        rfl
    have ew := rpl_ints l2 ei
    subst ew
    refine mt_index pins s σ H _ _ v us Q I rx rv ⟨a, ns.map V.int, .int i, k, .int i, rfl, rfl, SqL.of q, rfl, ?_, by rw [List.getElem?_map, e2]; rfl, ?_, fun m z' hm hz => ?_, ?_⟩
    · rw [List.all_map]
      exact List.all_eq_true.mpr fun _ _ => rfl
    · show (i == i) = true
      simp
    · rw [List.getElem?_map] at hz
      cases en : ns[m]? with
      | none => rw [en] at hz; cases hz
      | some y =>
        rw [en] at hz
        cases hz
        have := e3 m hm
        rw [en] at this
        show (y == i) = false
        simp
        intro e
        exact this (by rw [e])
    · exact h μ _ _ (Pre.refl _) (KeepI.refl _) hr (rp_int.mpr rfl)
  · rename_i n b
    obtain ⟨ys, k, z, e1, e2, e3, e4, e5, h⟩ := h
    obtain ⟨w0, rfl, r0⟩ := rpl1 l
    obtain ⟨a, g1, rfl⟩ := rp_ref.mp r
    obtain ⟨a', ws, g2, q, l2⟩ := hr.lst e1
    rw [g1] at g2; cases g2
    obtain ⟨w, e6, r6⟩ := l2.get e3
    have fl := flats_of l2 e2
    refine mt_index pins s σ H _ _ v us Q I rx rv ⟨a, ws, w0, k, w, rfl, rfl, SqL.of q, flat_of r0 rfl, fl, e6, ?_, fun m z' hm hz => ?_, ?_⟩
    · rw [eqF_of r6 r0 (List.all_eq_true.mp e2 z (List.mem_of_getElem? e3)) rfl]
      exact e4
    · have hml : m < ys.length := by
        have := (List.getElem?_eq_some_iff.mp hz).1
        rw [← l2.length] at this
        exact this
      obtain ⟨w2, e7, r7⟩ := l2.get (List.getElem?_eq_getElem hml)
      rw [hz] at e7
      cases e7
      rw [eqF_of r7 r0 (List.all_eq_true.mp e2 _ (List.getElem_mem hml)) rfl]
      exact e5 m _ hm (List.getElem?_eq_getElem hml)
    · exact h μ _ _ (Pre.refl _) (KeepI.refl _) hr (rp_int.mpr rfl)
  · rename_i n d
    obtain ⟨ys, e1, e2, e3, h⟩ := h
    obtain ⟨w0, rfl, r0⟩ := rpl1 l
    obtain ⟨a, g1, rfl⟩ := rp_ref.mp r
    obtain ⟨a', ws, g2, q, l2⟩ := hr.lst e1
    rw [g1] at g2; cases g2
    refine mt_countF pins s σ H _ _ v us Q I rx rv ⟨a, ws, w0, rfl, rfl, SqL.of q, flat_of r0 e2, flats_of l2 e3, ?_⟩
    rw [countF_of r0 e2 l2 e3]
    exact h μ _ _ (Pre.refl _) (KeepI.refl _) hr (rp_int.mpr rfl)
  · exact h.elim
theorem slot_mt (m : Mt) : Slot "list" m.name m.id := by
  cases m
  · exact PySem.F.slot_list_append
  · exact PySem.F.slot_list_extend
  · exact PySem.F.slot_list_pop
  · exact PySem.F.slot_list_pop
  · exact PySem.F.slot_list_insert
  · exact PySem.F.slot_list_count
  · exact PySem.F.slot_list_index
  · exact PySem.F.slot_list_clear
theorem type_mt (m : Mt) : typeOf (.builtin m.id) = pure (.type "method_descriptor") := by
  cases m
  · exact PySem.F.type_list_append
  · exact PySem.F.type_list_extend
  · exact PySem.F.type_list_pop
  · exact PySem.F.type_list_pop
  · exact PySem.F.type_list_insert
  · exact PySem.F.type_list_count
  · exact PySem.F.type_list_index
  · exact PySem.F.type_list_clear
theorem base_of {o : Expr} {n : Str} {env : Env} {w : Sem Value} (h : notCall0 o = true) : attributeBase o n env w = w := by
  unfold attributeBase
  split
  · cases h
  · rfl
theorem stars_all {pos : Pos} {env : Env} : ∀ {es : List Expr}, es.all notStar = true → (backTo pos (starEach es env)).all (fun x => !x.1) = true
  | [], _ => rfl
  | e :: es, h => by
    rw [List.all_cons, Bool.and_eq_true] at h
    rw [star_of h.1]
    show (true && (backTo pos (starEach es env)).all (fun x => !x.1)) = true
    rw [Bool.true_and]
    exact stars_all h.2
section
variable (mc : MonoC call)
include mc
theorem snd_izip {a b : Cd} (ia : Snd T call kw isa cad a) (ib : Snd T call kw isa cad b) : Snd T call kw isa cad (.izip a b) where
  i := fun X W ok tg ex h => by
    unfold mat at h
    dsimp only at h
    split at h <;> try (cases h; done)
    rename_i x p e e2 pos
    obtain ⟨h, h7⟩ := b2 h
    obtain ⟨h, h6⟩ := b2 h
    obtain ⟨h, h5⟩ := b2 h
    obtain ⟨h, h4⟩ := b2 h
    obtain ⟨h, h3⟩ := b2 h
    obtain ⟨h1, h2⟩ := b2 h
    have ex := eqs h1
    subst ex
    obtain ⟨g1, g2⟩ := glo_of h2
    obtain ⟨k, rm, tk, _⟩ := ok.ex
    refine (RZ.pi_zipA g1 (tk.free _ h3) (pa_cons (ia.e X W ok e h4) (pa_cons (ib.e X W ok e2 h6) pa_nil (star_of h7)) (star_of h5)) (star_of h5) (stars_any (by rw [List.all_cons, h7]; rfl))).wk fun σ H Q ⟨μ, G, env, R, q⟩ => ?_
    refine LE.mk (sem_mono mc a) R q (fun d G1 q1 μ1 v1 H1 p1 k1 hr1 r1 => LE.mk (sem_mono mc b) (R.step p1 k1 hr1) q1 (fun d2 G2 ⟨xs, ys, et, e1, e2, q2⟩ μ2 v2 H2 p2 k2 hr2 r2 => ?_) fun x G' z => z.step p1 k1) fun x G' z => z
    obtain ⟨a1, vs, rfl, s1, l1⟩ := seq_of hr2 (r1.mono k2 p2) e1
    obtain ⟨a2, ws, rfl, s2, l2⟩ := seq_of hr2 r2 e2
    refine ⟨a1, a2, vs, ws, rfl, ?_⟩
    have q3 := (PostI.step p1 k1 q2).step p2 k2
    rcases s1 with ⟨s1, n1, en1⟩ | ⟨s1, en1⟩ <;> rcases s2 with ⟨s2, n2, en2⟩ | ⟨s2, en2⟩
    · subst en1 en2
      obtain ⟨b1, f1, f2⟩ := rp_ref.mp (r1.mono k2 p2)
      obtain ⟨b2, f3, f4⟩ := rp_ref.mp r2
      cases f2; cases f4
      exact .inl ⟨s1, s2, q3 μ2 H2 _ (Pre.refl _) (KeepI.refl _) hr2 (deliv_zipL f1 f3)⟩
    · subst en1 en2
      cases et
    · subst en1 en2
      cases et
    · subst en1 en2
      exact .inr ⟨s1, s2, q3 μ2 H2 _ (Pre.refl _) (KeepI.refl _) hr2 (deliv_zipT s1 l1 s2 l2)⟩
theorem zipD_len : ∀ {xs ys : List Dt}, xs.length = ys.length → (zipD xs ys).length = xs.length
  | [], [], _ => rfl
  | x :: xs, y :: ys, h => by
    unfold zipD
    rw [List.length_cons, List.length_cons, zipD_len (by simpa using h)]
  | [], y :: ys, h => by cases h
  | x :: xs, [], h => by cases h
theorem deliv_zipS {K : PySem.W.Frag} {H : Hp} {μ : List Addr} {xs ys : List Dt} {vs ws : List V} {a b : Addr} (hl : xs.length = ys.length) (q01 : SqT K H a vs) (l01 : RpL K H μ xs vs) (q02 : SqT K H b ws) (l02 : RpL K H μ ys ws) : Deliv K cad μ H (ZS.ItS K a b) ⟨zipD xs ys, []⟩ := fun i H1 μ1 G1 p k hr st => by
  have q1 := k.sqT q01
  have l1 := l01.mono k p
  have q2 := k.sqT q02
  have l2 := l02.mono k p
  refine ⟨fun d e => ?_, fun hi => ⟨vs, ws, q1, q2, ?_, ?_⟩⟩
  · obtain ⟨x, y, e1, e2, rfl⟩ := zipD_get e
    obtain ⟨v, e3, r1⟩ := l1.get e1
    obtain ⟨w, e4, r2⟩ := l2.get e2
    refine ⟨⟨vs, ws, v, w, q1, q2, e3, e4⟩, fun z H' yl => ?_⟩
    obtain ⟨t, v', w', rfl, ht, rfl, f1, f2⟩ := yl
    have g1 := f1 vs q1
    have g2 := f2 ws q2
    rw [e3] at g1; rw [e4] at g2
    cases g1; cases g2
    exact yield_pair hr ht r1 r2
  · rw [← l1.length, ← zipD_len mc hl]; exact hi
  · rw [← l2.length, ← hl, ← zipD_len mc hl]; exact hi
theorem snd_izips {a b : Cd} (ia : Snd T call kw isa cad a) (ib : Snd T call kw isa cad b) : Snd T call kw isa cad (.izips a b) where
  i := fun X W ok tg ex h => by
    unfold mat at h
    dsimp only at h
    split at h <;> try (cases h; done)
    rename_i x p e e2 k ck cp kp pos
    obtain ⟨h, h7⟩ := b2 h
    obtain ⟨h, h6⟩ := b2 h
    obtain ⟨h, h5⟩ := b2 h
    obtain ⟨h, h4⟩ := b2 h
    obtain ⟨h, h3⟩ := b2 h
    obtain ⟨h, h2⟩ := b2 h
    obtain ⟨h1, h0⟩ := b2 h
    have ex := eqs h1
    subst ex
    have ek := eqs h0
    subst ek
    obtain ⟨g1, g2⟩ := glo_of h2
    obtain ⟨k, rm, tk, _⟩ := ok.ex
    refine (ZS.pi_S g1 (tk.free _ h3) (pa_cons (ia.e X W ok e h4) (pa_cons (ib.e X W ok e2 h6) pa_nil (star_of h7)) (star_of h5)) (star_of h5) (stars_any (by rw [List.all_cons, h7]; rfl))).wk fun σ H Q ⟨μ, G, env, R, q⟩ => ?_
    refine LE.mk (sem_mono mc a) R q (fun d G1 q1 μ1 v1 H1 p1 k1 hr1 r1 => LE.mk (sem_mono mc b) (R.step p1 k1 hr1) q1 (fun d2 G2 ⟨xs, ys, e1, e2, el, q2⟩ μ2 v2 H2 p2 k2 hr2 r2 => ?_) fun x G' z => z.step p1 k1) fun x G' z => z
    subst e1 e2
    obtain ⟨a1, vs, rfl, s1, l1⟩ := rp_tup.mp (r1.mono k2 p2)
    obtain ⟨a2, ws, rfl, s2, l2⟩ := rp_tup.mp r2
    have q3 := (PostI.step p1 k1 q2).step p2 k2
    exact ⟨a1, a2, vs, ws, rfl, s1, s2, q3 μ2 H2 _ (Pre.refl _) (KeepI.refl _) hr2 (deliv_zipS mc el s1 l1 s2 l2)⟩
theorem snd_ienum {a : Cd} (ia : Snd T call kw isa cad a) : Snd T call kw isa cad (.ienum a) where
  i := fun X W ok tg ex h => by
    unfold mat at h
    dsimp only at h
    split at h <;> try (cases h; done)
    rename_i x p e pos
    obtain ⟨h, h5⟩ := b2 h
    obtain ⟨h, h4⟩ := b2 h
    obtain ⟨h, h3⟩ := b2 h
    obtain ⟨h1, h2⟩ := b2 h
    have ex := eqs h1
    subst ex
    obtain ⟨g1, g2⟩ := glo_of h2
    obtain ⟨k, rm, tk, _⟩ := ok.ex
    refine (WmE.pi_enumT g1 (tk.free _ h3) (pa_cons (ia.e X W ok e h4) pa_nil (star_of h5)) (star_of h5)).wk fun σ H Q ⟨μ, G, env, R, q⟩ => ?_
    refine LE.mk (sem_mono mc a) R q (fun d G1 ⟨xs, e, q1⟩ μ1 v1 H1 p1 k1 hr1 r1 => ?_) fun x G' z => z
    obtain ⟨a1, vs, rfl, s1, l1⟩ := seq_of hr1 r1 e
    rcases s1 with ⟨s1, n1, en1⟩ | ⟨s1, en1⟩
    · subst en1
      obtain ⟨b1, f1, f2⟩ := rp_ref.mp r1
      cases f2
      exact ⟨a1, vs, rfl, .inl ⟨s1, (PostI.step p1 k1 q1) μ1 H1 _ (Pre.refl _) (KeepI.refl _) hr1 (deliv_enumL f1)⟩⟩
    · subst en1
      exact ⟨a1, vs, rfl, .inr ⟨s1, (PostI.step p1 k1 q1) μ1 H1 _ (Pre.refl _) (KeepI.refl _) hr1 (deliv_enumT s1 l1)⟩⟩
theorem snd_mt {m : Mt} {o a : Cd} (io : Snd T call kw isa cad o) (ia : Snd T call kw isa cad a) : Snd T call kw isa cad (.mt m o a) where
  e := fun X W ok ex h => by
    unfold mat at h
    dsimp only at h
    split at h <;> try (cases h; done)
    rename_i x n apos es cpos
    obtain ⟨h, h7⟩ := b2 h
    obtain ⟨h, h6⟩ := b2 h
    obtain ⟨h, h5⟩ := b2 h
    obtain ⟨h, h4⟩ := b2 h
    obtain ⟨h, h3⟩ := b2 h
    obtain ⟨h1, h2⟩ := b2 h
    have en := eqs h1
    subst en
    have hl := of_decide_eq_true h7
    cases es with
    | nil =>
      refine (pe_bm0 PySem.F.plainAttrs_list (slot_mt m) (type_mt m) (mt_ok (cad := cad) m) (io.e X W ok x h2) (base_of h5) h4).wk fun σ H Q ⟨μ, G, env, R, q⟩ => ?_
      refine LE.mk (sem_mono mc o) R q (fun d G1 ⟨⟨n, ys, ed, el⟩, q1⟩ μ1 v1 H1 p1 k1 hr1 r1 => ?_) fun x G' z => z
      subst ed
      obtain ⟨p, g1, rfl⟩ := rp_ref.mp r1
      obtain ⟨p', vs, g2, sq, l⟩ := hr1.lstAt el
      rw [g1] at g2; cases g2
      refine ⟨.inl ⟨rfl, vs, sq⟩, μ1, G1, _, [], hr1, r1, rpl_nil.mpr rfl, ?_⟩
      cases a <;> try (exact q1.elim)
      · exact mtD_mono (fun d G' z => PostE.step p1 k1 z) q1
      · cases h3
    | cons e es =>
      have hst := mat_a_star a h3
      have hst2 := hst
      rw [List.all_cons, Bool.and_eq_true] at hst2
      refine (pe_bm PySem.F.plainAttrs_list (slot_mt m) (type_mt m) (mt_ok (cad := cad) m) (io.e X W ok x h2) (ia.a X W ok _ h3) (base_of h5) (by rw [stars_all hst]; show decide ((e :: es).length + 0 + 0 < 30) = true; exact decide_eq_true hl) h4 (star_of hst2.1) (stars_any hst2.2)).wk fun σ H Q ⟨μ, G, env, R, q⟩ => ?_
      refine LE.mk (sem_mono mc o) R q (fun d G1 ⟨⟨n, ys, ed, el⟩, q1⟩ μ1 v1 H1 p1 k1 hr1 r1 => ?_) fun x G' z => z
      subst ed
      obtain ⟨p, g1, rfl⟩ := rp_ref.mp r1
      obtain ⟨p', vs, g2, sq, l⟩ := hr1.lstAt el
      rw [g1] at g2; cases g2
      refine ⟨.inl ⟨rfl, vs, sq⟩, LA.mk (sem_mono mc a) (R.step p1 k1 hr1) q1 (fun ds G2 q2 μ2 ws H2 p2 k2 hr2 r2 => ?_) fun x G' z => z.step p1 k1⟩
      exact ⟨μ2, G2, _, ds, hr2, r1.mono k2 p2, r2, mtD_mono (fun d G' z => (PostE.step p1 k1 z).step p2 k2) q2⟩
/-! ### isinstance -/
theorem tg_ok {X : Cx} {W : WX} (ok : Cok T call kw isa cad X W) {t : Tg} {e : Expr} (h : tgB T X.env.scope t e = true) : PE X e (tC (t.v cad)) ∧ notStar e = true := by
  obtain ⟨k, rm, tk, _⟩ := ok.ex
  unfold tgB at h
  split at h
  · rename_i n x pos
    obtain ⟨h, h4⟩ := b2 h
    obtain ⟨h, h3⟩ := b2 h
    obtain ⟨h1, h2⟩ := b2 h
    have ex := eqs h1
    subst ex
    obtain ⟨g1, g2⟩ := glo_of h3
    have key : ∀ n : String, ["int", "bool", "str", "tuple", "list", "dict", "ValueError"].contains n = true → bootBuiltins (Str.ofString n) = some (.type n) ∧ Str.ofString n ≠ "__name__" := by
      intro n hn
      simp at hn
      rcases hn with rfl | rfl | rfl | rfl | rfl | rfl | rfl <;> exact ⟨by decide +kernel, by decide +kernel⟩
    obtain ⟨k1, k2⟩ := key n h4
    exact ⟨pe_bltn g1 (tk.free _ h2) k1 rfl k2 g2, rfl⟩
  · rename_i c x pos
    obtain ⟨h1, h2⟩ := b2 h
    obtain ⟨g1, g2⟩ := glo_of h2
    obtain ⟨hm, _⟩ := tk.xcl x c (by simpa using h1)
    exact ⟨pe_glob g1 hm rfl g2, rfl⟩
  · cases h
theorem tgs_ok {X : Cx} {W : WX} (ok : Cok T call kw isa cad X W) : ∀ {ts : List Tg} {es : List Expr}, tgsB T X.env.scope ts es = true → PA X es (fun σ H Q => Q (ts.map (Tg.v cad)) H)
  | [], [], _ => pa_nil.wk fun σ H Q q => q
  | [], _ :: _, h => by cases h
  | _ :: _, [], h => by cases h
  | t :: ts, e :: es, h => by
    obtain ⟨h1, h2⟩ := b2 (show (tgB T X.env.scope t e && tgsB T X.env.scope ts es) = true from h)
    obtain ⟨p1, p2⟩ := tg_ok mc ok h1
    exact (pa_cons p1 (tgs_ok ok h2) (star_of p2)).wk fun σ H Q q => q
theorem tgs_len {sc : Scope} : ∀ {ts : List Tg} {es : List Expr}, tgsB T sc ts es = true → ts.length = es.length
  | [], [], _ => rfl
  | [], _ :: _, h => by cases h
  | _ :: _, [], h => by cases h
  | t :: ts, e :: es, h => by
    obtain ⟨h1, h2⟩ := b2 (show (tgB T sc t e && tgsB T sc ts es) = true from h)
    rw [List.length_cons, List.length_cons, tgs_len h2]
theorem tg_ex {X : Cx} {W : WX} (ok : Cok T call kw isa cad X W) {t : Tg} {e : Expr} (h : tgB T X.env.scope t e = true) {c : Nat} (hc : t = .own c) : cad.ex c := by
  obtain ⟨k, rm, tk, _⟩ := ok.ex
  subst hc
  unfold tgB at h
  split at h
  · cases ‹Tg.own c = Tg.ty _›
  · rename_i c' x pos ec
    cases ec
    obtain ⟨h1, _⟩ := b2 h
    exact (tk.xcl x c (by simpa using h1)).2.2.2.2
  · cases h
theorem tgs_ex {X : Cx} {W : WX} (ok : Cok T call kw isa cad X W) : ∀ {ts : List Tg} {es : List Expr}, tgsB T X.env.scope ts es = true → ∀ c, Tg.own c ∈ ts → cad.ex c
  | [], _, _, c, hc => by cases hc
  | _ :: _, [], h, _, _ => by cases h
  | t :: ts, e :: es, h, c, hc => by
    obtain ⟨h1, h2⟩ := b2 (show (tgB T X.env.scope t e && tgsB T X.env.scope ts es) = true from h)
    rcases List.mem_cons.mp hc with z | z
    · exact tg_ex mc ok h1 z.symm
    · exact tgs_ex ok h2 c z
theorem paired_tg : ∀ ts : List Tg, Paired ClsV (ts.map (Tg.v cad)) (ts.map (Tg.u cad))
  | [] => .nil
  | t :: ts => .cons t.clsV (paired_tg ts)
theorem boot_isi : bootBuiltins "isinstance" = some (.builtin "isinstance") := by decide +kernel
theorem snd_isi {a : Cd} {ts : List Tg} (ia : Snd T call kw isa cad a) : Snd T call kw isa cad (.isi a ts) where
  e := fun X W ok ex h => by
    unfold mat at h
    dsimp only at h
    split at h <;> try (cases h; done)
    rename_i x pp e c pos
    obtain ⟨h, h6⟩ := b2 h
    obtain ⟨h, h5⟩ := b2 h
    obtain ⟨h, h4⟩ := b2 h
    obtain ⟨h, h3⟩ := b2 h
    obtain ⟨h1, h2⟩ := b2 h
    have ex := eqs h1
    subst ex
    obtain ⟨g1, g2⟩ := glo_of h2
    obtain ⟨k, rm, tk, _⟩ := ok.ex
    unfold isiB at h6
    split at h6
    · rename_i es kk p2
      obtain ⟨h6, h9⟩ := b2 h6
      obtain ⟨h7, h8⟩ := b2 h6
      have hne : ts ≠ [] := fun z => by rw [z] at h7; cases h7
      have hl := tgs_len mc h8
      refine (pe_callB call_isiTE g1 (tk.free _ h3) (boot_isi mc) (pa_cons (ia.e X W ok e h4) (pa_cons (pe_tup (tgs_ok mc ok h8)) pa_nil) (star_of h5)) (by decide +kernel) g2 (star_of h5) rfl).wk fun σ H Q ⟨μ, G, env, R, q⟩ => ?_
      refine LE.mk (sem_mono mc a) R q (fun d G1 ⟨b, eb, q1⟩ μ1 v1 H1 p1 k1 hr1 r1 => ?_) fun x G' z => z
      refine ⟨?_, fun p hp => ?_⟩
      · have h9 := of_decide_eq_true h9
        rw [List.length_map, hl, sizeLine_eq]
        omega
      · obtain ⟨t, ty, hk⟩ := isAny_ok tk.xf (hr1.new (x := .tup (ts.map (Tg.v cad))) hp) (r1.mono (KeepI.new hp) (Pre.refl _)) ts b hne (tgs_ex mc ok h8) eb
        exact ⟨v1, p, _, t, _, b, rfl, upd_same, paired_tg mc ts, ty, hk, (PostE.step p1 k1 q1) μ1 _ _ (Pre.refl _) (KeepI.new hp) (hr1.new hp) (rp_bl.mpr rfl)⟩
    · rename_i t e2
      obtain ⟨p1, p2⟩ := tg_ok mc ok h6
      refine (pe_callB call_isiE g1 (tk.free _ h3) (boot_isi mc) (pa_cons (ia.e X W ok e h4) (pa_cons p1 pa_nil (star_of p2)) (star_of h5)) (by decide +kernel) g2 (star_of h5) (stars_any (by rw [List.all_cons, p2]; rfl))).wk fun σ H Q ⟨μ, G, env, R, q⟩ => ?_
      refine LE.mk (sem_mono mc a) R q (fun d G1 ⟨b, eb, q1⟩ μ1 v1 H1 p1 k1 hr1 r1 => ?_) fun x G' z => z
      obtain ⟨tt, ty, hk⟩ := isAny_ok tk.xf hr1 r1 [t] b (List.cons_ne_nil _ _) (fun c hc => tg_ex mc ok h6 (List.mem_singleton.mp hc).symm) eb
      refine ⟨v1, t.v cad, tt, t.u cad, b, rfl, t.clsV, ty, ?_, (PostE.step p1 k1 q1).now hr1 (rp_bl.mpr rfl)⟩
      have hk : PySem.W.kitAny X.K tt [t.u cad] = some b := hk
      unfold PySem.W.kitAny at hk
      cases e3 : PySem.W.kitOne X.K tt (t.u cad) with
      | none => rw [e3] at hk; cases hk
      | some b1 =>
        rw [e3] at hk
        cases b1 with
        | true => cases hk; rfl
        | false => cases hk; rfl
    · cases h6
end
end
end Wm

namespace Wm
open PySem PySem.Spec PyProof.Rows L2
section
variable {T : Tab} {call : CallT} {kw : Nat → List Dt → List Str → List Dt → List Dt} {isa : Nat → Nat → Bool} {cad : Cad}
theorem wipe_get (σ : L2.St) : ∀ (own : List Nat) (j : Nat), (wipe σ own)[j]? = if j ∈ own then (if j < σ.length then some none else none) else σ[j]?
  | [], j => by simp [wipe]
  | o :: own, j => by
    unfold wipe
    by_cases hj : o = j
    · subst hj
      rw [if_pos List.mem_cons_self]
      by_cases hl : o < σ.length
      · rw [List.getElem?_set_self (by rw [wipe_length]; exact hl), if_pos hl]
      · rw [List.getElem?_eq_none (by rw [List.length_set, wipe_length]; omega), if_neg hl]
    · rw [List.getElem?_set_ne hj, wipe_get σ own j]
      have : (j ∈ o :: own) ↔ j ∈ own := by
        rw [List.mem_cons]
        exact ⟨fun h => h.elim (fun e => absurd e.symm hj) id, .inr⟩
      simp only [this]
theorem wipe_but {σ σ2 : L2.St} {S own : List Nat} (b : But S (wipe σ own) σ2) (hs : ∀ j, j ∈ S → j ∈ own) : wipe σ2 own = wipe σ own := by
  apply List.ext_getElem?
  intro j
  rw [wipe_get, wipe_get]
  have hl : σ2.length = σ.length := b.1.trans (wipe_length σ own)
  by_cases hj : j ∈ own
  · rw [if_pos hj, if_pos hj, hl]
  · rw [if_neg hj, if_neg hj, b.2 j (fun z => hj (hs j z)), wipe_get, if_neg hj]
theorem Cok.blk {X : Cx} {W : WX} (ok : Cok T call kw isa cad X W) (s : Shared) (H : Hp) (scope : Scope) (cenv : Env) (fp : List Addr) : Cok T call kw isa cad (X.blk s H scope cenv fp) fun _ _ _ _ => False :=
  ⟨ok.calm, ok.nd, fun u s' ⟨a, B, sI, pins, σ, Hh, cls, d, e, I, nb, up, sky, na, os, ag, w⟩ => w.elim, ok.ex, ok.gd⟩
theorem drop_cons {α : Type} {l xs : List α} {i : Nat} {x : α} (h : x :: xs = l.drop i) : l[i]? = some x ∧ xs = l.drop (i + 1) := by
  have h1 : (l.drop i)[0]? = some x := by rw [← h]; rfl
  rw [List.getElem?_drop, Nat.add_zero] at h1
  refine ⟨h1, ?_⟩
  have h2 : (l.drop i).tail = xs := by rw [← h]; rfl
  rw [List.tail_drop] at h2
  exact h2.symm
theorem drop_nil {α : Type} {l : List α} {i : Nat} (h : ([] : List α) = l.drop i) : l.length ≤ i := by
  have := congrArg List.length h
  rw [List.length_drop] at this
  simp at this
  omega
section
variable (mc : MonoC call)
include mc
/-- a comprehension's reading -/
theorem lc_read {X : Cx} {W : WX} {elt g it cond : Cd} {own : List Nat} (hs : (slotsG g).all (own.contains ·) = true) : ∀ (σ : L2.St) (H : Hp) (Q : VK), LE X.K cad W (sem call kw isa (.comp elt g it cond own)).e σ H Q →
    tLc (LI X.K cad W (sem call kw isa it).i) (LG X.K cad (slotsG g) (sem call kw isa g).g) (LT X.K cad (fun _ _ _ _ => False) (sem call kw isa cond).t) (LE X.K cad (fun _ _ _ _ => False) (sem call kw isa elt).e) own σ H Q := by
  intro σ H Q ⟨μ, G, env, R, q⟩
  have hS : ∀ j, j ∈ slotsG g → j ∈ own := fun j hj => by
    have := List.all_eq_true.mp hs j hj
    simpa using this
  refine LI.mk (sem_mono mc it) R q (fun J G1 q1 μ1 H1 J1 p1 k1 hr1 dl D hD => ?_) fun x G' z => z
  have hn : (μ1 ++ [D])[G1.length]? = some D := by rw [← hr1.len]; exact snoc_at μ1 D
  refine ⟨fun i m H' => ∃ (μ2 : List Addr) (G2 : Gh) (rest acc : List Dt), m = rest.length ∧ rest = J.items.drop i ∧ Pre (μ1 ++ [D]) μ2 ∧ KeepI (upd H1 D (.lst [])) H' ∧ HRel X.K cad H' μ2 G2 ∧
      compD (sem call kw isa g).g (sem call kw isa cond).t (sem call kw isa elt).e J.watch own env G1.length rest acc G2 fun G2 => PostE X.K cad H μ Q (.ref G1.length) G2,
    ⟨J.items.length, μ1 ++ [D], G1 ++ [.lst []], J.items, [], rfl, rfl, Pre.refl _, KeepI.refl _, hr1.allocL hD (rpl_nil.mpr rfl), q1⟩, fun i m H' hW => ?_⟩
  obtain ⟨μ2, G2, rest, acc, em, er, p2, k2, hr2, q2⟩ := hW
  have p12 : Pre μ1 μ2 := (Pre.snoc μ1 D).trans p2
  have k12 : KeepI H1 H' := (KeepI.new hD).trans k2
  have hD2 : μ2[G1.length]? = some D := p2 _ _ hn
  cases rest with
  | nil =>
    obtain ⟨st, e1, q2⟩ := q2
    exact .inl ⟨(dl i H' μ2 G2 p12 k12 hr2 st).2 (drop_nil er), q2 μ2 _ H' (p1.trans p12) (k1.trans k12) hr2 (rp_ref.mpr ⟨D, hD2, rfl⟩)⟩
  | cons x xs =>
    obtain ⟨st, q2⟩ := q2
    obtain ⟨ei, er2⟩ := drop_cons er
    obtain ⟨go, yl⟩ := (dl i H' μ2 G2 p12 k12 hr2 st).1 x ei
    refine .inr ⟨go, fun H' => ∃ (μ2 : List Addr) (G2 : Gh) (acc : List Dt), Pre (μ1 ++ [D]) μ2 ∧ KeepI (upd H1 D (.lst [])) H' ∧ HRel X.K cad H' μ2 G2 ∧
      compD (sem call kw isa g).g (sem call kw isa cond).t (sem call kw isa elt).e J.watch own env G1.length xs acc G2 fun G2 => PostE X.K cad H μ Q (.ref G1.length) G2, fun H'' ⟨μ3, G3, acc3, h1, h2, h3, h4⟩ => ⟨xs.length, by rw [em]; exact Nat.lt_succ_self _, μ3, G3, xs, acc3, rfl, er2, h1, h2, h3, h4⟩, fun xv H3 y => ?_⟩
    obtain ⟨k3, hr3, r3, _⟩ := yl xv H3 y
    have R3 : Rel X.K cad H3 μ2 G2 σ env := R.step (p1.trans p12) ((k1.trans k12).trans k3) hr3
    refine LG.mk (sem_mono mc g) (R3.wipe own) r3 q2 fun env1 Ga qa μ4 σ2 H4 p4 k4 R4 bt => ⟨wipe_but bt hS, ?_⟩
    refine LT.mk (sem_mono mc cond) R4 qa (fun b Gb qb μ5 H5 p5 k5 hr5 => ?_) fun x G' z => z.elim
    cases b with
    | false => exact ⟨μ5, Gb, acc, (p2.trans p4).trans p5, ((k2.trans k3).trans k4).trans k5, hr5, qb⟩
    | true =>
      rw [if_pos rfl]
      refine LE.mk (sem_mono mc elt) (R4.step p5 k5 hr5) qb (fun d Gc ⟨e1, hz, qc⟩ μ6 v H6 p6 k6 hr6 r6 => ?_) fun x G' z => z.elim
      obtain ⟨a, vs, g1, g2, l⟩ := hr6.lst e1
      have hp : Pre (μ1 ++ [D]) μ6 := ((p2.trans p4).trans p5).trans p6
      rw [hp _ _ hn] at g1
      cases g1
      exact ⟨vs, g2, by rw [← l.length]; exact hz, μ6, _, acc ++ [d], hp, ((((k2.trans k3).trans k4).trans k5).trans k6).trans (KeepI.lst g2), hr6.writeL (hp _ _ hn) e1 g2 (l.append (rpl_cons.mpr ⟨v, [], rfl, r6, rpl_nil.mpr rfl⟩)), qc⟩
theorem snd_comp {elt g it cond : Cd} {own : List Nat} (ie : Snd T call kw isa cad elt) (ig : Snd T call kw isa cad g) (ii : Snd T call kw isa cad it) (ic : Snd T call kw isa cad cond) : Snd T call kw isa cad (.comp elt g it cond own) where
  e := fun X W ok ex h => by
    unfold mat at h
    dsimp only at h
    split at h <;> try (cases h; done)
    rename_i x tg iter ifs scope pos
    obtain ⟨h, hh⟩ := b2 h
    have calm := ok.calm (notHot hh)
    obtain ⟨h, h8⟩ := b2 h
    obtain ⟨h, h7⟩ := b2 h
    obtain ⟨h, h6⟩ := b2 h
    obtain ⟨h, h5⟩ := b2 h
    obtain ⟨h, h4⟩ := b2 h
    obtain ⟨h, h3⟩ := b2 h
    obtain ⟨h1, h2⟩ := b2 h
    have eo := of_decide_eq_true h2
    have key := pe_lc (own := ownP X.N own) (pos := pos) (elt := x) (g := LG X.K cad (slotsG g) (sem call kw isa g).g) (tt := LT X.K cad (fun _ _ _ _ => False) (sem call kw isa cond).t) (te := LE X.K cad (fun _ _ _ _ => False) (sem call kw isa elt).e) calm ok.nd (ii.i X W ok tg iter h4) (blkOk_by h1) (fun s H C cl fp => ig.g _ _ (ok.blk s H scope (compEnvC scope cl C X.env) fp) tg h6)
      (fun s H C cl fp => ic.c _ _ (ok.blk s H scope (compEnvC scope cl C X.env) fp) ifs h7) (fun s H C cl fp => ie.e _ _ (ok.blk s H scope (compEnvC scope cl C X.env) fp) x h8) (fold_of h5)
    rw [eo] at key
    exact key.wk (lc_read mc h3)
  lc := fun X W ok x gens scope pos y py i spos hi hs h => by
    unfold mat at h
    dsimp only at h
    split at h <;> try (cases h; done)
    rename_i ex1 tg iter ifs scope1 pos1 eg
    injection eg with eg1 eg2 eg3 eg4
    subst eg1 eg2 eg3 eg4
    obtain ⟨h, hh⟩ := b2 h
    have calm := ok.calm (notHot hh)
    obtain ⟨h, h8⟩ := b2 h
    obtain ⟨h, h7⟩ := b2 h
    obtain ⟨h, h6⟩ := b2 h
    obtain ⟨h, h5⟩ := b2 h
    obtain ⟨h, h4⟩ := b2 h
    obtain ⟨h, h3⟩ := b2 h
    obtain ⟨h1, h2⟩ := b2 h
    have eo := of_decide_eq_true h2
    unfold swLc at hs
    obtain ⟨hs, s4⟩ := b2 hs
    obtain ⟨hs, s3⟩ := b2 hs
    obtain ⟨s1, s2⟩ := b2 hs
    have hk : X.env.scope.kind = .function := by
      split at s1
      · rename_i e; exact e
      · cases s1
    have hy := of_decide_eq_true s2
    rw [Bool.not_eq_true'] at s4
    have key := ps_setLc (own := ownP X.N own) (spos := spos) calm ok.nd hi hy (sw_true hk hy s3 s4) (elt := x) (g := LG X.K cad (slotsG g) (sem call kw isa g).g) (tt := LT X.K cad (fun _ _ _ _ => False) (sem call kw isa cond).t) (te := LE X.K cad (fun _ _ _ _ => False) (sem call kw isa elt).e) (ii.i X W ok tg iter h4) (blkOk_by h1) (fun s H C cl fp => ig.g _ _ (ok.blk s H scope (compEnvC scope cl C X.env) fp) tg h6)
      (fun s H C cl fp => ic.c _ _ (ok.blk s H scope (compEnvC scope cl C X.env) fp) ifs h7) (fun s H C cl fp => ie.e _ _ (ok.blk s H scope (compEnvC scope cl C X.env) fp) x h8) (fold_of h5)
    rw [eo] at key
    exact key.wk fun D σ H q => lc_read mc h3 σ H _ q
theorem lc2_read {X : Cx} {W : WX} {elt g it cond g1 it1 cond1 : Cd} {own : List Nat} (hs : (slotsG g).all (own.contains ·) = true) : ∀ (σ : L2.St) (H : Hp) (Q : VK), LE X.K cad W (sem call kw isa (.comp2 elt g it cond g1 it1 cond1 own)).e σ H Q →
    tLc2 (LI X.K cad W (sem call kw isa it).i) (LG X.K cad (slotsG g) (sem call kw isa g).g) (LT X.K cad (fun _ _ _ _ => False) (sem call kw isa cond).t) (LI X.K cad (fun _ _ _ _ => False) (sem call kw isa it1).i) (LG X.K cad (slotsG g1) (sem call kw isa g1).g) (LT X.K cad (fun _ _ _ _ => False) (sem call kw isa cond1).t) (LE X.K cad (fun _ _ _ _ => False) (sem call kw isa elt).e) own (slotsG g1) σ H Q := by
  intro σ H Q ⟨μ, G, env, R, q⟩
  have hS : ∀ j, j ∈ slotsG g → j ∈ own := fun j hj => by
    have := List.all_eq_true.mp hs j hj
    simpa using this
  refine LI.mk (sem_mono mc it) R q (fun J G1 q1 μ1 H1 J1 p1 k1 hr1 dl D hD => ?_) fun x G' z => z
  have hn : (μ1 ++ [D])[G1.length]? = some D := by rw [← hr1.len]; exact snoc_at μ1 D
  refine ⟨fun i m H' => ∃ (μ2 : List Addr) (G2 : Gh) (rest acc : List Dt), m = rest.length ∧ rest = J.items.drop i ∧ Pre (μ1 ++ [D]) μ2 ∧ KeepI (upd H1 D (.lst [])) H' ∧ HRel X.K cad H' μ2 G2 ∧
      compD2 (sem call kw isa g).g (sem call kw isa cond).t (sem call kw isa it1).i (sem call kw isa g1).g (sem call kw isa cond1).t (sem call kw isa elt).e J.watch own (slotsG g1) env G1.length rest acc G2 fun G2 => PostE X.K cad H μ Q (.ref G1.length) G2,
    ⟨J.items.length, μ1 ++ [D], G1 ++ [.lst []], J.items, [], rfl, rfl, Pre.refl _, KeepI.refl _, hr1.allocL hD (rpl_nil.mpr rfl), q1⟩, fun i m H' hW => ?_⟩
  obtain ⟨μ2, G2, rest, acc, em, er, p2, k2, hr2, q2⟩ := hW
  have p12 : Pre μ1 μ2 := (Pre.snoc μ1 D).trans p2
  have k12 : KeepI H1 H' := (KeepI.new hD).trans k2
  have hD2 : μ2[G1.length]? = some D := p2 _ _ hn
  cases rest with
  | nil =>
    obtain ⟨st, e1, q2⟩ := q2
    exact .inl ⟨(dl i H' μ2 G2 p12 k12 hr2 st).2 (drop_nil er), q2 μ2 _ H' (p1.trans p12) (k1.trans k12) hr2 (rp_ref.mpr ⟨D, hD2, rfl⟩)⟩
  | cons x xs =>
    obtain ⟨st, q2⟩ := q2
    obtain ⟨ei, er2⟩ := drop_cons er
    obtain ⟨go, yl⟩ := (dl i H' μ2 G2 p12 k12 hr2 st).1 x ei
    refine .inr ⟨go, fun H' => ∃ (μ2 : List Addr) (G2 : Gh) (acc : List Dt), Pre (μ1 ++ [D]) μ2 ∧ KeepI (upd H1 D (.lst [])) H' ∧ HRel X.K cad H' μ2 G2 ∧
      compD2 (sem call kw isa g).g (sem call kw isa cond).t (sem call kw isa it1).i (sem call kw isa g1).g (sem call kw isa cond1).t (sem call kw isa elt).e J.watch own (slotsG g1) env G1.length xs acc G2 fun G2 => PostE X.K cad H μ Q (.ref G1.length) G2, fun H'' ⟨μ3, G3, acc3, h1, h2, h3, h4⟩ => ⟨xs.length, by rw [em]; exact Nat.lt_succ_self _, μ3, G3, xs, acc3, rfl, er2, h1, h2, h3, h4⟩, fun xv H3 y => ?_⟩
    obtain ⟨k3, hr3, r3, _⟩ := yl xv H3 y
    have R3 : Rel X.K cad H3 μ2 G2 σ env := R.step (p1.trans p12) ((k1.trans k12).trans k3) hr3
    refine LG.mk (sem_mono mc g) (R3.wipe own) r3 q2 fun env1 Ga qa μ4 σ2 H4 p4 k4 R4 bt => ⟨wipe_but bt hS, ?_⟩
    refine LT.mk (sem_mono mc cond) R4 qa (fun b Gb qb μ5 H5 p5 k5 hr5 => ?_) fun x G' z => z.elim
    cases b with
    | false => exact ⟨μ5, Gb, acc, (p2.trans p4).trans p5, ((k2.trans k3).trans k4).trans k5, hr5, qb⟩
    | true =>
      rw [if_pos rfl]
      have R5 : Rel X.K cad H5 μ5 Gb σ2 env1 := R4.step p5 k5 hr5
      have p25 : Pre (μ1 ++ [D]) μ5 := (p2.trans p4).trans p5
      have k25 : KeepI (upd H1 D (.lst [])) H5 := ((k2.trans k3).trans k4).trans k5
      refine LI.mk (sem_mono mc it1) R5 qb (fun J2 G3 q3 μ6 H6 Jt p6 k6 hr6 dl1 => ?_) fun x G' z => z.elim
      refine ⟨fun j k H' => ∃ (μ7 : List Addr) (G7 : Gh) (rest1 acc1 : List Dt), k = rest1.length ∧ rest1 = J2.items.drop j ∧ Pre μ6 μ7 ∧ KeepI H6 H' ∧ HRel X.K cad H' μ7 G7 ∧
          compIn (sem call kw isa g1).g (sem call kw isa cond1).t (sem call kw isa elt).e J2.watch (slotsG g1) G1.length env1 rest1 acc1 G7 fun acc' G4 => compD2 (sem call kw isa g).g (sem call kw isa cond).t (sem call kw isa it1).i (sem call kw isa g1).g (sem call kw isa cond1).t (sem call kw isa elt).e J.watch own (slotsG g1) env G1.length xs acc' G4 fun G2 => PostE X.K cad H μ Q (.ref G1.length) G2,
        ⟨J2.items.length, μ6, G3, J2.items, acc, rfl, rfl, Pre.refl _, KeepI.refl _, hr6, q3⟩, fun j k H' hW => ?_⟩
      obtain ⟨μ7, G7, rest1, acc1, em1, er1, p7, k7, hr7, q7⟩ := hW
      have p57 : Pre μ5 μ7 := p6.trans p7
      have k57 : KeepI H5 H' := k6.trans k7
      have hD7 : μ7[G1.length]? = some D := p57 _ _ (p25 _ _ hn)
      cases rest1 with
      | nil =>
        obtain ⟨st1, q7⟩ := q7
        exact .inl ⟨(dl1 j H' μ7 G7 p7 k7 hr7 st1).2 (drop_nil er1), μ7, G7, acc1, p25.trans p57, k25.trans k57, hr7, q7⟩
      | cons x1 xs1 =>
        obtain ⟨st1, q7⟩ := q7
        obtain ⟨ei1, er12⟩ := drop_cons er1
        obtain ⟨go1, yl1⟩ := (dl1 j H' μ7 G7 p7 k7 hr7 st1).1 x1 ei1
        refine .inr ⟨go1, fun H' => ∃ (μ7 : List Addr) (G7 : Gh) (acc1 : List Dt), Pre μ6 μ7 ∧ KeepI H6 H' ∧ HRel X.K cad H' μ7 G7 ∧
          compIn (sem call kw isa g1).g (sem call kw isa cond1).t (sem call kw isa elt).e J2.watch (slotsG g1) G1.length env1 xs1 acc1 G7 fun acc' G4 => compD2 (sem call kw isa g).g (sem call kw isa cond).t (sem call kw isa it1).i (sem call kw isa g1).g (sem call kw isa cond1).t (sem call kw isa elt).e J.watch own (slotsG g1) env G1.length xs acc' G4 fun G2 => PostE X.K cad H μ Q (.ref G1.length) G2,
          fun H'' ⟨μ8, G8, acc8, h1, h2, h3, h4⟩ => ⟨xs1.length, by rw [em1]; exact Nat.lt_succ_self _, μ8, G8, xs1, acc8, rfl, er12, h1, h2, h3, h4⟩, fun xv1 H8 y1 => ?_⟩
        obtain ⟨k8, hr8, r8, _⟩ := yl1 xv1 H8 y1
        have R8 : Rel X.K cad H8 μ7 G7 σ2 env1 := R5.step p57 (k57.trans k8) hr8
        refine LG.mk (sem_mono mc g1) (R8.wipe (slotsG g1)) r8 q7 fun env9 G9 q9 μ9 σ9 H9 p9 k9 R9 bt9 => ⟨wipe_but bt9 fun _ z => z, ?_⟩
        refine LT.mk (sem_mono mc cond1) R9 q9 (fun b Gc qc μ10 H10 p10 k10 hr10 => ?_) fun x G' z => z.elim
        cases b with
        | false => exact ⟨μ10, Gc, acc1, (p7.trans p9).trans p10, ((k7.trans k8).trans k9).trans k10, hr10, qc⟩
        | true =>
          rw [if_pos rfl]
          refine LE.mk (sem_mono mc elt) (R9.step p10 k10 hr10) qc (fun d Gd ⟨e1, hz, qd⟩ μ11 v H11 p11 k11 hr11 r11 => ?_) fun x G' z => z.elim
          obtain ⟨a, vs, w1, w2, l⟩ := hr11.lst e1
          have hp : Pre μ6 μ11 := ((p7.trans p9).trans p10).trans p11
          have hp1 : Pre (μ1 ++ [D]) μ11 := (p25.trans p6).trans hp
          rw [hp1 _ _ hn] at w1
          cases w1
          exact ⟨vs, w2, by rw [← l.length]; exact hz, μ11, _, acc1 ++ [d], hp, ((((k7.trans k8).trans k9).trans k10).trans k11).trans (KeepI.lst w2), hr11.writeL (hp1 _ _ hn) e1 w2 (l.append (rpl_cons.mpr ⟨v, [], rfl, r11, rpl_nil.mpr rfl⟩)), qd⟩
theorem snd_comp2 {elt g it cond g1 it1 cond1 : Cd} {own : List Nat} (ie : Snd T call kw isa cad elt) (ig : Snd T call kw isa cad g) (ii : Snd T call kw isa cad it) (ic : Snd T call kw isa cad cond) (ig1 : Snd T call kw isa cad g1) (ii1 : Snd T call kw isa cad it1) (ic1 : Snd T call kw isa cad cond1) : Snd T call kw isa cad (.comp2 elt g it cond g1 it1 cond1 own) where
  e := fun X W ok ex h => by
    unfold mat at h
    dsimp only at h
    split at h <;> try (cases h; done)
    rename_i x tg iter ifs tg1 iter1 ifs1 scope pos
    obtain ⟨h, hh⟩ := b2 h
    have calm := ok.calm (notHot hh)
    obtain ⟨h, h13⟩ := b2 h
    obtain ⟨h, h12⟩ := b2 h
    obtain ⟨h, h11⟩ := b2 h
    obtain ⟨h, h10⟩ := b2 h
    obtain ⟨h, h9⟩ := b2 h
    obtain ⟨h, h8⟩ := b2 h
    obtain ⟨h, h7⟩ := b2 h
    obtain ⟨h, h6⟩ := b2 h
    obtain ⟨h, h5⟩ := b2 h
    obtain ⟨h, h4⟩ := b2 h
    obtain ⟨h, h3⟩ := b2 h
    obtain ⟨h1, h2⟩ := b2 h
    have eo := of_decide_eq_true h2
    have hv : ∀ i ∈ slotsG g1, i ∈ (ownP X.N own).map (·.2) := fun i hi => by
      have := List.all_eq_true.mp h9 i hi
      rw [eo]
      simpa using this
    have key := pe_lc2 (own := ownP X.N own) (vs1 := slotsG g1) (pos := pos) (elt := x) (g := LG X.K cad (slotsG g) (sem call kw isa g).g) (tt := LT X.K cad (fun _ _ _ _ => False) (sem call kw isa cond).t) (wi1 := LI X.K cad (fun _ _ _ _ => False) (sem call kw isa it1).i) (g1 := LG X.K cad (slotsG g1) (sem call kw isa g1).g) (tt1 := LT X.K cad (fun _ _ _ _ => False) (sem call kw isa cond1).t) (te := LE X.K cad (fun _ _ _ _ => False) (sem call kw isa elt).e) calm ok.nd (ii.i X W ok tg iter h4) (blkOk_by h1) hv (fun s H C cl fp => ig.g _ _ (ok.blk s H scope (compEnvC scope cl C X.env) fp) tg h6)
      (fun s H C cl fp => ic.c _ _ (ok.blk s H scope (compEnvC scope cl C X.env) fp) ifs h7) (fun s H C cl fp => ii1.i _ _ (ok.blk s H scope (compEnvC scope cl C X.env) fp) tg1 iter1 h10) (fun s H C cl fp => ig1.g _ _ (ok.blk s H scope (compEnvC scope cl C X.env) fp) tg1 h12) (fun s H C cl fp => ic1.c _ _ (ok.blk s H scope (compEnvC scope cl C X.env) fp) ifs1 h13) (fun s H C cl fp => ie.e _ _ (ok.blk s H scope (compEnvC scope cl C X.env) fp) x h8) (fold_of h5) (fun env => fold_of (env := env) h11)
    rw [eo] at key
    exact key.wk (lc2_read mc h3)
  lc := fun X W ok x gens scope pos y py i spos hi hs h => by
    unfold mat at h
    dsimp only at h
    split at h <;> try (cases h; done)
    rename_i ex1 tg iter ifs tg1 iter1 ifs1 scope1 pos1 eg
    injection eg with eg1 eg2 eg3 eg4
    subst eg1 eg2 eg3 eg4
    obtain ⟨h, hh⟩ := b2 h
    have calm := ok.calm (notHot hh)
    obtain ⟨h, h13⟩ := b2 h
    obtain ⟨h, h12⟩ := b2 h
    obtain ⟨h, h11⟩ := b2 h
    obtain ⟨h, h10⟩ := b2 h
    obtain ⟨h, h9⟩ := b2 h
    obtain ⟨h, h8⟩ := b2 h
    obtain ⟨h, h7⟩ := b2 h
    obtain ⟨h, h6⟩ := b2 h
    obtain ⟨h, h5⟩ := b2 h
    obtain ⟨h, h4⟩ := b2 h
    obtain ⟨h, h3⟩ := b2 h
    obtain ⟨h1, h2⟩ := b2 h
    have eo := of_decide_eq_true h2
    have hv : ∀ i ∈ slotsG g1, i ∈ (ownP X.N own).map (·.2) := fun i hi => by
      have := List.all_eq_true.mp h9 i hi
      rw [eo]
      simpa using this
    unfold swLc at hs
    obtain ⟨hs, s4⟩ := b2 hs
    obtain ⟨hs, s3⟩ := b2 hs
    obtain ⟨s1, s2⟩ := b2 hs
    have hk : X.env.scope.kind = .function := by
      split at s1
      · rename_i e; exact e
      · cases s1
    have hy := of_decide_eq_true s2
    rw [Bool.not_eq_true'] at s4
    have key := ps_setLc2 (own := ownP X.N own) (vs1 := slotsG g1) (spos := spos) calm ok.nd hi hy (sw_true hk hy s3 s4) (elt := x) (g := LG X.K cad (slotsG g) (sem call kw isa g).g) (tt := LT X.K cad (fun _ _ _ _ => False) (sem call kw isa cond).t) (wi1 := LI X.K cad (fun _ _ _ _ => False) (sem call kw isa it1).i) (g1 := LG X.K cad (slotsG g1) (sem call kw isa g1).g) (tt1 := LT X.K cad (fun _ _ _ _ => False) (sem call kw isa cond1).t) (te := LE X.K cad (fun _ _ _ _ => False) (sem call kw isa elt).e) (ii.i X W ok tg iter h4) (blkOk_by h1) hv (fun s H C cl fp => ig.g _ _ (ok.blk s H scope (compEnvC scope cl C X.env) fp) tg h6)
      (fun s H C cl fp => ic.c _ _ (ok.blk s H scope (compEnvC scope cl C X.env) fp) ifs h7) (fun s H C cl fp => ii1.i _ _ (ok.blk s H scope (compEnvC scope cl C X.env) fp) tg1 iter1 h10) (fun s H C cl fp => ig1.g _ _ (ok.blk s H scope (compEnvC scope cl C X.env) fp) tg1 h12) (fun s H C cl fp => ic1.c _ _ (ok.blk s H scope (compEnvC scope cl C X.env) fp) ifs1 h13) (fun s H C cl fp => ie.e _ _ (ok.blk s H scope (compEnvC scope cl C X.env) fp) x h8) (fold_of h5) (fun env => fold_of (env := env) h11)
    rw [eo] at key
    exact key.wk fun D σ H q => lc2_read mc h3 σ H _ q
end
end
end Wm

namespace Wm
open PySem PySem.Spec PyProof.Rows L2
theorem sw_of {ts vs : List Expr} {k k2 : Nat} {p p2 : Pos} {env : Env} {r : Option (List Str)} (hk : env.scope.kind = .function) (h : swN ts vs env.scope = some r) : swappedStores [.Tuple ts k p] (.Tuple vs k2 p2) env = pure r := by
  have hb : env.blockKind = .function := by unfold Env.blockKind; rw [hk]; rfl
  unfold swN at h
  unfold swappedStores
  split at h
  · cases h
    rename_i hc
    have hc2 : (!(ts.length == 2 || ts.length == 3) || vs.length != ts.length || env.blockKind != .function) = true := by rw [hc]; rfl
    simp only [hc2]
    rfl
  · rename_i hc
    have hc2 : (!(ts.length == 2 || ts.length == 3) || vs.length != ts.length || env.blockKind != .function) = false := by
      rw [hb]
      simpa using hc
    simp only [hc2]
    rw [if_neg Bool.false_ne_true]
    split at h
    · rename_i hs
      cases h
      exact if_pos hs
    · rename_i hs
      refine (if_neg hs).trans ?_
      change (if ((ts.filterMap (locLine env.scope ((ts.head?.map (·.pos.line)).getD 0))).length != ts.length || (ts.filterMap (locLine env.scope ((ts.head?.map (·.pos.line)).getD 0))).eraseDups.length != (ts.filterMap (locLine env.scope ((ts.head?.map (·.pos.line)).getD 0))).length) = true then some none
        else if vs.all (foldedForSure 8) = true then some none else if vs.all (constantsAlone 8) = true then none else some (some (ts.filterMap (locLine env.scope ((ts.head?.map (·.pos.line)).getD 0))))) = some r at h
      change (if ((ts.filterMap (locLine env.scope ((ts.head?.map (·.pos.line)).getD 0))).length != ts.length || (ts.filterMap (locLine env.scope ((ts.head?.map (·.pos.line)).getD 0))).eraseDups.length != (ts.filterMap (locLine env.scope ((ts.head?.map (·.pos.line)).getD 0))).length) = true then (pure none : Sem (Option (List Str)))
        else if vs.all (foldedForSure 8) = true then pure none else if vs.all (constantsAlone 8) = true then _ else pure (some (ts.filterMap (locLine env.scope ((ts.head?.map (·.pos.line)).getD 0))))) = pure r
      split at h
      · rename_i h1
        cases h
        rw [if_pos h1]
      · rename_i h1
        rw [if_neg h1]
        split at h
        · rename_i h2
          cases h
          rw [if_pos h2]
        · rename_i h2
          rw [if_neg h2]
          split at h
          · cases h
          · rename_i h3
            cases h
            rw [if_neg h3]
theorem asg_of {tg v : Expr} {l : Nat} {env : Env} (hk : env.scope.kind = .function) (h : plainAsg env.scope tg v = true) (hs : notStar tg = true) : swapsWithSole [tg] v l env = pure false ∧ swappedStores [tg] v env = pure none ∧ (assignEach [tg] env).map (·.2) = [assign tg env] := by
  refine ⟨?_, ?_, by rw [assign_of hs]; rfl⟩
  · cases tg with
    | Name x p =>
      have hq : notComp v = true ∨ env.scope.names.lookup x = some .cell := by
        rcases Bool.or_eq_true_iff.mp (show (notComp v || decide (env.scope.names.lookup x = some .cell)) = true from h) with h | h
        · exact .inl h
        · exact .inr (of_decide_eq_true h)
      rcases hq with hq | hq
      · cases v <;> first | rfl | cases hq
      · have ky : env.kindOf x = some .cell := hq
        have hb : env.blockKind = .function := by unfold Env.blockKind; rw [hk]; rfl
        cases v <;> first | rfl | (unfold swapsWithSole swapsWith; simp only [hb, ky]; rfl)
    | Starred _ _ => cases hs
    | _ => cases v <;> rfl
  · cases tg with
    | Tuple ts k p =>
      cases v with
      | Tuple vs k2 p2 =>
        have h : (match swN ts vs env.scope with | some none => true | _ => false) = true := h
        split at h
        · rename_i e
          exact sw_of hk e
        · cases h
      | _ => rfl
    | List ts p =>
      cases v with
      | Tuple vs k2 p2 => cases h
      | _ => rfl
    | _ => cases v <;> rfl
section
variable {T : Tab} {call : CallT} {kw : Nat → List Dt → List Str → List Dt → List Dt} {isa : Nat → Nat → Bool} {cad : Cad}
theorem snd_retn : Snd T call kw isa cad .retn where
  s := fun X W ok ow hk ex h => by
    unfold mat at h
    dsimp only at h
    split at h <;> try (cases h; done)
    exact ps_retN.wk fun D σ H ⟨μ, G, env, R, q⟩ => PostE.now q R.h (rp_non.mpr rfl)
theorem snd_pass : Snd T call kw isa cad .pass where
  s := fun X W ok ow hk ex h => by
    unfold mat at h
    dsimp only at h
    split at h <;> try (cases h; done)
    exact ps_pass.wk fun D σ H ⟨μ, G, env, R, q⟩ => q μ σ H (Pre.refl _) (KeepI.refl _) R
theorem snd_brk : Snd T call kw isa cad .brk where
  s := fun X W ok ow hk ex h => by
    unfold mat at h
    dsimp only at h
    split at h <;> try (cases h; done)
    exact ps_break.wk fun D σ H ⟨μ, G, env, R, q⟩ => q μ σ H (Pre.refl _) (KeepI.refl _) R
theorem snd_cnt : Snd T call kw isa cad .cnt where
  s := fun X W ok ow hk ex h => by
    unfold mat at h
    dsimp only at h
    split at h <;> try (cases h; done)
    exact ps_continue.wk fun D σ H ⟨μ, G, env, R, q⟩ => q μ σ H (Pre.refl _) (KeepI.refl _) R
theorem snd_raise {c : Nat} : Snd T call kw isa cad (.raise c) where
  s := fun X W ok ow hk ex h => by
    unfold mat at h
    dsimp only at h
    split at h <;> try (cases h; done)
    rename_i x p m j p2 p3 p4
    obtain ⟨h, hh⟩ := b2 h
    have calm := ok.calm (notHot hh)
    obtain ⟨h1, h2⟩ := b2 h
    obtain ⟨g1, g2⟩ := glo_of h2
    obtain ⟨k, rm, tk, _⟩ := ok.ex
    obtain ⟨hm, e1, e2, e3, e4, e5⟩ := tk.cls x c (by simpa using h1)
    refine (ps_raise calm ok.tk (pmk_own PySem.F.excBase_ValueError e1 hm e2 (raises_own e3 e4) g1 g2)).wk fun D σ H ⟨μ, G, env, R, q⟩ => ?_
    exact q μ σ H _ _ (Pre.refl _) (KeepI.refl _) R ⟨rfl, rfl, e5⟩
/-- an exception out of an expression of a statement -/
theorem xc_of {K : PySem.W.Frag} {H : Hp} {μ : List Addr} {G : Gh} {σ : L2.St} {env : En} {D : Ends} {W : WX} (R : Rel K cad H μ G σ env) {x : Xc} {G' : Gh} (z : (PostK K cad H μ D W).xc x env G') : PostX K cad H μ (fun cls d H' => W cls d σ H') x G' :=
  fun μ' H' cls d p k hr rx => z μ' σ H' cls d p k (R.step p k hr) rx
section
variable (mc : MonoC call)
include mc
theorem snd_ret {e : Cd} (ie : Snd T call kw isa cad e) : Snd T call kw isa cad (.ret e) where
  s := fun X W ok ow hk ex h => by
    unfold mat at h
    dsimp only at h
    split at h <;> try (cases h; done)
    rename_i x pos
    refine (ps_ret (ie.e X W ok x h)).wk fun D σ H ⟨μ, G, env, R, q⟩ => ?_
    exact LE.mk (sem_mono mc e) R q (fun d G1 q1 => q1) fun x G' z => xc_of R z
theorem snd_expr {e : Cd} (ie : Snd T call kw isa cad e) : Snd T call kw isa cad (.expr e) where
  s := fun X W ok ow hk ex h => by
    unfold mat at h
    dsimp only at h
    split at h <;> try (cases h; done)
    rename_i x pos
    obtain ⟨h1, h2⟩ := b2 h
    have hs : swapsWith x none pos.line X.env = pure false := by cases x <;> first | rfl | cases h2
    refine (ps_expr (ie.e X W ok x h1) hs).wk fun D σ H ⟨μ, G, env, R, q⟩ => ?_
    exact LE.mk (sem_mono mc e) R q (fun d G1 q1 μ1 v1 H1 p1 k1 hr1 r1 => q1 μ1 σ H1 p1 k1 (R.step p1 k1 hr1)) fun x G' z => xc_of R z
theorem LS.step {K : PySem.W.Frag} {W : WX} {s : Sm} (m : MonoS s) {H H1 : Hp} {μ μ1 : List Addr} {G1 : Gh} {σ : L2.St} {env : En} {D : Ends} (p1 : Pre μ μ1) (k1 : KeepI H H1) (R1 : Rel K cad H1 μ1 G1 σ env) (q : s.s env G1 (PostK K cad H μ D W)) : LS K cad W s.s D σ H1 :=
  ⟨μ1, G1, env, R1, m.s (K := PostK K cad H μ D W) (fun e G2 z => PostS.step p1 k1 z) (fun d G2 z => PostE.step p1 k1 z) (fun e G2 z => PostS.step p1 k1 z) (fun e G2 z => PostS.step p1 k1 z) (fun x e G2 z μ2 σ2 H2 cls d p2 k2 R2 rx => z μ2 σ2 H2 cls d (p1.trans p2) (k1.trans k2) R2 rx) q⟩
theorem snd_seq {a b : Cd} (ia : Snd T call kw isa cad a) (ib : Snd T call kw isa cad b) : Snd T call kw isa cad (.seq a b) where
  b := fun X W ok ow hk ex h => by
    cases ex with
    | nil => cases h
    | cons x xs =>
      obtain ⟨h1, h2⟩ := b2 (show ((mat T X.N a X.env.scope X.fn).s x && (mat T X.N b X.env.scope X.fn).b xs) = true from h)
      refine (pss_cons (ia.s X W ok ow hk x h1) (ib.b X W ok ow hk xs h2)).wk fun D σ H ⟨μ, G, env, R, q⟩ => ?_
      exact ⟨μ, G, env, R, (sem_mono mc a).s (K := { PostK X.K cad H μ D W with nx := fun env1 G1 => (sem call kw isa b).s env1 G1 (PostK X.K cad H μ D W) }) (fun e G1 q1 μ1 σ1 H1 p1 k1 R1 => LS.step mc (sem_mono mc b) p1 k1 R1 q1) (fun _ _ z => z) (fun _ _ z => z) (fun _ _ z => z) (fun _ _ _ z => z) q⟩
theorem snd_ife {c a b : Cd} (ic : Snd T call kw isa cad c) (ia : Snd T call kw isa cad a) (ib : Snd T call kw isa cad b) : Snd T call kw isa cad (.ife c a b) where
  s := fun X W ok ow hk ex h => by
    unfold mat at h
    dsimp only at h
    split at h <;> try (cases h; done)
    rename_i z x y pos
    obtain ⟨h, h3⟩ := b2 h
    obtain ⟨h1, h2⟩ := b2 h
    refine (ps_if (ic.t X W ok z h1) (ia.b X W ok ow hk x h2) (ib.b X W ok ow hk y h3)).wk fun D σ H ⟨μ, G, env, R, q⟩ => ?_
    refine LT.mk (sem_mono mc c) R q (fun k G1 q1 μ1 H1 p1 k1 hr1 => ?_) fun x G' z => xc_of R z
    cases k with
    | true => exact LS.step mc (sem_mono mc a) p1 k1 (R.step p1 k1 hr1) q1
    | false => exact LS.step mc (sem_mono mc b) p1 k1 (R.step p1 k1 hr1) q1
theorem snd_asg {g e : Cd} (ig : Snd T call kw isa cad g) (ie : Snd T call kw isa cad e) (par : ∀ (X : Cx) (W : WX), Cok T call kw isa cad X W → X.env.scope.kind = .function → ∀ tg v pos, (mat T X.N g X.env.scope X.fn).g tg = true → (mat T X.N e X.env.scope X.fn).e v = true → notStar tg = true → plainAsg X.env.scope tg v = false → (mat T X.N (.asg g e) X.env.scope X.fn).s (.Assign [tg] v pos) = true → PS X (.Assign [tg] v pos) (LS X.K cad W (sem call kw isa (.asg g e)).s)) : Snd T call kw isa cad (.asg g e) where
  s := fun X W ok ow hk ex h => by
    have h0 := h
    unfold mat at h
    dsimp only at h
    split at h <;> try (cases h; done)
    rename_i tg v pos
    obtain ⟨h, h4⟩ := b2 h
    obtain ⟨h, h3⟩ := b2 h
    obtain ⟨h1, h2⟩ := b2 h
    cases hp : plainAsg X.env.scope tg v with
    | true =>
      obtain ⟨s1, s2, s3⟩ := asg_of (l := pos.line) hk hp h3
      refine (ps_asg (ie.e X W ok v h2) (ig.g X W ok tg h1) s1 s2 s3).wk fun D σ H ⟨μ, G, env, R, q⟩ => ?_
      exact LE.mk (sem_mono mc e) R q (fun d G1 q1 μ1 v1 H1 p1 k1 hr1 r1 => LG.mk (sem_mono mc g) (R.step p1 k1 hr1) r1 q1 fun env' G' z μ2 σ2 H2 p2 k2 R2 bt => z μ2 σ2 H2 (p1.trans p2) (k1.trans k2) R2) fun x G' z => xc_of R z
    | false => exact par X W ok hk tg v pos h1 h2 h3 hp h0
theorem asg2_of {t1 t2 v : Expr} {env : Env} (h1 : notStar t1 = true) (h2 : notStar t2 = true) : (assignEach [t1, t2] env).map (·.2) = [assign t1 env, assign t2 env] := by
  rw [assign_of h1, assign_of h2]
  rfl
theorem snd_asg2 {g h e : Cd} (ig : Snd T call kw isa cad g) (ih : Snd T call kw isa cad h) (ie : Snd T call kw isa cad e) : Snd T call kw isa cad (.asg2 g h e) where
  s := fun X W ok ow hk ex hx => by
    unfold mat at hx
    dsimp only at hx
    split at hx <;> try (cases hx; done)
    rename_i t1 t2 v pos
    obtain ⟨hx, h5⟩ := b2 hx
    obtain ⟨hx, h4⟩ := b2 hx
    obtain ⟨hx, h3⟩ := b2 hx
    obtain ⟨h1, h2⟩ := b2 hx
    refine (ps_asg2 (ie.e X W ok v h3) (ig.g X W ok t1 h1) (ih.g X W ok t2 h2) (asg2_of mc (v := v) h4 h5) (by cases t1 <;> rfl)).wk fun D σ H ⟨μ, G, env, R, q⟩ => ?_
    refine LE.mk (sem_mono mc e) R q (fun d G1 q1 μ1 v1 H1 p1 k1 hr1 r1 => ?_) fun x G' z => xc_of R z
    refine LG.mk (sem_mono mc g) (R.step p1 k1 hr1) r1 q1 fun env2 G2 q2 μ2 σ2 H2 p2 k2 R2 bt => ?_
    exact LG.mk (sem_mono mc h) R2 (r1.mono k2 p2) q2 fun env3 G3 q3 μ3 σ3 H3 p3 k3 R3 bt3 => q3 μ3 σ3 H3 ((p1.trans p2).trans p3) ((k1.trans k2).trans k3) R3
theorem asg3_of {t1 t2 t3 v : Expr} {env : Env} (h1 : notStar t1 = true) (h2 : notStar t2 = true) (h3 : notStar t3 = true) : (assignEach [t1, t2, t3] env).map (·.2) = [assign t1 env, assign t2 env, assign t3 env] := by
  rw [assign_of h1, assign_of h2, assign_of h3]
  rfl
theorem snd_asg3 {g h i e : Cd} (ig : Snd T call kw isa cad g) (ih : Snd T call kw isa cad h) (ii : Snd T call kw isa cad i) (ie : Snd T call kw isa cad e) : Snd T call kw isa cad (.asg3 g h i e) where
  s := fun X W ok ow hk ex hx => by
    unfold mat at hx
    dsimp only at hx
    split at hx <;> try (cases hx; done)
    rename_i t1 t2 t3 v pos
    obtain ⟨hx, h7⟩ := b2 hx
    obtain ⟨hx, h6⟩ := b2 hx
    obtain ⟨hx, h5⟩ := b2 hx
    obtain ⟨hx, h4⟩ := b2 hx
    obtain ⟨hx, h3⟩ := b2 hx
    obtain ⟨h1, h2⟩ := b2 hx
    refine (ps_asg3 (ie.e X W ok v h4) (ig.g X W ok t1 h1) (ih.g X W ok t2 h2) (ii.g X W ok t3 h3) (asg3_of mc (v := v) h5 h6 h7) (by cases t1 <;> rfl)).wk fun D σ H ⟨μ, G, env, R, q⟩ => ?_
    refine LE.mk (sem_mono mc e) R q (fun d G1 q1 μ1 v1 H1 p1 k1 hr1 r1 => ?_) fun x G' z => xc_of R z
    refine LG.mk (sem_mono mc g) (R.step p1 k1 hr1) r1 q1 fun env2 G2 q2 μ2 σ2 H2 p2 k2 R2 bt => ?_
    refine LG.mk (sem_mono mc h) R2 (r1.mono k2 p2) q2 fun env3 G3 q3 μ3 σ3 H3 p3 k3 R3 bt3 => ?_
    exact LG.mk (sem_mono mc i) R3 (r1.mono (k2.trans k3) (p2.trans p3)) q3 fun env4 G4 q4 μ4 σ4 H4 p4 k4 R4 bt4 => q4 μ4 σ4 H4 (((p1.trans p2).trans p3).trans p4) (((k1.trans k2).trans k3).trans k4) R4
theorem snd_aug {i : Nat} {o : Op2} {e : Cd} (ie : Snd T call kw isa cad e) : Snd T call kw isa cad (.aug i o e) where
  s := fun X W ok ow hk ex h => by
    unfold mat at h
    dsimp only at h
    split at h <;> try (cases h; done)
    rename_i x p op v pos
    obtain ⟨h, h5⟩ := b2 h
    obtain ⟨h, h4⟩ := b2 h
    obtain ⟨h, h3⟩ := b2 h
    obtain ⟨h1, h2⟩ := b2 h
    have eo : op = o.py := by simpa using h2
    subst eo
    obtain ⟨l1, l2⟩ := loc_of h4
    have ip : PIp X o.py (rD X.K cad (augD o)) := iop2_ok o h1
    refine (ps_aug (i := i) ok.nd (by simpa using h3) l1 (ie.e X W ok v h5) ip l2).wk fun D σ H ⟨μ, G, env, R, x, ex, q⟩ => ?_
    obtain ⟨w, e1, r⟩ := R.var i x ex
    refine ⟨w, e1, LE.mk (sem_mono mc e) R q (fun d G1 q1 μ1 v1 H1 p1 k1 hr1 r1 => ?_) fun x G' z => xc_of R z⟩
    exact ⟨μ1, G1, x, d, hr1, r.mono k1 p1, r1, augD_mono (fun d2 G2 z μ2 v2 H2 p2 k2 hr2 r2 => z μ2 _ H2 (p1.trans p2) (k1.trans k2) ((R.step (p1.trans p2) (k1.trans k2) hr2).set r2)) q1⟩
theorem snd_whl {c b : Cd} (ic : Snd T call kw isa cad c) (ib : Snd T call kw isa cad b) : Snd T call kw isa cad (.whl c b) where
  s := fun X W ok ow hk ex h => by
    unfold mat at h
    dsimp only at h
    split at h <;> try (cases h; done)
    rename_i z x pos
    obtain ⟨h1, h2⟩ := b2 h
    refine (ps_while ow.1 (ic.t X W ok z h1) (ib.b X W ok ow hk x h2)).wk fun D σ H ⟨μ, G, env, R, n, q⟩ => ?_
    refine ⟨fun m σ' H' => ∃ (μ' : List Addr) (G' : Gh) (env' : En), Pre μ μ' ∧ KeepI H H' ∧ Rel X.K cad H' μ' G' σ' env' ∧ whileN (sem call kw isa c).t (sem call kw isa b).s m env' G' (PostK X.K cad H μ D W), ⟨n, μ, G, env, Pre.refl _, KeepI.refl _, R, q⟩, fun m σ' H' hw => ?_⟩
    obtain ⟨μ', G', env', p, k, R', q'⟩ := hw
    cases m with
    | zero => exact q'.elim
    | succ m =>
      refine LT.mk (sem_mono mc c) R' q' (fun b1 G1 q1 μ1 H1 p1 k1 hr1 => ?_) fun x G2 z μ2 H2 cls d p2 k2 hr2 rx => z μ2 σ' H2 cls d (p.trans p2) (k.trans k2) (R'.step p2 k2 hr2) rx
      cases b1 with
      | false => exact q1 μ1 σ' H1 (p.trans p1) (k.trans k1) (R'.step p1 k1 hr1)
      | true =>
        refine ⟨fun σ2 H2 => ∃ (μ' : List Addr) (G' : Gh) (env' : En), Pre μ μ' ∧ KeepI H H2 ∧ Rel X.K cad H2 μ' G' σ2 env' ∧ whileN (sem call kw isa c).t (sem call kw isa b).s m env' G' (PostK X.K cad H μ D W), fun σ2 H2 hn => ⟨m, Nat.lt_succ_self _, hn⟩, ?_⟩
        have pp := p.trans p1
        have kk := k.trans k1
        refine ⟨μ1, G1, env', R'.step p1 k1 hr1, (sem_mono mc b).s (K := { PostK X.K cad H μ D W with nx := fun env2 G2 => whileN (sem call kw isa c).t (sem call kw isa b).s m env2 G2 (PostK X.K cad H μ D W), ct := fun env2 G2 => whileN (sem call kw isa c).t (sem call kw isa b).s m env2 G2 (PostK X.K cad H μ D W), bk := (PostK X.K cad H μ D W).nx }) (fun e G2 z μ2 σ2 H2 p2 k2 R2 => ⟨μ2, G2, e, pp.trans p2, kk.trans k2, R2, z⟩) (fun d G2 z => PostE.step pp kk z) (fun e G2 z => PostS.step pp kk z) (fun e G2 z μ2 σ2 H2 p2 k2 R2 => ⟨μ2, G2, e, pp.trans p2, kk.trans k2, R2, z⟩) (fun x e G2 z μ2 σ2 H2 cls d p2 k2 R2 rx => z μ2 σ2 H2 cls d (pp.trans p2) (kk.trans k2) R2 rx) q1⟩
theorem snd_forr {g it b : Cd} (ig : Snd T call kw isa cad g) (ii : Snd T call kw isa cad it) (ib : Snd T call kw isa cad b) : Snd T call kw isa cad (.forr g it b) where
  s := fun X W ok ow hk ex h => by
    unfold mat at h
    dsimp only at h
    split at h <;> try (cases h; done)
    rename_i tg iter x pos
    obtain ⟨h, hh⟩ := b2 h
    have calm := ok.calm (notHot hh)
    obtain ⟨h, h4⟩ := b2 h
    obtain ⟨h, h3⟩ := b2 h
    obtain ⟨h1, h2⟩ := b2 h
    refine (ps_for ow.1 calm (ii.i X W ok tg iter h1) (ig.g X W ok tg h2) (ib.b X W ok ow hk x h3) (fold_of h4)).wk fun D σ H ⟨μ, G, env, R, q⟩ => ?_
    refine LI.mk (sem_mono mc it) R q (fun J G1 q1 μ1 H1 J1 p1 k1 hr1 dl => ?_) fun x G' z => xc_of R z
    refine ⟨fun i m σ' H' => ∃ (μ' : List Addr) (G' : Gh) (env' : En) (rest : List Dt), m = rest.length ∧ rest = J.items.drop i ∧ Pre μ1 μ' ∧ KeepI H1 H' ∧ Rel X.K cad H' μ' G' σ' env' ∧ forD (sem call kw isa g).g (sem call kw isa b).s J.watch rest env' G' (PostK X.K cad H μ D W),
      ⟨J.items.length, μ1, G1, env, J.items, rfl, rfl, Pre.refl _, KeepI.refl _, R.step p1 k1 hr1, q1⟩, fun i m σ' H' hw => ?_⟩
    obtain ⟨μ', G', env', rest, em, er, p, k, R', q'⟩ := hw
    cases rest with
    | nil =>
      obtain ⟨st, q'⟩ := q'
      exact .inl ⟨(dl i H' μ' G' p k R'.h st).2 (drop_nil er), q' μ' σ' H' (p1.trans p) (k1.trans k) R'⟩
    | cons d ds =>
      obtain ⟨st, q'⟩ := q'
      obtain ⟨ei, er2⟩ := drop_cons er
      obtain ⟨go, yl⟩ := (dl i H' μ' G' p k R'.h st).1 d ei
      refine .inr ⟨go, fun σ2 H2 => ∃ (μ' : List Addr) (G' : Gh) (env' : En), Pre μ1 μ' ∧ KeepI H1 H2 ∧ Rel X.K cad H2 μ' G' σ2 env' ∧ forD (sem call kw isa g).g (sem call kw isa b).s J.watch ds env' G' (PostK X.K cad H μ D W),
        fun σ2 H2 ⟨μ3, G3, env3, a1, a2, a3, a4⟩ => ⟨ds.length, by rw [em]; exact Nat.lt_succ_self _, μ3, G3, env3, ds, rfl, er2, a1, a2, a3, a4⟩, fun xv H3 y => ?_⟩
      obtain ⟨k3, hr3, r3, _⟩ := yl xv H3 y
      refine LG.mk (sem_mono mc g) (R'.step (Pre.refl _) k3 hr3) r3 q' fun env1 Ga qa μ4 σ4 H4 p4 k4 R4 bt => ?_
      have pp := p.trans p4
      have kk := (k.trans k3).trans k4
      exact ⟨μ4, Ga, env1, R4, (sem_mono mc b).s (K := { PostK X.K cad H μ D W with nx := fun env2 G2 => forD (sem call kw isa g).g (sem call kw isa b).s J.watch ds env2 G2 (PostK X.K cad H μ D W), ct := fun env2 G2 => forD (sem call kw isa g).g (sem call kw isa b).s J.watch ds env2 G2 (PostK X.K cad H μ D W), bk := (PostK X.K cad H μ D W).nx }) (fun e G2 z μ2 σ2 H2 p2 k2 R2 => ⟨μ2, G2, e, pp.trans p2, kk.trans k2, R2, z⟩) (fun d G2 z => PostE.step (p1.trans pp) (k1.trans kk) z) (fun e G2 z => PostS.step (p1.trans pp) (k1.trans kk) z) (fun e G2 z μ2 σ2 H2 p2 k2 R2 => ⟨μ2, G2, e, pp.trans p2, kk.trans k2, R2, z⟩) (fun x e G2 z μ2 σ2 H2 cls d p2 k2 R2 rx => z μ2 σ2 H2 cls d ((p1.trans pp).trans p2) ((k1.trans kk).trans k2) R2 rx) qa⟩
end
end
end Wm

namespace Wm
open PySem PySem.Spec PyProof.Rows L2
/-! ### instances: attributes, methods, new ones; more of built-ins -/
theorem rpl_rev {K : PySem.W.Frag} {H : Hp} {μ : List Addr} : ∀ {ds : List Dt} {vs : List V}, RpL K H μ ds vs → RpL K H μ ds.reverse vs.reverse
  | [], vs, h => by
    rw [rpl_nil] at h
    subst h
    exact rpl_nil.mpr rfl
  | d :: ds, vs, h => by
    obtain ⟨v, r, rfl, h1, h2⟩ := rpl_cons.mp h
    rw [List.reverse_cons, List.reverse_cons]
    exact (rpl_rev h2).append (rpl_cons.mpr ⟨_, _, rfl, h1, rpl_nil.mpr rfl⟩)
section
variable {X : Cx}
/-- o.f as a target -/
theorem pg_fld {o : Expr} {f : Str} {pos : Pos} {ta : TE} (ho : PE X o ta) : PG X (.Attribute o f pos) (fun v σ H Q => ta σ H fun x H1 => ∃ a C dx fs, x = .ref a ∧ H1 a = some (.ins C dx fs) ∧ Cls X.K C ∧ NoAttr X.K C f ∧ fs.length < 1000 ∧ Q σ (upd H1 a (.ins C dx (putF f v fs)))) := by
  refine ⟨fun pns st sg Hh v u Qq Iv rv hh => ?_⟩
  rw [arm_assign_Attribute]
  refine wpAny_bind (wpAny_holding (thn (ho.run pns st sg Hh _ Iv hh) fun ov s1 ⟨x, H1, I1, rx, a, C, dx, fs, ex, ea, c, n, l, q⟩ => ?_))
  subst ex
  obtain rfl : ov = Value.ref a := rx
  refine wpAny_bind (wpAny_standAt (wpAny_bind (wpAny_holding (setattr_ok I1 ea c n l rv fun s2 I2 => ?_))))
  exact wpAny_release ⟨sg, _, I2, q⟩
end
section
variable {T : Tab} {call : CallT} {kw : Nat → List Dt → List Str → List Dt → List Dt} {isa : Nat → Nat → Bool} {cad : Cad}
variable (mc : MonoC call)
include mc
theorem snd_dead : Snd T call kw isa cad .dead where
  s := fun X W ok ow hk ex h => ⟨fun pns st sg Hh D Iv hh => by
    obtain ⟨μ, G, env, R, q⟩ := hh
    exact q.elim⟩
theorem snd_attr {c : Nat} {o : Cd} {f : Str} (io : Snd T call kw isa cad o) : Snd T call kw isa cad (.attr c o f) where
  e := fun X W ok ex h => by
    unfold mat at h
    dsimp only at h
    split at h <;> try (cases h; done)
    rename_i x n pos
    obtain ⟨h, h4⟩ := b2 h
    obtain ⟨h, h3⟩ := b2 h
    obtain ⟨h1, h2⟩ := b2 h
    have en := eqs h1
    subst en
    refine (pe_fld (io.e X W ok x h3) (base_of h4)).wk fun σ H Q ⟨μ, G, env, R, q⟩ => ?_
    refine LE.mk (sem_mono mc o) R q (fun d G1 ⟨m, fs, ed, eg, v, el, q1⟩ μ1 v1 H1 p1 k1 hr1 r1 => ?_) fun x G' z => z
    subst ed
    obtain ⟨a, g1, rfl⟩ := rp_ref.mp r1
    obtain ⟨a', dx, ws, g2, ha, ek, er, hc, hn⟩ := hr1.insAt eg
    rw [g1] at g2
    cases g2
    obtain ⟨u, eu, ru⟩ := fld_get ek er el
    exact ⟨a, _, dx, ws, u, rfl, ha, hc, hn _ (lookup_key el), eu, q1 μ1 u H1 p1 k1 hr1 ru⟩
theorem snd_gattr {c : Nat} {o : Cd} {f : Str} (io : Snd T call kw isa cad o) : Snd T call kw isa cad (.gattr c o f) where
  g := fun X W ok ex h => by
    unfold mat at h
    dsimp only at h
    split at h <;> try (cases h; done)
    rename_i x n pos
    obtain ⟨h, h3⟩ := b2 h
    obtain ⟨h1, h2⟩ := b2 h
    have en := eqs h1
    subst en
    obtain ⟨k, rm, tk, _⟩ := ok.ex
    obtain ⟨_, hf⟩ := tk.att _ _ h2
    refine (pg_fld (io.e X W ok x h3)).wk fun v σ H Q ⟨μ, G, env, d, R, r, q⟩ => ?_
    refine LE.mk (sem_mono mc o) R q (fun d1 G1 ⟨m, fs, ed, eg, el, q1⟩ μ1 v1 H1 p1 k1 hr1 r1 => ?_) fun x G' z => z.elim
    subst ed
    obtain ⟨a, g1, rfl⟩ := rp_ref.mp r1
    obtain ⟨a', dx, ws, g2, ha, ek, er, hc, hn⟩ := hr1.insAt eg
    rw [g1] at g2
    cases g2
    have hl : ws.length = fs.length := by
      have := congrArg List.length ek
      simpa using this
    have hr2 := hr1.writeA g1 eg ha ek er hc hn hf (r.mono k1 p1)
    exact ⟨a, _, dx, ws, rfl, ha, hc, hf, by omega, q1 μ1 σ _ p1 (k1.trans (KeepI.ins ha)) ((R.step p1 k1 hr1).step (Pre.refl _) (KeepI.ins ha) hr2) (But.refl _ _)⟩
theorem snd_auga {c : Nat} {o : Cd} {f : Str} {op : Op2} {e : Cd} (io : Snd T call kw isa cad o) (ie : Snd T call kw isa cad e) : Snd T call kw isa cad (.auga c o f op e) where
  s := fun X W ok ow hk ex h => by
    unfold mat at h
    dsimp only at h
    split at h <;> try (cases h; done)
    rename_i x n p pop v pos
    obtain ⟨h, h6⟩ := b2 h
    obtain ⟨h, h5⟩ := b2 h
    obtain ⟨h, h4⟩ := b2 h
    obtain ⟨h, h3⟩ := b2 h
    obtain ⟨h1, h2⟩ := b2 h
    have en := eqs h3
    subst en
    have eo : pop = op.py := by simpa using h2
    subst eo
    obtain ⟨k, rm, tk, _⟩ := ok.ex
    obtain ⟨_, hf⟩ := tk.att _ _ h4
    have ip : InOp X op.py (rD X.K cad (augD op)) := iop2_ok (cad := cad) op h1
    refine (ps_fldaug (io.e X W ok x h5) (ie.e X W ok v h6) ip).wk fun D σ H ⟨μ, G, env, R, q⟩ => ?_
    refine LE.mk (sem_mono mc o) R q (fun d1 G1 ⟨m, fs, ed, eg, w, el, q1⟩ μ1 v1 H1 p1 k1 hr1 r1 => ?_) fun x G' z => xc_of R z
    subst ed
    obtain ⟨a, g1, rfl⟩ := rp_ref.mp r1
    obtain ⟨a', dx, ws, g2, ha, ek, er, hc, hn⟩ := hr1.insAt eg
    rw [g1] at g2
    cases g2
    obtain ⟨u, eu, ru⟩ := fld_get ek er el
    have R1 := R.step p1 k1 hr1
    refine ⟨a, _, dx, ws, u, rfl, ha, hc, hf, eu, LE.mk (sem_mono mc e) R1 q1 (fun d2 G2 q2 μ2 v2 H2 p2 k2 hr2 r2 => ?_) fun x G' z => (xc_of R z).step p1 k1⟩
    refine ⟨μ2, G2, w, d2, hr2, ru.mono k2 p2, r2, augD_mono (fun z G3 ⟨fs', eg3, el3, q3⟩ μ3 v3 H3 p3 k3 hr3 r3 => ?_) q2⟩
    obtain ⟨a3, dx3, ws3, g3, ha3, ek3, er3, hc3, hn3⟩ := hr3.insAt eg3
    rw [p3 _ _ (p2 _ _ g1)] at g3
    cases g3
    have hl : ws3.length = fs'.length := by
      have := congrArg List.length ek3
      simpa using this
    have hr4 := hr3.writeA (p3 _ _ (p2 _ _ g1)) eg3 ha3 ek3 er3 hc3 hn3 hf r3
    exact ⟨dx3, ws3, ha3, by omega, q3 μ3 σ _ (p1.trans (p2.trans p3)) ((k1.trans (k2.trans k3)).trans (KeepI.ins ha3)) ((R.step (p1.trans (p2.trans p3)) (k1.trans (k2.trans k3)) hr3).step (Pre.refl _) (KeepI.ins ha3) hr4)⟩
theorem star1 {e : Expr} {env : Env} {pos : Pos} (h : notStar e = true) : backTo pos (starEach [e] env) = (false, eval e env) :: backTo pos (starEach [] env) ∧ (backTo pos (starEach [e] env)).any (·.1) = false := by
  rw [star_of h]
  exact ⟨rfl, rfl⟩
theorem snd_rev {a : Cd} (ia : Snd T call kw isa cad a) : Snd T call kw isa cad (.rev a) where
  e := fun X W ok ex h => by
    unfold mat at h
    dsimp only at h
    split at h <;> try (cases h; done)
    refine (pe_revA (ia.e X W ok _ h)).wk fun σ H Q ⟨μ, G, env, R, q⟩ => ?_
    refine LE.mk (sem_mono mc a) R q (fun d G1 q1 μ1 v1 H1 p1 k1 hr1 r1 => ?_) fun x G' z => z
    unfold revD at q1
    split at q1
    · obtain ⟨a, vs, rfl, sq, l⟩ := rp_tup.mp r1
      exact ⟨a, vs, rfl, .inr ⟨sq, fun p hp => (PostE.step p1 k1 q1).newT hr1 (rpl_rev l) hp⟩⟩
    · obtain ⟨xs, e1, q2⟩ := q1
      obtain ⟨b, g1, rfl⟩ := rp_ref.mp r1
      obtain ⟨b', vs, g2, sq, l⟩ := hr1.lstAt e1
      rw [g1] at g2
      cases g2
      exact ⟨b, vs, rfl, .inl ⟨sq, fun p hp => (PostE.step p1 k1 q2).newL hr1 (rpl_rev l) hp⟩⟩
    · exact q1.elim
theorem snd_sortr {a : Cd} (ia : Snd T call kw isa cad a) : Snd T call kw isa cad (.sortr a) where
  e := fun X W ok ex h => by
    unfold mat at h
    dsimp only at h
    split at h <;> try (cases h; done)
    rename_i x p e k j p2 p3 pos
    obtain ⟨h, h6⟩ := b2 h
    obtain ⟨h, h5⟩ := b2 h
    obtain ⟨h, h4⟩ := b2 h
    obtain ⟨h, h3⟩ := b2 h
    obtain ⟨h1, h2⟩ := b2 h
    have ex := eqs h1
    have ek := eqs h2
    subst ex ek
    obtain ⟨g1, g2⟩ := glo_of h3
    obtain ⟨kk, rm, tk, _⟩ := ok.ex
    have hm := tk.free _ h4
    obtain ⟨s1, s2⟩ := star1 mc (env := X.env) (pos := pos) h6
    refine (pe_callBK (cr_sortedRev (X := X) (b := true)) g1 hm (by decide +kernel) (pa_cons (ia.e X W ok e h5) pa_nil (star_of h6)) (pk_cons pe_bl pk_nil) (by decide) g2 s1 s2 rfl rfl rfl).wk fun σ H Q ⟨μ, G, env, R, q⟩ => ?_
    refine LE.mk (sem_mono mc a) R q (fun d G1 q1 μ1 v1 H1 p1 k1 hr1 r1 => ?_) fun x G' z => z
    unfold sortrD at q1
    split at q1
    · obtain ⟨xs, ns, e1, e2, q2⟩ := q1
      obtain ⟨b, g1, rfl⟩ := rp_ref.mp r1
      obtain ⟨b', vs, g2, sq, l⟩ := hr1.lstAt e1
      rw [g1] at g2
      cases g2
      rw [rpl_ints l e2] at sq
      exact ⟨b, ns, rfl, rfl, sq, fun ms p h1 h2 hp => (PostE.step p1 k1 (q2 ms h1 h2)).newL hr1 (rpl_of_ints ms) hp⟩
    · exact q1.elim
theorem cr_maxD {X : Cx} (hc : X.calm = true) {i : Int} : CallRK X (.builtin "max") [Str.ofString "default"] (fun vs zs H Q => ∃ (a : Addr) (ns : List Int), vs = [V.ref a] ∧ zs = [V.int i] ∧ SqL X.K H a (ns.map V.int) ∧ (ns = [] → Q (.int i) H) ∧ ∀ m, m ∈ ns → (∀ y, y ∈ ns → y ≤ m) → Q (.int m) H) := by
  intro pns st sg Hh vs zs us ws Qq Iv r rz hh
  obtain ⟨a, ns, rfl, rfl, hs, h0, q⟩ := hh
  obtain ⟨its, rv, hl, _⟩ := Iv.list hs
  obtain rfl := Vals.ref1 r
  obtain ⟨w1, rfl, e1⟩ := vals1 rz
  obtain ⟨t, rfl⟩ := e1
  exact WmY.maxd_raw (Iv.ok.hd hc) hl.isList rv.ints (fun z h' tk hk => ⟨.int i, Hh, Iv.kept hk, ⟨_, rfl⟩, h0 z⟩) fun h' tk m t' hk h1 h2 => ⟨.int m, Hh, Iv.kept hk, ⟨_, rfl⟩, q m h1 h2⟩
theorem snd_maxd {a : Cd} {i : Int} (ia : Snd T call kw isa cad a) : Snd T call kw isa cad (.maxd a i) where
  e := fun X W ok ex h => by
    unfold mat at h
    dsimp only at h
    split at h <;> try (cases h; done)
    rename_i x p e k j j2 p2 p3 pos
    obtain ⟨h, hh⟩ := b2 h
    have calm := ok.calm (notHot hh)
    obtain ⟨h, h7⟩ := b2 h
    obtain ⟨h, h6⟩ := b2 h
    obtain ⟨h, h5⟩ := b2 h
    obtain ⟨h, h4⟩ := b2 h
    obtain ⟨h, h3⟩ := b2 h
    obtain ⟨h1, h2⟩ := b2 h
    have ex := eqs h1
    have ek := eqs h2
    subst ex ek
    have ej : j = i := by simpa using h3
    subst ej
    obtain ⟨g1, g2⟩ := glo_of h4
    obtain ⟨kk, rm, tk, _⟩ := ok.ex
    have hm := tk.free _ h5
    obtain ⟨s1, s2⟩ := star1 mc (env := X.env) (pos := pos) h7
    refine (pe_callBK (cr_maxD (i := j) mc calm) g1 hm (by decide +kernel) (pa_cons (ia.e X W ok e h6) pa_nil (star_of h7)) (pk_cons pe_int pk_nil) (by decide) g2 s1 s2 rfl rfl rfl).wk fun σ H Q ⟨μ, G, env, R, q⟩ => ?_
    refine LE.mk (sem_mono mc a) R q (fun d G1 q1 μ1 v1 H1 p1 k1 hr1 r1 => ?_) fun x G' z => z
    unfold maxdD at q1
    split at q1
    · obtain ⟨xs, ns, e1, e2, q2, q3⟩ := q1
      obtain ⟨b, g1, rfl⟩ := rp_ref.mp r1
      obtain ⟨b', vs, g2, sq, l⟩ := hr1.lstAt e1
      rw [g1] at g2
      cases g2
      rw [rpl_ints l e2] at sq
      exact ⟨b, ns, rfl, rfl, sq, fun z => (PostE.step p1 k1 (q2 z)).now hr1 (rp_int.mpr rfl), fun m h1 h2 => (PostE.step p1 k1 (q3 m h1 h2)).now hr1 (rp_int.mpr rfl)⟩
    · exact q1.elim
theorem snd_meth {c f : Nat} {m : Str} {o a : Cd} (io : Snd T call kw isa cad o) (ia : Snd T call kw isa cad a) : Snd T call kw isa cad (.meth c f m o a) where
  e := fun X W ok ex h => by
    unfold mat at h
    dsimp only at h
    split at h <;> try (cases h; done)
    rename_i x n apos es cpos
    obtain ⟨h, hh⟩ := b2 h
    obtain ⟨h, h8⟩ := b2 h
    obtain ⟨h, h7⟩ := b2 h
    obtain ⟨h, h6⟩ := b2 h
    obtain ⟨h, h5⟩ := b2 h
    obtain ⟨h, h4⟩ := b2 h
    obtain ⟨h, h3⟩ := b2 h
    obtain ⟨h1, h2⟩ := b2 h
    have en := eqs h1
    subst en
    have hl3 := of_decide_eq_true h8
    obtain ⟨k, rm, tk, _⟩ := ok.ex
    obtain ⟨fa, fd, ps, hc, hm, hf, hs⟩ := tk.mts (notHot hh) _ _ _ h2
    obtain ⟨g, gV, kb, hv⟩ := hs _ _ h7
    have hl := mat_a_len a h4
    cases es with
    | nil =>
      refine (pe_M0 (io.e X W ok x h3) hc hm hf ok.gd (rm.mono (by omega)) kb ok.tk (base_of h6) h5).wk fun σ H Q ⟨μ, G, env, R, q⟩ => ?_
      refine LE.mk (sem_mono mc o) R q (fun d1 G1 ⟨m1, fs, ed, eg, el, q1⟩ μ1 v1 H1 p1 k1 hr1 r1 => ?_) fun x G' z => z
      subst ed
      obtain ⟨b, g1, rfl⟩ := rp_ref.mp r1
      obtain ⟨b', dx, ws, g2, ha, ek, er, _, _⟩ := hr1.insAt eg
      rw [g1] at g2
      cases g2
      cases a <;> try (exact q1.elim)
      · obtain ⟨r, l⟩ := hv H1 μ1 [.ref m1] [.ref b] [] [] rfl rfl (rpl_cons.mpr ⟨_, _, rfl, r1, rpl_nil.mpr rfl⟩) (rpl_nil.mpr rfl)
        exact ⟨b, dx, ws, rfl, ha, fld_none ek el, l, μ1, G1, _, hr1, r, mc.m (fun d G' z => PostE.step p1 k1 z) (fun x G' z => PostX.step p1 k1 z) q1⟩
      · cases h4
    | cons e es =>
      have hst := mat_a_star a h4
      have hform : methodCallForm ((e :: es).length + ([] : List Keyword).length) (backTo cpos (starEach (e :: es) X.env)) (backToKw cpos (keywordEach [] X.env)) = true := by
        unfold methodCallForm
        rw [stars_all hst]
        show decide ((e :: es).length + 0 + 0 < 30) = true
        exact decide_eq_true hl3
      refine (pe_M (io.e X W ok x h3) hc hm hf ok.gd (rm.mono (by omega)) kb ok.tk (ia.a X W ok _ h4) hst (base_of h6) hform h5).wk fun σ H Q ⟨μ, G, env, R, q⟩ => ?_
      refine LE.mk (sem_mono mc o) R q (fun d1 G1 ⟨m1, fs, ed, eg, el, q1⟩ μ1 v1 H1 p1 k1 hr1 r1 => ?_) fun x G' z => z
      subst ed
      obtain ⟨b, g1, rfl⟩ := rp_ref.mp r1
      obtain ⟨b', dx, ws, g2, ha, ek, er, _, _⟩ := hr1.insAt eg
      rw [g1] at g2
      cases g2
      refine ⟨b, dx, ws, rfl, ha, fld_none ek el, LA.mk (sem_mono mc a) (R.step p1 k1 hr1) (sem_a_len mc a q1) (fun ds G2 ⟨ed, q2⟩ μ2 vs H2 p2 k2 hr2 r2 => ?_) fun x G' z => z.step p1 k1⟩
      have lv : vs.length = (e :: es).length := by rw [← r2.length, ed, hl]
      obtain ⟨r, l⟩ := hv H2 μ2 (.ref m1 :: ds) (.ref b :: vs) [] [] (by rw [List.length_cons, lv]) rfl (rpl_cons.mpr ⟨_, _, rfl, r1.mono k2 p2, r2⟩) (rpl_nil.mpr rfl)
      exact ⟨lv, l, μ2, G2, _, hr2, r, mc.m (fun d G' z => (PostE.step p1 k1 z).step p2 k2) (fun x G' z => (PostX.step p1 k1 z).step p2 k2) q2⟩
theorem snd_mk {c f : Nat} {a : Cd} (ia : Snd T call kw isa cad a) : Snd T call kw isa cad (.mk c f a) where
  e := fun X W ok ex h => by
    unfold mat at h
    dsimp only at h
    split at h <;> try (cases h; done)
    rename_i x pp es pos
    obtain ⟨h, hh⟩ := b2 h
    obtain ⟨h, h4⟩ := b2 h
    obtain ⟨h, h3⟩ := b2 h
    obtain ⟨h1, h2⟩ := b2 h
    obtain ⟨g1, g2⟩ := glo_of h2
    obtain ⟨k, rm, tk, _⟩ := ok.ex
    obtain ⟨fa, fd, ps, hm, hc, hM, hf, hs⟩ := tk.mkr (notHot hh) x c f h1
    obtain ⟨g, gV, kb, hv⟩ := hs _ _ h4
    have hl := mat_a_len a h3
    cases es with
    | nil =>
      refine (pe_N0 hM hf ok.gd rm g1 hm kb ok.tk g2).wk fun σ H Q ⟨μ, G, env, R, q⟩ y dy hy hdy hne => ?_
      cases a <;> try (exact q.elim)
      · have hr1 := R.h.allocI (c := c) hy hdy hne hc
        have k1 : KeepI H (upd (upd H dy (.own y)) y (.ins (cad c) dy [])) := (KeepI.new hdy).trans (KeepI.new (by rw [upd_ne (Ne.symm hne)]; exact hy))
        have p1 := Pre.snoc μ y
        have ry : Rp X.K (upd (upd H dy (.own y)) y (.ins (cad c) dy [])) (μ ++ [y]) (.ref G.length) (.ref y) := rp_ref.mpr ⟨y, by rw [← R.h.len]; exact snoc_at μ y, rfl⟩
        obtain ⟨r, l⟩ := hv _ (μ ++ [y]) [.ref G.length] [.ref y] [] [] rfl rfl (rpl_cons.mpr ⟨_, _, rfl, ry, rpl_nil.mpr rfl⟩) (rpl_nil.mpr rfl)
        have q0 : call f (kw f [.ref G.length] [] []) (G ++ [.ins c []]) (fun v G2 => v = .non ∧ PostE X.K cad H μ Q (.ref G.length) G2) (PostX X.K cad H μ fun cls d H' => W cls d σ H') := q
        refine ⟨l, μ ++ [y], G ++ [.ins c []], _, hr1, r, mc.m (fun d G' z μ' v H' p' k' hr' r' => ?_) (fun x G' z => PostX.step p1 k1 z) q0⟩
        obtain ⟨ed, z⟩ := z
        subst ed
        exact ⟨rp_non.mp r', z μ' _ H' (p1.trans p') (k1.trans k') hr' (ry.mono k' p')⟩
      · cases h3
    | cons e es =>
      refine (pe_N hM hf ok.gd rm g1 hm kb ok.tk (ia.a X W ok _ h3) (mat_a_star a h3) g2).wk fun σ H Q ⟨μ, G, env, R, q⟩ => ?_
      refine LA.mk (sem_mono mc a) R (sem_a_len mc a q) (fun ds G1 ⟨el, q1⟩ μ1 vs H1 p1 k1 hr1 r1 => ?_) fun x G' z => z
      have lv : vs.length = (e :: es).length := by rw [← r1.length, el, hl]
      refine ⟨lv, fun y dy hy hdy hne => ?_⟩
      have hr2 := hr1.allocI (c := c) hy hdy hne hc
      have k2 : KeepI H1 (upd (upd H1 dy (.own y)) y (.ins (cad c) dy [])) := (KeepI.new hdy).trans (KeepI.new (by rw [upd_ne (Ne.symm hne)]; exact hy))
      have p2 := Pre.snoc μ1 y
      have ry : Rp X.K (upd (upd H1 dy (.own y)) y (.ins (cad c) dy [])) (μ1 ++ [y]) (.ref G1.length) (.ref y) := rp_ref.mpr ⟨y, by rw [← hr1.len]; exact snoc_at μ1 y, rfl⟩
      obtain ⟨r, l⟩ := hv _ (μ1 ++ [y]) (.ref G1.length :: ds) (.ref y :: vs) [] [] (by rw [List.length_cons, lv]) rfl (rpl_cons.mpr ⟨_, _, rfl, ry, r1.mono k2 p2⟩) (rpl_nil.mpr rfl)
      refine ⟨l, μ1 ++ [y], G1 ++ [.ins c []], _, hr2, r, mc.m (fun d G' z μ' v H' p' k' hr' r' => ?_) (fun x G' z => (PostX.step p1 k1 z).step p2 k2) q1⟩
      obtain ⟨ed, z⟩ := z
      subst ed
      exact ⟨rp_non.mp r', z μ' _ H' ((p1.trans p2).trans p') ((k1.trans k2).trans k') hr' (ry.mono k' p')⟩
end
end Wm

/-! try .. except C as n, the exception held on -/
namespace Wm
open PySem PySem.Spec PyProof.Rows L2
section
variable {X : Cx} {pins : List (Addr × Obj)} {σ : L2.St} {H : Hp} {s : Shared}
/-- an object that came since the entry is tracked from here on -/
theorem inv_track {a : Addr} {o : HO} (I : L2.Inv X pins σ H s) (hn : H a = none) (new : ObjOk X.prog X.w (upd H a o) s.heap a o) (h0 : ∀ u, X.s_0.heap.get? a = some u → X.H_0 a ≠ none) (nL : X.env.locals ≠ a) (nC : ∀ x c, X.env.cells.lookup x = some c → c ≠ a) (nP : ∀ q ∈ X.pn ++ pins, q.1 ≠ a) : L2.Inv X pins σ (upd H a o) s where
  ok := I.ok
  os := I.os
  bare := I.bare
  base := by
    have B := I.base
    have ne : ∀ {b : Addr} {u : HO}, H b = some u → b ≠ a := fun e z => by rw [z, hn] at e; cases e
    refine ⟨B.keep, B.slot, fun b u e q hx => ?_, B.there, fun b xs e => ?_, fun b u v e => ?_, fun b ps e => ?_⟩
    · by_cases hb : b = a
      · subst hb
        exact absurd q (h0 u e)
      · rw [upd_ne hb]
        exact B.free b u e q hx
    · have e1 := B.tups b xs e
      rw [upd_ne (ne e1)]
      exact e1
    · have e1 := B.frzs b u v e
      rw [upd_ne (ne e1)]
      exact e1
    · obtain ⟨more, e1⟩ := B.tbls b ps e
      exact ⟨more, by rw [upd_ne (ne e1)]; exact e1⟩
  loc := I.loc
  cell := I.cell
  free := by rw [upd_ne nL]; exact I.free
  freeC := fun x c e => by rw [upd_ne (nC x c e)]; exact I.freeC x c e
  pin := fun q hq => by
    obtain ⟨e1, e2, e3⟩ := I.pin q hq
    exact ⟨e1, by rw [upd_ne (nP q hq)]; exact e2, e3⟩
  hok := I.hok.laidN (fun _ _ e => e) hn new
  len := I.len
theorem inv_su (I : L2.Inv X pins σ H s) (a : Addr) : L2.Inv (X.suite a (X.pn ++ pins)) [] σ H s where
  ok := I.ok.suite a _
  os := I.os
  bare := I.bare
  base := I.base
  loc := I.loc
  cell := I.cell
  free := I.free
  freeC := I.freeC
  pin := fun q hq => I.pin q (by simpa using hq)
  hok := I.hok
  len := I.len
theorem inv_us {a : Addr} {pn' : List (Addr × Obj)} (I : L2.Inv (X.suite a (X.pn ++ pins)) pn' σ H s) (ok : X.Ok) : L2.Inv X pins σ H s where
  ok := ok
  os := I.os
  bare := I.bare
  base := I.base
  loc := I.loc
  cell := I.cell
  free := I.free
  freeC := I.freeC
  pin := fun q hq => I.pin q (by simp only [List.append_nil, List.mem_append] at hq ⊢; exact .inl hq)
  hok := I.hok
  len := I.len
end
/-- what the clause wishes of an exception of the body -/
def wHeld (K : PySem.W.Frag) (c : Value) (i : Nat) (ts : TS) (Wout : WX) (D : Ends) : WX := fun cls d σ H => ∃ b, PySem.W.exmOne K cls c = some b ∧
  (b = true → ∃ C, cls = .ref C ∧ ∀ a, H a = none → ts { nx := fun σ' H' => D.nx (σ'.set i none) H', rt := D.rt, bk := fun σ' H' => D.bk (σ'.set i none) H', ct := fun σ' H' => D.ct (σ'.set i none) H' } (σ.set i (some (.ref a))) (upd H a (ExcO C d a))) ∧ (b = false → Wout cls d σ H)
section
variable {X : Cx} {x n : Str} {c : Value} {i : Nat} {body su : List Stmt} {s0 : Stmt} {np pos pos' : Pos} {tb : WX → TS} {ts : TS} {Wout : WX}
theorem ps_held (ow : X.stack = X.env :: X.outer ∧ X.env.frame = some X.env.locals ∧ X.ex = []) (nd : X.N.Nodup) (hi : X.N[i]? = some n) (hl : X.env.kindOf n = some .local) (hc : Names X x c) (tk : Takes X Wout)
    (hb : ∀ (W : WX) (pn : List (Addr × Obj)) (xe : Value → Shared → Prop), Takes (X.tr pn xe) W → PassesOwn (model X.prog X.w) X.A X.env xe → PSs (X.tr pn xe) body (tb W))
    (hsu : ∀ (a : Addr) (pn : List (Addr × Obj)), PSs (X.suite a pn) (s0 :: su) ts) :
    PS X (.Try body [.ExceptHandler (some (.Name x np)) (some n) (s0 :: su) pos'] [] [] pos) (fun D σ H => tb (wHeld X.K c i ts Wout D) D σ H) := by
  obtain ⟨hs, hf, hex⟩ := ow
  refine ⟨fun pins s σ H D I h => wpAny_Try_except ?_⟩
  have ok := I.ok
  have fr : X.A.frames = some (X.env :: X.outer) := by rw [← hs]; exact ok.frames
  refine wpAny_mono ((hb (wHeld X.K c i ts Wout D) (X.pn ++ pins) _ (fun u s' xx => ?got) PassesOwn.looking).run [] s σ H D (I.toTry _) h) (fun f s1 q => ?thru) (fun _ _ z => z)
  case thru =>
    cases f with
    | next => obtain ⟨σ1, H1, J, q⟩ := q; exact wpAny_execs_nil ⟨σ1, H1, J.ofTry ok, q⟩
    | brk => obtain ⟨σ1, H1, J, q⟩ := q; exact ⟨σ1, H1, J.ofTry ok, q⟩
    | cont => obtain ⟨σ1, H1, J, q⟩ := q; exact ⟨σ1, H1, J.ofTry ok, q⟩
    | ret u => obtain ⟨v, σ1, H1, J, r, q⟩ := q; exact ⟨v, σ1, H1, J.ofTry ok, r, q⟩
  case got =>
    obtain ⟨a, B, sI, pins', σ', H', cls, d, rfl, J0, nb, up, sky, na, os, ag, b, hb1, yes, no⟩ := xx
    have J : L2.Inv X pins σ' H' sI := J0.ofTry ok
    rw [show (X.tr (X.pn ++ pins) _).stack = X.env :: X.outer from hs] at sky nb
    show wpAny (model X.prog X.w) X.A (noteFrame (.ref a) X.env) _ _ _
    refine Sky.land Zc.steady fr hf sky fun h3 fly3 up3 => ?_
    obtain ⟨oe3, vs3, g3, z3, d3⟩ := fly3.there
    have nb' : ∀ b o, sI.heap.get? b = some o → b ∉ frs X.stack → B.get? b = some o := by rw [hs]; exact nb
    have J3 : L2.Inv X pins σ' H' { s' with heap := h3 } := J.landed nb' fly3.1 (up.trans up3) os ag
    have noFr : ∀ {hh : Heap} {o : Obj} {vs : Array Value}, hh.FunFrames B (X.env :: X.outer) → hh.get? a = some o → o.data = .fields vs → a ∉ frs (X.env :: X.outer) := fun ff e dd hm => by
      obtain ⟨_, o2, e2, bad⟩ := ff.mem hm
      rw [e] at e2
      cases e2
      exact bad _ dd
    have nfr := noFr fly3.2.2.1 g3 d3
    have nL : a ≠ X.env.locals := fun z => nfr (List.mem_filterMap.mpr ⟨X.env, List.mem_cons_self, by rw [hf, z]⟩)
    have nF : a ∉ X.fs := fun hm => nfr (by
      obtain ⟨e, he, q⟩ := List.mem_filterMap.mp hm
      exact List.mem_filterMap.mpr ⟨e, List.mem_cons_of_mem _ he, q⟩)
    have nI : sI.heap.get? a = none := by
      cases e : sI.heap.get? a with
      | none => rfl
      | some o =>
        have := nb a o e nfr
        rw [fly3.2.1] at this
        cases this
    have S3 := J3.suite g3 d3 na nL nF
    refine wpAny_handleBy_cons (codeAny_handlers_test ?_) (by intro q; cases q)
    have look := PySem.W.exm_one (M := model X.prog X.w) J3.kIn (show PySem.W.Looks (model X.prog X.w) h3 (typeOf (.ref a)) cls from fun A Q E s k q => wpAny_typeOf_ref (k _ _ g3) (by rw [z3.1]; exact q)) hb1
    have named : ∀ {Q : Value → Shared → Prop} {E : Value → Shared → Prop}, Q c { s' with heap := h3 } → wpAny (model X.prog X.w) (X.A.mark (some (.ref a))) (eval (.Name x np) X.env) Q E { s' with heap := h3 } := fun {Q E} q => by
      obtain ⟨hg, hdb, hm | ⟨hm, hv, hn⟩⟩ := hc
      · exact ld_glob (X := X.suite a ((a, oe3) :: (X.pn ++ pins))) S3 hg hm q hdb
      · exact ld_blt (X := X.suite a ((a, oe3) :: (X.pn ++ pins))) S3 hg hm hv q hn hdb
    refine named (look.here ?_)
    cases b with
    | false =>
      refine (show wpAny _ X.A (handleBy (.ref a) X.env []) _ _ _ from wpAny_handleBy_nil ?_)
      obtain ⟨_, _, _, oe, vs, T, oT, ts', he, _, hd, h1, _⟩ := id fly3
      unfold PySem.passOn
      refine wpAny_bind (wpAny_field he hd h1 ?_)
      rw [if_neg (fun z : (Value.ref T == Value.none) = true => by simp at z)]
      have on : wpAny (model X.prog X.w) X.A (setFlight (.ref a) X.env.frame) (fun _ s4 => wpAny (model X.prog X.w) X.A (throw (.ref a) : Sem Flow) (SP X pins D) X.xe s4) X.xe { s' with heap := h3 } := by
        rw [hf]
        refine HandSPX.setFlight_upZ fly3 fun h4 held up4 => wpAny_throw (tk _ _ ⟨a, B, sI, pins, σ', H', cls, d, rfl, J, nb', (up.trans up3).trans up4, .inr (.inr (by rw [hs]; exact held)), na, os, ag, no rfl⟩)
      first | exact wpAny_bind on | exact wpAny_bind (wpAny_pure (wpAny_bind on))
    | true =>
      obtain ⟨C, rfl, yes2⟩ := yes rfl
      refine codeAny_handlers_suite_as (HandSPX.lands_againZ fly3 fun h4 fly4 up4 => ?_)
      have J4 : L2.Inv X pins σ' H' { s' with heap := h4 } := J.landed nb' fly4.1 ((up.trans up3).trans up4) os ag
      obtain ⟨oe4, vs4, g4, z4, d4⟩ := fly4.there
      have T4 : L2.Inv X pins σ' (upd H' a (ExcO C d a)) { s' with heap := h4 } := by
        refine inv_track J4 na ?_ (fun u e hz => ?_) (Ne.symm nL) (fun y k e z => ?_) (fun q hq z => ?_)
        · exact ⟨⟨oe4, vs4, g4, z4, d4⟩, ⟨oe4, g4⟩, fun h1 h2 ⟨o, vs, e, zz⟩ hk => ⟨o, vs, hk o e, zz⟩⟩
        · have e1 := J.base.keep a u e hz nF (by rw [hex]; exact fun z => nomatch z)
          rw [nI] at e1
          cases e1
        · subst z
          obtain ⟨v, w1⟩ := J4.cell y k e
          obtain ⟨oc, e1, e2⟩ := w1
          have e3 := e1.symm.trans g4
          cases e3
          rw [d4] at e2
          cases e2
        · have e1 := (J.pin q hq).1
          rw [z, nI] at e1
          cases e1
      refine store_ok (X := X.suite a (X.pn ++ pins)) (v := .ref a) (inv_su T4 a) nd hi (.inl hl) rfl (fun s5 S5 => ?_) (.inr hl)
      refine wpAny_mono ((hsu a (X.pn ++ pins)).run [] s5 _ _ _ S5 (yes2 a na)) (fun f s6 q => ?_) (fun _ _ z => False.elim z)
      cases f with
      | next => obtain ⟨σ6, H6, S6, q6⟩ := q; exact gone_ok (inv_us S6 ok) nd hi hl fun s7 J7 => ⟨_, _, J7, q6⟩
      | brk => obtain ⟨σ6, H6, S6, q6⟩ := q; exact gone_ok (inv_us S6 ok) nd hi hl fun s7 J7 => ⟨_, _, J7, q6⟩
      | cont => obtain ⟨σ6, H6, S6, q6⟩ := q; exact gone_ok (inv_us S6 ok) nd hi hl fun s7 J7 => ⟨_, _, J7, q6⟩
      | ret u => obtain ⟨v6, σ6, H6, S6, r6, q6⟩ := q; exact gone_ok (inv_us S6 ok) nd hi hl fun s7 J7 => ⟨_, _, _, J7, r6, q6⟩
end
end Wm

namespace Wm
open PySem PySem.Spec PyProof.Rows L2
section
variable {T : Tab} {call : CallT} {kw : Nat → List Dt → List Str → List Dt → List Dt} {isa : Nat → Nat → Bool} {cad : Cad}
theorem locLine_of {sc : Scope} {l : Nat} {e : Expr} {x : Str} (h : locLine sc l e = some x) : ∃ p, e = .Name x p ∧ sc.names.lookup x = some .local := by
  unfold locLine at h
  split at h
  · rename_i id pos
    split at h
    · rename_i hc
      cases h
      obtain ⟨h1, _⟩ := b2 hc
      exact ⟨pos, rfl, by simpa using h1⟩
    · cases h
  · cases h
theorem filterMap_all {α β : Type} {f : α → Option β} : ∀ {l : List α}, (l.filterMap f).length = l.length → ∀ x ∈ l, (f x).isSome = true
  | [], _, x, hx => by cases hx
  | a :: l, h, x, hx => by
    cases e : f a with
    | none =>
      rw [List.filterMap_cons, e] at h
      have : (List.filterMap f l).length ≤ l.length := List.length_filterMap_le f l
      simp only [List.length_cons] at h
      omega
    | some b =>
      rw [List.filterMap_cons, e] at h
      simp only [List.length_cons, Nat.add_right_cancel_iff] at h
      rcases List.mem_cons.mp hx with rfl | hx
      · rw [e]; rfl
      · exact filterMap_all h x hx
theorem sw_names {ts vs : List Expr} {sc : Scope} {ns : List Str} (h : swN ts vs sc = some (some ns)) : ns = ts.filterMap (locLine sc ((ts.head?.map (·.pos.line)).getD 0)) ∧ ns.length = ts.length ∧ vs.length = ts.length := by
  unfold swN at h
  split at h
  · cases h
  · rename_i hc
    split at h
    · cases h
    · change (if ((ts.filterMap (locLine sc ((ts.head?.map (·.pos.line)).getD 0))).length != ts.length || (ts.filterMap (locLine sc ((ts.head?.map (·.pos.line)).getD 0))).eraseDups.length != (ts.filterMap (locLine sc ((ts.head?.map (·.pos.line)).getD 0))).length) = true then some none
        else if vs.all (foldedForSure 8) = true then some none else if vs.all (constantsAlone 8) = true then none else some (some (ts.filterMap (locLine sc ((ts.head?.map (·.pos.line)).getD 0))))) = some (some ns) at h
      split at h
      · cases h
      · rename_i h1
        split at h
        · cases h
        · split at h
          · cases h
          · cases h
            refine ⟨rfl, ?_, ?_⟩
            · rw [Bool.not_eq_true, Bool.or_eq_false_iff] at h1
              exact bne_eq_false_iff_eq.mp h1.1
            · rw [Bool.not_eq_true, Bool.or_eq_false_iff] at hc
              exact bne_eq_false_iff_eq.mp hc.2
section
variable (mc : MonoC call)
include mc
theorem par_ok {g e : Cd} (ig : Snd T call kw isa cad g) (ie : Snd T call kw isa cad e) : ∀ (X : Cx) (W : WX), Cok T call kw isa cad X W → X.env.scope.kind = .function → ∀ tg v pos, (mat T X.N g X.env.scope X.fn).g tg = true → (mat T X.N e X.env.scope X.fn).e v = true → notStar tg = true → plainAsg X.env.scope tg v = false → (mat T X.N (.asg g e) X.env.scope X.fn).s (.Assign [tg] v pos) = true → PS X (.Assign [tg] v pos) (LS X.K cad W (sem call kw isa (.asg g e)).s) := by
  intro X W ok hk tg v pos h1 h2 h3 hp h
  unfold mat at h
  dsimp only at h
  have h4 := (b2 h).2
  clear h
  rw [hp, Bool.false_or] at h4
  have calm := ok.calm (notHot (b2 h4).1)
  replace h4 := (b2 h4).2
  have me := sem_mono (kw := kw) (isa := isa) mc e
  have mg := sem_mono (kw := kw) (isa := isa) mc g
  split at h4
  · rename_i y py elt gens scope cpos i
    have hi : X.N[i]? = some y := by
      obtain ⟨a, _⟩ := b2 (show (X.N[i]? == some y && locB X.env.scope X.fn y) = true from h1)
      simpa using a
    refine (ie.lc X W ok elt gens scope cpos y py i pos hi h4 h2).wk fun D σ H ⟨μ, G, env, R, q⟩ => ?_
    exact LE.mk me R q (fun d G1 q1 μ1 v1 H1 p1 k1 hr1 r1 => q1 μ1 _ H1 p1 k1 ((R.step p1 k1 hr1).set r1)) fun x G' z => xc_of R z
  · rename_i ts kt pt vs k2 pt2 i j
    have h1 := (b2 (show ((mat T X.N (.cons (.gn i) (.cons (.gn j) .nil)) X.env.scope X.fn).gs ts && !T.hot) = true from h1)).1
    split at h4
    · rename_i ns en
      obtain ⟨h4, h6⟩ := b2 h4
      have hij : i ≠ j := by simpa using h6
      obtain ⟨e1, e2, e3⟩ := sw_names en
      have hl : ts.length = 2 := by simpa using h4
      obtain ⟨as, ez, ha⟩ := ie.tp X W ok vs k2 pt2 h2
      match ts, hl with
      | [t1, t2], _ =>
        have a1 := filterMap_all (by rw [← e1]; exact e2) t1 (by simp)
        have a2 := filterMap_all (by rw [← e1]; exact e2) t2 (by simp)
        obtain ⟨x, ex⟩ := Option.isSome_iff_exists.mp a1
        obtain ⟨y, ey⟩ := Option.isSome_iff_exists.mp a2
        have en2 : ns = [x, y] := by rw [e1, List.filterMap_cons, ex, List.filterMap_cons, ey]; rfl
        obtain ⟨px, rfl, lx⟩ := locLine_of ex
        obtain ⟨py, rfl, ly⟩ := locLine_of ey
        obtain ⟨g1, g2⟩ := b2 (show (notStar (.Name x px) && (X.N[i]? == some x && locB X.env.scope X.fn x) && (mat T X.N (.cons (.gn j) .nil) X.env.scope X.fn).gs [.Name y py]) = true from h1)
        obtain ⟨_, g1⟩ := b2 g1
        obtain ⟨g1, _⟩ := b2 g1
        obtain ⟨g2, _⟩ := b2 (show (notStar (.Name y py) && (X.N[j]? == some y && locB X.env.scope X.fn y) && (mat T X.N .nil X.env.scope X.fn).gs []) = true from g2)
        obtain ⟨_, g2⟩ := b2 g2
        obtain ⟨g2, _⟩ := b2 g2
        match vs, e3 with
        | [v1, v2], _ =>
          rw [en2] at en
          refine (ps_par calm ok.nd (by simpa using g1) (by simpa using g2) hij lx ly ha (sw_of hk en)).wk fun D σ H ⟨μ, G, env, R, q⟩ => ?_
          subst ez
          refine LA.mk (sem_mono mc as) R q (fun ds G1 ⟨z, xs, exs, lxs, q1⟩ μ1 ws H1 p1 k1 hr1 r1 => ?_) fun x G' z => xc_of R z
          cases exs
          obtain ⟨d1, r, ed, d2, r', ed2, q3⟩ := q1
          subst ed ed2
          obtain ⟨en3, q3⟩ := q3
          subst en3
          obtain ⟨w1, w2, rfl, rr1, rr2⟩ := rpl2 r1
          exact ⟨w1, w2, rfl, q3 μ1 _ H1 p1 k1 (((R.step p1 k1 hr1).set rr1).set rr2)⟩
    · cases h4
  · rename_i ts kt pt vs k2 pt2 i j l
    have h1 := (b2 (show ((mat T X.N (.cons (.gn i) (.cons (.gn j) (.cons (.gn l) .nil))) X.env.scope X.fn).gs ts && !T.hot) = true from h1)).1
    split at h4
    · rename_i ns en
      obtain ⟨h4, h8⟩ := b2 h4
      obtain ⟨h4, h7⟩ := b2 h4
      obtain ⟨h4, h6⟩ := b2 h4
      have hij : i ≠ j := by simpa using h6
      have hil : i ≠ l := by simpa using h7
      have hjl : j ≠ l := by simpa using h8
      obtain ⟨e1, e2, e3⟩ := sw_names en
      have hl : ts.length = 3 := by simpa using h4
      obtain ⟨as, ez, ha⟩ := ie.tp X W ok vs k2 pt2 h2
      match ts, hl with
      | [t1, t2, t3], _ =>
        have a1 := filterMap_all (by rw [← e1]; exact e2) t1 (by simp)
        have a2 := filterMap_all (by rw [← e1]; exact e2) t2 (by simp)
        have a3 := filterMap_all (by rw [← e1]; exact e2) t3 (by simp)
        obtain ⟨x, ex⟩ := Option.isSome_iff_exists.mp a1
        obtain ⟨y, ey⟩ := Option.isSome_iff_exists.mp a2
        obtain ⟨u, eu⟩ := Option.isSome_iff_exists.mp a3
        have en2 : ns = [x, y, u] := by rw [e1, List.filterMap_cons, ex, List.filterMap_cons, ey, List.filterMap_cons, eu]; rfl
        obtain ⟨px, rfl, lx⟩ := locLine_of ex
        obtain ⟨py, rfl, ly⟩ := locLine_of ey
        obtain ⟨pu, rfl, lu⟩ := locLine_of eu
        obtain ⟨g1, g2⟩ := b2 (show (notStar (.Name x px) && (X.N[i]? == some x && locB X.env.scope X.fn x) && (mat T X.N (.cons (.gn j) (.cons (.gn l) .nil)) X.env.scope X.fn).gs [.Name y py, .Name u pu]) = true from h1)
        obtain ⟨_, g1⟩ := b2 g1
        obtain ⟨g1, _⟩ := b2 g1
        obtain ⟨g2, g3⟩ := b2 (show (notStar (.Name y py) && (X.N[j]? == some y && locB X.env.scope X.fn y) && (mat T X.N (.cons (.gn l) .nil) X.env.scope X.fn).gs [.Name u pu]) = true from g2)
        obtain ⟨_, g2⟩ := b2 g2
        obtain ⟨g2, _⟩ := b2 g2
        obtain ⟨g3, _⟩ := b2 (show (notStar (.Name u pu) && (X.N[l]? == some u && locB X.env.scope X.fn u) && (mat T X.N .nil X.env.scope X.fn).gs []) = true from g3)
        obtain ⟨_, g3⟩ := b2 g3
        obtain ⟨g3, _⟩ := b2 g3
        match vs, e3 with
        | [v1, v2, v3], _ =>
          rw [en2] at en
          refine (ps_par3 calm ok.nd (by simpa using g1) (by simpa using g2) (by simpa using g3) hij hil hjl lx ly lu ha (sw_of hk en)).wk fun D σ H ⟨μ, G, env, R, q⟩ => ?_
          subst ez
          refine LA.mk (sem_mono mc as) R q (fun ds G1 ⟨z, xs, exs, lxs, q1⟩ μ1 ws H1 p1 k1 hr1 r1 => ?_) fun x G' z => xc_of R z
          cases exs
          obtain ⟨d1, r, ed, d2, r', ed2, d3, r'', ed3, q3⟩ := q1
          subst ed ed2 ed3
          obtain ⟨en3, q3⟩ := q3
          subst en3
          obtain ⟨w1, ws', rfl, rr1, rr2⟩ := rpl_cons.mp r1
          obtain ⟨w2, w3, rfl, rr2, rr3⟩ := rpl2 rr2
          exact ⟨w1, w2, w3, rfl, q3 μ1 _ H1 p1 k1 ((((R.step p1 k1 hr1).set rr1).set rr2).set rr3)⟩
    · cases h4
  · cases h4
omit mc in
theorem _root_.Wm.Cok.tr {X : Cx} {W W' : WX} {pn : List (Addr × Obj)} {xe : Value → Shared → Prop} (ok : Cok T call kw isa cad X W) (tk : Takes (X.tr pn xe) W') : Cok T call kw isa cad (X.tr pn xe) W' := ⟨ok.calm, ok.nd, tk, ok.ex, ok.gd⟩
omit mc in
theorem _root_.Wm.Cok.su {X : Cx} {W : WX} (ok : Cok T call kw isa cad X W) (a : Addr) (pn : List (Addr × Obj)) : Cok T.toHot call kw isa cad (X.suite a pn) (fun _ _ _ _ => False) := by
  refine ⟨fun z => (by cases z), ok.nd, fun u s' h => ?_, ?_, ok.gd⟩
  · obtain ⟨_, _, _, _, _, _, _, _, _, _, _, _, _, _, _, _, z⟩ := h
    exact z
  · obtain ⟨k, r, t, t2⟩ := ok.ex
    exact ⟨k, r.mark _, t2, t2⟩
omit mc in
theorem own_su {X : Cx} (ow : Own X) (a : Addr) (pn : List (Addr × Obj)) : Own (X.suite a pn) := ⟨PassesOwn.never, ow.2⟩
theorem snd_tryo {b s : Cd} {c : Nat} (ib : Snd T call kw isa cad b) (is : Snd T.toHot call kw isa cad s) : Snd T call kw isa cad (.tryo b c s) where
  s := fun X W ok ow hk ex h => by
    unfold mat at h
    dsimp only at h
    split at h <;> try (cases h; done)
    rename_i body x np s0 ss p2 pos
    obtain ⟨h, hk0⟩ := b2 h
    obtain ⟨h, h5⟩ := b2 h
    obtain ⟨h, h4⟩ := b2 h
    obtain ⟨h, h3⟩ := b2 h
    obtain ⟨h1, h2⟩ := b2 h
    obtain ⟨g1, g2⟩ := glo_of h2
    obtain ⟨k, rm, tk, th⟩ := ok.ex
    have hon := tk.on hk0
    obtain ⟨hm, e2, e3, e4, e5⟩ := tk.xcl x c (by simpa using h1)
    have hc : Names X x (.ref (cad c)) := ⟨g1, g2, .inl hm⟩
    refine (ps_try_only ow.2.1 ow.2.2.1 hc ok.tk (tb := fun W => LS X.K cad W (sem call kw isa b).s) (ts := fun _ _ _ => LS X.K cad (fun _ _ _ _ => False) (sem call kw isa s).s) (fun W' pn xe tk' po => ib.b (X.tr pn xe) W' (ok.tr tk') ⟨po, ow.2⟩ hk body h4) (fun a oe cls d pn _ _ => is.b (X.suite a _) _ (ok.su a _) (own_su ow a _) hk (s0 :: ss) h5)).wk fun D σ H ⟨μ, G, env, R, q⟩ => ?_
    refine ⟨μ, G, env, R, (sem_mono mc b).s (K := { PostK X.K cad H μ D W with xc := fun x env1 G1 => if isa x.cls c = true then (sem call kw isa s).s env1 G1 { PostK X.K cad H μ D W with xc := fun _ _ _ => False } else (PostK X.K cad H μ D W).xc x env1 G1 }) (fun _ _ z => z) (fun _ _ z => z) (fun _ _ z => z) (fun _ _ z => z) (fun x e1 G1 z => ?_) q⟩
    intro μ' σ' H' cls d p k R' rx
    obtain ⟨rfl, hn, hx⟩ := rx
    dsimp only at z
    refine ⟨isa x.cls c, (tk.xf hon).exm _ _ hx e5, fun hb a ha => ?_, fun hb => ?_⟩
    · rw [if_pos hb] at z
      exact ⟨μ', G1, e1, R', (sem_mono mc s).s (K := { PostK X.K cad H μ D W with xc := fun _ _ _ => False }) (fun e G2 z => PostS.step p k z) (fun d G2 z => PostE.step p k z) (fun e G2 z => PostS.step p k z) (fun e G2 z => PostS.step p k z) (fun _ _ _ z => z.elim) z⟩
    · rw [if_neg (by rw [hb]; exact Bool.false_ne_true)] at z
      exact z μ' σ' H' _ d p k R' ⟨rfl, hn, hx⟩
theorem snd_trya {b s : Cd} {c i : Nat} (ib : Snd T call kw isa cad b) (is : Snd T.toHot call kw isa cad s) : Snd T call kw isa cad (.trya b c i s) where
  s := fun X W ok ow hk ex h => by
    unfold mat at h
    dsimp only at h
    split at h <;> try (cases h; done)
    rename_i body x np n s0 ss p2 pos
    obtain ⟨h, hk0⟩ := b2 h
    obtain ⟨h, h5⟩ := b2 h
    obtain ⟨h, h4⟩ := b2 h
    obtain ⟨h, h7⟩ := b2 h
    obtain ⟨h, h6⟩ := b2 h
    obtain ⟨h, h3⟩ := b2 h
    obtain ⟨h1, h2⟩ := b2 h
    obtain ⟨g1, g2⟩ := glo_of h2
    obtain ⟨k, rm, tk, th⟩ := ok.ex
    have hon := tk.on hk0
    obtain ⟨hm, e2, e3, e4, e5⟩ := tk.xcl x c (by simpa using h1)
    have hc : Names X x (.ref (cad c)) := ⟨g1, g2, .inl hm⟩
    refine (ps_held ow.2 ok.nd (i := i) (by simpa using h6) (of_decide_eq_true h7) hc ok.tk (tb := fun W => LS X.K cad W (sem call kw isa b).s) (ts := LS X.K cad (fun _ _ _ _ => False) (sem call kw isa s).s) (fun W' pn xe tk' po => ib.b (X.tr pn xe) W' (ok.tr tk') ⟨po, ow.2⟩ hk body h4) (fun a pn => is.b (X.suite a _) _ (ok.su a _) (own_su ow a _) hk (s0 :: ss) h5)).wk fun D σ H ⟨μ, G, env, R, q⟩ => ?_
    refine ⟨μ, G, env, R, (sem_mono mc b).s (K := { PostK X.K cad H μ D W with xc := fun x env1 G1 => if isa x.cls c = true then (sem call kw isa s).s (env1.set i (some (.ref G1.length))) (G1 ++ [.exc x]) { nx := fun e G2 => (PostK X.K cad H μ D W).nx (e.set i none) G2, rt := (PostK X.K cad H μ D W).rt, bk := fun e G2 => (PostK X.K cad H μ D W).bk (e.set i none) G2, ct := fun e G2 => (PostK X.K cad H μ D W).ct (e.set i none) G2, xc := fun _ _ _ => False } else (PostK X.K cad H μ D W).xc x env1 G1 }) (fun _ _ z => z) (fun _ _ z => z) (fun _ _ z => z) (fun _ _ z => z) (fun x e1 G1 z => ?_) q⟩
    intro μ' σ' H' cls d p k R' rx
    obtain ⟨rfl, hn, hx⟩ := rx
    dsimp only at z
    refine ⟨isa x.cls c, (tk.xf hon).exm _ _ hx e5, fun hb => ⟨_, rfl, fun a ha => ?_⟩, fun hb => ?_⟩
    · rw [if_pos hb] at z
      have kn : KeepI H' (upd H' a (ExcO (cad x.cls) d a)) := KeepI.new ha
      have hl : (μ' ++ [a])[G1.length]? = some a := by rw [← R'.h.len]; simp
      refine ⟨μ' ++ [a], G1 ++ [.exc x], e1.set i (some (.ref G1.length)), (R'.step (Pre.snoc _ _) kn (R'.h.alloc (ob := .exc x) ha rfl ⟨d, upd_same, hn.mono kn (Pre.snoc _ _), hx, hon⟩)).set (rp_ref.mpr ⟨a, hl, rfl⟩), ?_⟩
      have pp : Pre μ (μ' ++ [a]) := p.trans (Pre.snoc _ _)
      have kk := k.trans kn
      have un : ∀ {P : L2.St → Hp → Prop} (e : En) (G2 : Gh), PostS X.K cad H μ P (e.set i none) G2 → PostS X.K cad (upd H' a (ExcO (cad x.cls) d a)) (μ' ++ [a]) (fun σ' H' => P (σ'.set i none) H') e G2 := fun e G2 z μ3 σ3 H3 p3 k3 R3 => z μ3 (σ3.set i none) H3 (pp.trans p3) (kk.trans k3) (R3.wipe [i])
      exact (sem_mono mc s).s (K := { nx := fun e G2 => (PostK X.K cad H μ D W).nx (e.set i none) G2, rt := (PostK X.K cad H μ D W).rt, bk := fun e G2 => (PostK X.K cad H μ D W).bk (e.set i none) G2, ct := fun e G2 => (PostK X.K cad H μ D W).ct (e.set i none) G2, xc := fun _ _ _ => False }) (fun e G2 z => un e G2 z) (fun d G2 z => PostE.step pp kk z) (fun e G2 z => un e G2 z) (fun e G2 z => un e G2 z) (fun _ _ _ z => z.elim) z
    · rw [if_neg (by rw [hb]; exact Bool.false_ne_true)] at z
      exact z μ' σ' H' _ d p k R' ⟨rfl, hn, hx⟩
theorem snd_allT : ∀ (c : Cd) (T : Tab), Snd T call kw isa cad c := by
  intro c
  induction c with
  | var i => exact fun T => snd_var i
  | kint i => exact fun T => snd_kint i
  | kstr i => exact fun T => snd_kstr i
  | kbl i => exact fun T => snd_kbl i
  | knon => exact fun T => snd_knon
  | gk d => exact fun T => snd_gk d
  | bin o a b ia ib => exact fun T => snd_bin mc (ia T) (ib T)
  | neg a ia => exact fun T => snd_neg mc (ia T)
  | notv a ia => exact fun T => snd_notv mc (ia T)
  | cmp o a b ia ib => exact fun T => snd_cmp mc (ia T) (ib T)
  | chain o o2 a b c ia ib ic => exact fun T => snd_chain mc (ia T) (ib T) (ic T)
  | andv a b ia ib => exact fun T => snd_andv mc (ia T) (ib T)
  | orv a b ia ib => exact fun T => snd_orv mc (ia T) (ib T)
  | ifx c a b ic ia ib => exact fun T => snd_ifx mc (ic T) (ia T) (ib T)
  | tup a ia => exact fun T => snd_tup mc (ia T)
  | lst a ia => exact fun T => snd_lst mc (ia T)
  | call f a ia => exact fun T => snd_call mc (ia T)
  | callk f a ks w ia iw => exact fun T => snd_callk mc (ia T) (iw T)
  | ix a b ia ib => exact fun T => snd_ix mc (ia T) (ib T)
  | sl a lo hi ia il ih => exact fun T => snd_sl mc (ia T) (il T) (ih T)
  | bi b a ia => exact fun T => snd_bi mc (ia T)
  | mt m o a io ia => exact fun T => snd_mt mc (io T) (ia T)
  | isi a ts ia => exact fun T => snd_isi mc (ia T)
  | comp elt g it cond own ie ig ii ic => exact fun T => snd_comp mc (ie T) (ig T) (ii T) (ic T)
  | comp2 elt g it cond g1 it1 cond1 own ie ig ii ic ig1 ii1 ic1 => exact fun T => snd_comp2 mc (ie T) (ig T) (ii T) (ic T) (ig1 T) (ii1 T) (ic1 T)
  | tand a b ia ib => exact fun T => snd_tand mc (ia T) (ib T)
  | tor a b ia ib => exact fun T => snd_tor mc (ia T) (ib T)
  | tnot a ia => exact fun T => snd_tnot mc (ia T)
  | tval a ia => exact fun T => snd_tval mc (ia T)
  | ttrue => exact fun T => snd_ttrue
  | tcmp o a b ia ib => exact fun T => snd_tcmp mc (ia T) (ib T)
  | tchain o o2 a b c ia ib ic => exact fun T => snd_tchain mc (ia T) (ib T) (ic T)
  | nil => exact fun T => snd_nil
  | cons a b ia ib => exact fun T => snd_cons mc (ia T) (ib T)
  | gn i => exact fun T => snd_gn mc
  | gt a ia => exact fun T => snd_gt mc (ia T)
  | gsub o i io ii => exact fun T => snd_gsub mc (io T) (ii T)
  | gstar ts its => exact fun T => snd_gstar mc (its T)
  | gst i => exact fun T => snd_gst mc
  | iseq a ia => exact fun T => snd_iseq mc (ia T)
  | irange1 a ia => exact fun T => snd_irange1 mc (ia T)
  | irange2 a b ia ib => exact fun T => snd_irange2 mc (ia T) (ib T)
  | izip a b ia ib => exact fun T => snd_izip mc (ia T) (ib T)
  | irangeD a b ia ib => exact fun T => snd_irangeD mc (ia T) (ib T)
  | izips a b ia ib => exact fun T => snd_izips mc (ia T) (ib T)
  | ienum a ia => exact fun T => snd_ienum mc (ia T)
  | asg g e ig ie => exact fun T => snd_asg mc (ig T) (ie T) (par_ok mc (ig T) (ie T))
  | asg2 g h e ig ih ie => exact fun T => snd_asg2 mc (ig T) (ih T) (ie T)
  | asg3 g h i e ig ih ii ie => exact fun T => snd_asg3 mc (ig T) (ih T) (ii T) (ie T)
  | dic ks as ia => exact fun T => snd_dic mc (ia T)
  | aug i o e ie => exact fun T => snd_aug mc (ie T)
  | ife c a b ic ia ib => exact fun T => snd_ife mc (ic T) (ia T) (ib T)
  | whl c b ic ib => exact fun T => snd_whl mc (ic T) (ib T)
  | forr g it b ig ii ib => exact fun T => snd_forr mc (ig T) (ii T) (ib T)
  | ret e ie => exact fun T => snd_ret mc (ie T)
  | retn => exact fun T => snd_retn
  | expr e ie => exact fun T => snd_expr mc (ie T)
  | pass => exact fun T => snd_pass
  | brk => exact fun T => snd_brk
  | cnt => exact fun T => snd_cnt
  | seq a b ia ib => exact fun T => snd_seq mc (ia T) (ib T)
  | raise c => exact fun T => snd_raise
  | rev a ia => exact fun T => snd_rev mc (ia T)
  | maxd a i ia => exact fun T => snd_maxd mc (ia T)
  | sortr a ia => exact fun T => snd_sortr mc (ia T)
  | attr c o f io => exact fun T => snd_attr mc (io T)
  | meth c f m o a io ia => exact fun T => snd_meth mc (io T) (ia T)
  | mk c f a ia => exact fun T => snd_mk mc (ia T)
  | gattr c o f io => exact fun T => snd_gattr mc (io T)
  | auga c o f op e io ie => exact fun T => snd_auga mc (io T) (ie T)
  | dead => exact fun T => snd_dead mc
  | raisen c e ie => exact fun T => {}
  | tryo b c s ib is => exact fun T => snd_tryo mc (ib T) (is T.toHot)
  | trya b c i s ib is => exact fun T => snd_trya mc (ib T) (is T.toHot)
  | tryf a f ia iff => exact fun T => {}
  | tryr a e f ia ie iff => exact fun T => {}
  | xnum o io => exact fun T => {}
theorem snd_all (c : Cd) : Snd T call kw isa cad c := snd_allT mc c T
end
end
end Wm

namespace Wm
open PySem PySem.Spec PyProof.Rows L2
/-! ### defs -/
structure Fn where
  np : Nat
  ns : Nat
  body : Cd
def env0 (ns : Nat) (ds : List Dt) : En := ds.map some ++ List.replicate (ns - ds.length) none
def callS (Γ : Nat → Option Fn) (kw : Nat → List Dt → List Str → List Dt → List Dt) (isa : Nat → Nat → Bool) : Nat → CallT
  | 0 => fun _ _ _ _ _ => False
  | k + 1 => fun f ds G Q E => ∃ F, Γ f = some F ∧ ds.length = F.np ∧ (sem (callS Γ kw isa k) kw isa F.body).s (env0 F.ns ds) G { nx := fun _ G' => Q .non G', rt := Q, xc := fun x _ G' => E x G' }
section
variable {Γ : Nat → Option Fn} {kw : Nat → List Dt → List Str → List Dt → List Dt} {isa : Nat → Nat → Bool}
theorem callS_mono : ∀ k : Nat, MonoC (callS Γ kw isa k)
  | 0 => ⟨fun _ _ h => h⟩
  | k + 1 => ⟨fun {f ds G Q Q' E E'} hQ hE ⟨F, e, l, h⟩ => ⟨F, e, l, (sem_mono (callS_mono k) F.body).s (K := { nx := fun _ G' => Q .non G', rt := Q, xc := fun x _ G' => E x G' }) (fun _ G' z => hQ _ _ z) hQ (fun _ _ z => z) (fun _ _ z => z) (fun x _ G' z => hE _ _ z) h⟩⟩
end
/-- what is known of one def of the text -/
structure DefOk (T : Tab) (Γ : Nat → Option Fn) (kw : Nat → List Dt → List Str → List Dt → List Dt) (K : PySem.W.Frag) (x : Str) (f : Nat) (fa : Addr) (fd : FuncData) (ps : List Str) : Prop where
  ex : ∃ (qual : Str) (params : Arguments) (body : List Stmt) (scope : Scope) (dvs : List V) (kws : List (Str × V)) (N : List Str) (F : Fn), FunD K x qual params body scope dvs kws fa fd ∧ FnScope N ps scope ∧ Γ f = some F ∧ F.np = ps.length ∧ F.ns = N.length ∧ (mat T N F.body scope fun _ => true).b body = true
  binds : ∀ n ks, T.shp.contains (f, n, ks) = true → KBd K fd ps n ks (kw f)
/-- what is known of the text, but the calls -/
structure TxtOk (T : Tab) (Γ : Nat → Option Fn) (kw : Nat → List Dt → List Str → List Dt → List Dt) (isa : Nat → Nat → Bool) (cad : Cad) (K : PySem.W.Frag) (mg : Str → Option Value) : Prop where
  cold : T.hot = false
  con : ∀ x d, T.con.lookup x = some d → ∃ u v, mg x = some u ∧ RelV v u ∧ ∀ H μ, Rp K H μ d v
  free : ∀ x, T.free.contains x = true → mg x = none
  fn : ∀ x f, T.fns.lookup x = some f → ∃ fa fd ps, mg x = some (.ref fa) ∧ DefOk T Γ kw K x f fa fd ps
  cls : ∀ x c, T.cls.lookup x = some c → mg x = some (.ref (cad c)) ∧ PySem.W.excIn K (cad c) He.veBase "ValueError.__new__" = true ∧ PySem.W.keepIn K (.ref (cad c)) = true ∧ PySem.W.subIn K (.ref (cad c)) (.type "BaseException") = some true ∧ PySem.W.typeIn K (.ref (cad c)) = some (.type "type") ∧ cad.ex c
  xcl : ∀ x c, T.xcl.lookup x = some c → mg x = some (.ref (cad c)) ∧ PySem.W.keepIn K (.ref (cad c)) = true ∧ PySem.W.subIn K (.ref (cad c)) (.type "BaseException") = some true ∧ PySem.W.typeIn K (.ref (cad c)) = some (.type "type") ∧ cad.ex c
  att : ∀ c f, T.att.contains (c, f) = true → Cls K (cad c) ∧ NoAttr K (cad c) f
  mts : ∀ c m f, T.mts.contains (c, m, f) = true → ∃ fa fd ps, Cls K (cad c) ∧ Meth K (cad c) m fa ∧ DefOk T Γ kw K m f fa fd ps
  mkr : ∀ x c f, T.mkr.contains (x, c, f) = true → ∃ fa fd ps, mg x = some (.ref (cad c)) ∧ Cls K (cad c) ∧ Mk K (cad c) fa ∧ DefOk T Γ kw K "__init__" f fa fd ps
  hfn : ∀ x f, T.hfns.lookup x = some f → ∃ fa fd ps, mg x = some (.ref fa) ∧ DefOk T.toHot Γ kw K x f fa fd ps
  xf : cad.on → XFacts K isa cad
  on : T.exk = true → cad.on
  sm : SmOk K
section
variable {T : Tab} {Γ : Nat → Option Fn} {kw : Nat → List Dt → List Str → List Dt → List Dt} {isa : Nat → Nat → Bool} {cad : Cad} {P : Program} {w : World} {K : PySem.W.Frag} {mg : Str → Option Value} {base : Heap}
theorem rel_start {H : Hp} {μ : List Addr} {G : Gh} {ds : List Dt} {vs : List V} {N : List Str} (hr : HRel K cad H μ G) (r : RpL K H μ ds vs) : Rel K cad H μ G (L2.start N vs) (env0 N.length ds) := by
  refine ⟨hr, ?_, fun i d e => ?_⟩
  · unfold L2.start env0
    simp [r.length]
  · unfold env0 at e
    unfold L2.start
    by_cases hi : i < ds.length
    · rw [List.getElem?_append_left (by simpa using hi), List.getElem?_map] at e
      cases q : ds[i]? with
      | none => rw [q] at e; cases e
      | some d' =>
        rw [q] at e
        cases e
        obtain ⟨v, e1, r1⟩ := r.get q
        refine ⟨v, ?_, r1⟩
        rw [List.getElem?_append_left (by simpa [← r.length] using hi), List.getElem?_map, e1]
        rfl
    · rw [List.getElem?_append_right (by simpa using hi)] at e
      have := List.mem_of_getElem? e
      rw [List.mem_replicate] at this
      cases this.2
theorem def_ok {x : Str} {f : Nat} {fa : Addr} {fd : FuncData} {ps : List Str} (D : DefOk T Γ kw K x f fa fd ps) (cold : T.hot = false) {k : Nat} (tk : Tok T (callS Γ kw isa k) kw isa cad P w K mg base k) (th : Tok T.toHot (callS Γ kw isa k) kw isa cad P w K mg base k) : FnG false P w K mg base (2 * (k + 1)) fa fd ps (spC K cad (callS Γ kw isa (k + 1)) f ps.length) := by
  obtain ⟨qual, params, body, scope, dvs, kws, N, F, hf, hs, hg, hn1, hn2, hm⟩ := D.ex
  refine fn_G (k := 2 * k + 1) hf hs (fun h => h.1) fun cdv A outer s H vs Q E gd hr h => ?_
  obtain ⟨hl, μ, G, ds, hr2, r, F', hg2, hnp, q⟩ := h
  rw [hg] at hg2
  cases hg2
  have mcall := callS_mono (Γ := Γ) (kw := kw) (isa := isa) k
  have ok : Cok T (callS Γ kw isa k) kw isa cad (cxOf (L2.CX P w) P w K mg base N qual scope fa cdv A outer s H E) fun cls d _ H => E cls d H := ⟨fun _ => rfl, hs.nd, takes_of rfl rfl rfl rfl, ⟨k, by rw [cold]; exact hr, tk, th⟩, gd⟩
  refine ⟨_, (snd_all (T := T) (isa := isa) mcall F.body).b _ _ ok ⟨passes_of rfl, rfl, rfl, rfl⟩ hs.kind body hm, μ, G, env0 F.ns ds, ?_, ?_⟩
  · rw [hn2]
    exact rel_start hr2 r
  · exact (sem_mono mcall F.body).s (K := { nx := fun _ G' => PostE K cad H μ Q .non G', rt := PostE K cad H μ Q, xc := fun x _ G' => PostX K cad H μ E x G' }) (fun e G' z μ' σ' H' p k' R' => z μ' _ H' p k' R'.h (rp_non.mpr rfl)) (fun d G' z => z) (fun e G' z => z.elim) (fun e G' z => z.elim)
      (fun x e G' z μ' σ' H' cls d p k' R' rx => z μ' H' cls d p k' R'.h rx) q
theorem def_okH {x : Str} {f : Nat} {fa : Addr} {fd : FuncData} {ps : List Str} (D : DefOk T.toHot Γ kw K x f fa fd ps) {k : Nat} (th : Tok T.toHot (callS Γ kw isa k) kw isa cad P w K mg base k) : FnG true P w K mg base (2 * (k + 1)) fa fd ps (spC K cad (callS Γ kw isa (k + 1)) f ps.length) := by
  obtain ⟨qual, params, body, scope, dvs, kws, N, F, hf, hs, hg, hn1, hn2, hm⟩ := D.ex
  refine fn_GH (k := 2 * k + 1) hf hs (fun h => h.1) fun cdv A outer s H vs Q E p gd hr h => ?_
  obtain ⟨hl, μ, G, ds, hr2, r, F', hg2, hnp, q⟩ := h
  rw [hg] at hg2
  cases hg2
  have mcall := callS_mono (Γ := Γ) (kw := kw) (isa := isa) k
  have ok : Cok T.toHot (callS Γ kw isa k) kw isa cad (L2H.cxH (L2.CX P w) P w K mg base N qual scope fa cdv A outer s H E p) fun cls d _ H => E cls d H := ⟨fun z => (by cases z), hs.nd, takes_of rfl rfl rfl rfl, ⟨k, hr, th, th⟩, gd⟩
  refine ⟨_, (snd_all (T := T.toHot) (isa := isa) mcall F.body).b _ _ ok ⟨passes_of rfl, rfl, rfl, rfl⟩ hs.kind body hm, μ, G, env0 F.ns ds, ?_, ?_⟩
  · rw [hn2]
    exact rel_start hr2 r
  · exact (sem_mono mcall F.body).s (K := { nx := fun _ G' => PostE K cad H μ Q .non G', rt := PostE K cad H μ Q, xc := fun x _ G' => PostX K cad H μ E x G' }) (fun e G' z μ' σ' H' p k' R' => z μ' _ H' p k' R'.h (rp_non.mpr rfl)) (fun d G' z => z) (fun e G' z => z.elim) (fun e G' z => z.elim)
      (fun x e G' z μ' σ' H' cls d p k' R' rx => z μ' H' cls d p k' R'.h rx) q
theorem def_0 {hot : Bool} {f : Nat} {fa : Addr} {fd : FuncData} {ps : List Str} : FnG hot P w K mg base (2 * 0) fa fd ps (spC K cad (callS Γ kw isa 0) f ps.length) :=
  ⟨fun h => h.1, fun _ hr he hb hv h => by obtain ⟨_, _, _, _, _, _, z⟩ := h; exact z.elim⟩
theorem tok_of (X : TxtOk T Γ kw isa cad K mg) (k : Nat) (hc : ∀ {x : Str} {f : Nat} {fa : Addr} {fd : FuncData} {ps : List Str}, DefOk T Γ kw K x f fa fd ps → FnG false P w K mg base (2 * k) fa fd ps (spC K cad (callS Γ kw isa k) f ps.length))
    (hh : ∀ {x : Str} {f : Nat} {fa : Addr} {fd : FuncData} {ps : List Str}, DefOk T.toHot Γ kw K x f fa fd ps → FnG true P w K mg base (2 * k) fa fd ps (spC K cad (callS Γ kw isa k) f ps.length)) : Tok T (callS Γ kw isa k) kw isa cad P w K mg base k ∧ Tok T.toHot (callS Γ kw isa k) kw isa cad P w K mg base k := by
  refine ⟨⟨X.con, X.free, fun x f e => ?_, X.cls, X.xcl, X.att, fun _ c m f e => ?_, fun _ x c f e => ?_, X.xf, X.on, X.sm⟩, ⟨X.con, X.free, fun x f e => ?_, X.cls, X.xcl, X.att, fun z => (by cases z), fun z => (by cases z), X.xf, X.on, X.sm⟩⟩
  · obtain ⟨fa, fd, ps, hm, D⟩ := X.fn x f e
    obtain ⟨qual, params, body, scope, dvs, kws, N, F, hf, _⟩ := D.ex
    exact ⟨fa, fd, ps, hm, hf.kp, by rw [X.cold]; exact hc D, D.binds⟩
  · obtain ⟨fa, fd, ps, h1, h2, D⟩ := X.mts c m f e
    exact ⟨fa, fd, ps, h1, h2, by rw [X.cold]; exact hc D, D.binds⟩
  · obtain ⟨fa, fd, ps, h1, h2, h3, D⟩ := X.mkr x c f e
    exact ⟨fa, fd, ps, h1, h2, h3, by rw [X.cold]; exact hc D, D.binds⟩
  · obtain ⟨fa, fd, ps, hm, D⟩ := X.hfn x f e
    obtain ⟨qual, params, body, scope, dvs, kws, N, F, hf, _⟩ := D.ex
    exact ⟨fa, fd, ps, hm, hf.kp, hh D, D.binds⟩
theorem tok_all (X : TxtOk T Γ kw isa cad K mg) : ∀ k : Nat, Tok T (callS Γ kw isa k) kw isa cad P w K mg base k ∧ Tok T.toHot (callS Γ kw isa k) kw isa cad P w K mg base k
  | 0 => tok_of X 0 (fun _ => def_0) (fun _ => def_0)
  | k + 1 => tok_of X (k + 1) (fun D => def_ok D X.cold (tok_all X k).1 (tok_all X k).2) (fun D => def_okH D (tok_all X k).2)
end
end Wm

namespace Wm
open PySem PySem.Spec PyProof.Rows L2
/-- nothing but plain parameters -/
def plainP (p : Arguments) (ps : List Str) : Bool := p.posonlyargs.isEmpty && decide (p.args.map (·.arg) = ps) && p.vararg.isNone && p.kwonlyargs.isEmpty && p.kwarg.isNone && decide ps.Nodup
theorem zip_lookup {α : Type} : ∀ {ns : List Str} {us : List α}, ns.Nodup → us.length = ns.length → ∀ n ∈ ns, ((ns.zip us).lookup n).isSome = true
  | [], _, _, _, n, h => by cases h
  | m :: ns, [], _, hl, n, h => by cases hl
  | m :: ns, u :: us, nd, hl, n, h => by
    rw [List.zip_cons_cons, List.lookup_cons]
    cases e : (n == m) with
    | true => rfl
    | false =>
      have hn : n ∈ ns := by
        rcases List.mem_cons.mp h with rfl | h
        · rw [beq_self_eq_true] at e; cases e
        · exact h
      exact zip_lookup (List.nodup_cons.mp nd).2 (by simpa using hl) n hn
theorem zip_filter {α : Type} : ∀ {ns : List Str} {us : List α}, ns.Nodup → us.length = ns.length → (ns.filterMap fun n => ((ns.zip us).lookup n).map (n, ·)) = ns.zip us
  | [], us, _, hl => by
    have : us = [] := List.eq_nil_of_length_eq_zero hl
    subst this; rfl
  | m :: ns, [], _, hl => by cases hl
  | m :: ns, u :: us, nd, hl => by
    obtain ⟨hm, nd2⟩ := List.nodup_cons.mp nd
    rw [List.filterMap_cons, List.zip_cons_cons, List.lookup_cons, beq_self_eq_true]
    show (m, u) :: _ = _
    congr 1
    have key : ∀ l : List Str, (∀ n ∈ l, n ≠ m) → (l.filterMap fun n => (((m, u) :: ns.zip us).lookup n).map (n, ·)) = l.filterMap fun n => ((ns.zip us).lookup n).map (n, ·) := fun l => by
      induction l with
      | nil => intro _; rfl
      | cons n l ih =>
        intro h
        have e : (n == m) = false := beq_eq_false_iff_ne.mpr (h n List.mem_cons_self)
        rw [List.filterMap_cons, List.filterMap_cons, List.lookup_cons, e, ih fun k hk => h k (List.mem_cons_of_mem _ hk)]
    rw [key ns fun n hn e => hm (e ▸ hn)]
    exact zip_filter nd2 (by simpa using hl)
theorem bind_plain {x qual : Str} {p : Arguments} {body : List Stmt} {sc : Scope} {kV doc pm cdv ct : Value} {an : Option Addr} {ps : List Str} (h : plainP p ps = true) {us : List Value} (hl : us.length = ps.length) :
    bindArgs (PySem.W.fnOf x qual p body sc .none kV doc pm an cdv ct) ⟨us, []⟩ = pure (ps.zip us) := by
  obtain ⟨pos, args, va, kwo, kwd, kwa, dfl⟩ := p
  unfold plainP at h
  simp only [Bool.and_eq_true, List.isEmpty_iff, Option.isNone_iff_eq_none, decide_eq_true_eq] at h
  obtain ⟨⟨⟨⟨⟨h1, h2⟩, h3⟩, h4⟩, h5⟩, h6⟩ := h
  subst h1 h3 h4 h5
  subst h2
  unfold bindArgs PySem.W.fnOf
  have e1 : ¬ (us.length > (args.map (·.arg)).length) := by omega
  have e2 : (List.filter (fun n => (List.lookup n ((args.map (·.arg)).zip us)).isNone) (args.map (·.arg))) = [] := by
    rw [List.filter_eq_nil_iff]
    intro n hn
    have := zip_lookup h6 hl n hn
    cases q : List.lookup n ((args.map (·.arg)).zip us) with
    | none => rw [q] at this; cases this
    | some v => simp
  have es : seqItems? Value.none = pure none := rfl
  simp only [List.map_nil, List.nil_append, List.append_nil, List.forIn_nil, pure_bind, es, decide_eq_false e1, Bool.false_and, Bool.false_eq_true, if_false]
  have e3 : ((none : Option (Array Value)).getD #[]).toList = [] := rfl
  simp only [e3, List.length_nil, Nat.sub_zero, Nat.zero_sub, List.drop_nil, List.take_length, e2, List.isEmpty_nil, Bool.not_true, Bool.false_eq_true, if_false, List.zip_nil_right, List.forIn_nil, pure_bind]
  rw [zip_filter h6 hl]
end Wm

namespace Wm
open PySem PySem.Spec PyProof.Rows L2
def scopeB (N ps : List Str) (sc : Scope) : Bool := (match sc.kind with | .function => true | _ => false) && !sc.isCoroutine && !sc.isGenerator && decide N.Nodup && decide (N.take ps.length = ps) && (ps.all fun x => match sc.names.lookup x with | some .local => true | some .cell => true | _ => false) && (sc.names.all fun y => match y.2 with | .free => false | _ => true)
theorem scope_of {N ps : List Str} {sc : Scope} (h : scopeB N ps sc = true) : FnScope N ps sc := by
  unfold scopeB at h
  obtain ⟨h, h7⟩ := b2 h
  obtain ⟨h, h6⟩ := b2 h
  obtain ⟨h, h5⟩ := b2 h
  obtain ⟨h, h4⟩ := b2 h
  obtain ⟨h, h3⟩ := b2 h
  obtain ⟨h1, h2⟩ := b2 h
  refine ⟨?_, by simpa using h2, by simpa using h3, of_decide_eq_true h4, of_decide_eq_true h5, fun x hx => ?_, fun y hy => ?_⟩
  · split at h1
    · rename_i e; exact e
    · cases h1
  · have := List.all_eq_true.mp h6 x hx
    split at this
    · rename_i e; exact .inl e
    · rename_i e; exact .inr e
    · cases this
  · have := List.all_eq_true.mp h7 y hy
    split at this
    · cases this
    · rename_i e; exact e
def entB (T : Tab) (Γ : Nat → Option Fn) (P : Program) (e : Ent) : Bool := scopeB e.N e.ps (defScope (e.st P)) && (match Γ e.f with
  | some F => F.np == e.ps.length && F.ns == e.N.length && (mat T e.N F.body (defScope (e.st P)) fun _ => true).b (defBody (e.st P)) && (!(T.hfns.contains (e.x, e.f) && e.cl.isNone) || (mat T.toHot e.N F.body (defScope (e.st P)) fun _ => true).b (defBody (e.st P)))
  | none => false) && e.kwd.all fun q => scalD q.2
def cadP (K : PySem.W.Frag) (T : Tab) : Nat → Addr := fun c => match T.xcl.find? (fun q => q.2 == c) with
  | some q => He.ga K q.1
  | none => He.ga K (clsName T c)
def cadOf (K : PySem.W.Frag) (T : Tab) : Cad := ⟨cadP K T, fun c => ∃ x, T.xcl.lookup x = some c, T.exk = true⟩
/-- the tables are well made -/
def isTupQ : Str × Dt → Bool
  | (_, .tup _) => true
  | _ => false
theorem itB_ok {d : Dt} {v : Value} (h : itB d v = true) : ∃ x : V, RelV x v ∧ ∀ K H μ, Rp K H μ d x := by
  unfold itB at h
  split at h
  · exact ⟨.non, rfl, fun K H μ => rp_non.mpr rfl⟩
  · rename_i b c
    have : b = c := by simpa using h
    subst this
    exact ⟨.bl _, rfl, fun K H μ => rp_bl.mpr rfl⟩
  · rename_i i j t
    have : i = j := by simpa using h
    subst this
    exact ⟨.int _, ⟨t, rfl⟩, fun K H μ => rp_int.mpr rfl⟩
  · rename_i i j t
    have : i = j := by simpa using h
    subst this
    exact ⟨.str _, ⟨t, rfl⟩, fun K H μ => rp_str.mpr rfl⟩
  · cases h
theorem itsB_ok : ∀ {ds : List Dt} {vs : List Value}, itsB ds vs = true → ∃ xs : List V, Vals xs vs ∧ ∀ K H μ, RpL K H μ ds xs
  | [], [], _ => ⟨[], .nil, fun K H μ => rpl_nil.mpr rfl⟩
  | d :: ds, v :: vs, h => by
    obtain ⟨h1, h2⟩ := b2 (show (itB d v && itsB ds vs) = true from h)
    obtain ⟨x, r, p⟩ := itB_ok h1
    obtain ⟨xs, rs, ps⟩ := itsB_ok h2
    exact ⟨x :: xs, .cons r rs, fun K H μ => rpl_cons.mpr ⟨x, xs, rfl, p K H μ, ps K H μ⟩⟩
  | [], _ :: _, h => by cases h
  | _ :: _, [], h => by cases h
theorem frc_eq {f : Addr → Bool} {a : Addr} : frc f a = f a := by cases a <;> rfl
theorem tupB_ok {K : PySem.W.Frag} {h : Heap} {mg : Str → Option Value} (X : K.In h) (G : h.Ns mainGlobals mg) {x : Str} {ds : List Dt} (c : tupB K (x, .tup ds) = true) : ∃ u v, mg x = some u ∧ RelV v u ∧ ∀ H μ, Rp K H μ (.tup ds) v := by
  unfold tupB at c
  split at c
  · rename_i y es e0
    cases e0
    split at c
    · rename_i a e
      rw [frc_eq] at c
      unfold tupA at c
      split at c
      · rename_i t od its n sl e2
        obtain ⟨c, c3⟩ := b2 c
        obtain ⟨c1, c2⟩ := b2 c
        have et : t = "tuple" := by simpa using c1
        subst et
        obtain ⟨xs, rv, rp⟩ := itsB_ok c2
        exact ⟨.ref a, .ref a, PySem.W.mg_of X G e, rfl, fun H μ => rp_tup.mpr ⟨a, xs, rfl, .inr ⟨_, its, n, e2, rfl, rfl, of_decide_eq_true c3, rv⟩, rp K H μ⟩⟩
      · cases c
    · cases c
  · rename_i hn
    exact absurd rfl (hn x ds)
def mkrB (T : Tab) (es : List Ent) (q : Str × Nat × Nat) : Bool := (T.xcl.find? fun r => r.2 == q.2.1).isNone && (clsName T q.2.1 == q.1) && es.any fun e => e.f == q.2.2 && e.fp == (q.1, some ("__init__" : Str)) && e.x == ("__init__" : Str)
def mtsB (T : Tab) (es : List Ent) (q : Nat × Str × Nat) : Bool := (T.xcl.find? fun r => r.2 == q.1).isNone && (T.mkr.any fun r => r.2.1 == q.1) && es.any fun e => e.f == q.2.2 && e.fp == (clsName T q.1, some q.2.1) && e.x == q.2.1
def attB (T : Tab) (q : Nat × Str) : Bool := (T.xcl.find? fun r => r.2 == q.1).isNone && T.mkr.any fun r => r.2.1 == q.1
def objB (T : Tab) (es : List Ent) : Bool := T.mkr.all (mkrB T es) && T.mts.all (mtsB T es) && T.att.all (attB T)
def tabB (T : Tab) (es : List Ent) : Bool := (T.con.all fun q => (conFa q).isSome || isTupQ q) && (T.xcl.all fun q => (T.xcl.find? (fun r => r.2 == q.2)).map (·.1) == some q.1) && objB T es && (!T.hot && (T.xcl.all fun q => ((q.2 == 19) == (q.1 == ("LineError" : Str))) && (T.ncl.isEmpty || T.exk)) && T.hfns.all fun q => es.any fun e => e.x == q.1 && e.f == q.2 && e.cl.isNone) && decide (T.fns = (es.filter fun e => e.cl.isNone).map fun e => (e.x, e.f))
theorem lookup_mem {α β : Type} [BEq α] [LawfulBEq α] : ∀ {l : List (α × β)} {a : α} {b : β}, l.lookup a = some b → (a, b) ∈ l
  | [], _, _, h => by cases h
  | (x, y) :: l, a, b, h => by
    rw [List.lookup_cons] at h
    cases e : (a == x) with
    | true =>
      rw [e] at h
      cases h
      rw [eq_of_beq e]
      exact List.mem_cons_self
    | false =>
      rw [e] at h
      exact List.mem_cons_of_mem _ (lookup_mem h)
/-- a def with plain parameters -/
theorem kbd_plain {K : PySem.W.Frag} {x qual : Str} {p : Arguments} {body : List Stmt} {sc : Scope} {kws : List (Str × V)} {fa : Addr} {fd : FuncData} {ps : List Str} (F : FunD K x qual p body sc [] kws fa fd) (h : plainP p ps = true) {kwf : List Dt → List Str → List Dt → List Dt} (hk : ∀ xs, kwf xs [] [] = xs) : KBd K fd ps ps.length [] kwf := by
  obtain ⟨oc, od, dV, kV, doc, pm, an, cdv, ct, osl, rfl, lk, hcd, hD, hK⟩ := F.ex
  have ed : dV = .none := by
    rcases hD with ⟨_, e⟩ | ⟨e, _⟩
    · exact e
    · exact absurd rfl e
  subst ed
  refine ⟨fun us _ => us, fun vs _ => vs, ⟨fun s us ws _ h1 _ => .of_eq (bind_plain h h1), fun r _ => r⟩, fun H μ xs vs ys zs l1 l2 r r2 => ?_⟩
  have e : zs = [] := List.eq_nil_of_length_eq_zero l2
  subst e
  have e2 : ys = [] := List.eq_nil_of_length_eq_zero (r2.length)
  subst e2
  rw [hk]
  exact ⟨r, l1⟩
/-- the keyword-only defaults in their places -/
def kwF (kwd : Nat → List (Str × Dt)) : Nat → List Dt → List Str → List Dt → List Dt := fun f xs ks ys => xs ++ (kwd f).map fun q => ((ks.zip ys).lookup q.1).getD q.2
/-- one def -/
theorem def_of {T : Tab} {Γ : Nat → Option Fn} {kwd : Nat → List (Str × Dt)} {P : Program} {es : List Ent} {fa : List He.Fa} {K : PySem.W.Frag} (c : He.SaysD fa (es.map (Ent.dd P)) K) (hE : es.all (entB T Γ P) = true)
    (hB : ∀ e ∈ es, ∀ fd, FunD K e.x e.qn (defArgs (e.st P)) (defBody (e.st P)) (defScope (e.st P)) [] ((e.dd P).kws K) (He.fAd K e.fp) fd → ∀ n ks, T.shp.contains (e.f, n, ks) = true → KBd K fd e.ps n ks (kwF kwd e.f)) {en : Ent} (hen : en ∈ es) :
    ∃ fd, FunD K en.x en.qn (defArgs (en.st P)) (defBody (en.st P)) (defScope (en.st P)) [] ((en.dd P).kws K) (He.fAd K en.fp) fd ∧ DefOk T Γ (kwF kwd) K en.x en.f (He.fAd K en.fp) fd en.ps := by
  obtain ⟨fd, hf⟩ := He.SaysD.defs c (d := en.dd P) (List.mem_map.mpr ⟨en, hen, rfl⟩)
  have hb := List.all_eq_true.mp hE en hen
  unfold entB at hb
  obtain ⟨hb, _⟩ := b2 hb
  obtain ⟨b1, b3⟩ := b2 hb
  have hf2 : FunD K en.x en.qn (defArgs (en.st P)) (defBody (en.st P)) (defScope (en.st P)) [] ((en.dd P).kws K) (He.fAd K en.fp) fd := hf
  refine ⟨fd, hf2, ?_, hB en hen fd hf2⟩
  split at b3
  · rename_i F eF
    obtain ⟨b3, b7⟩ := b2 b3
    obtain ⟨b3, b6⟩ := b2 b3
    obtain ⟨b4, b5⟩ := b2 b3
    exact ⟨_, _, _, _, _, _, en.N, F, hf2, scope_of b1, eF, by simpa using b4, by simpa using b5, b6⟩
  · cases b3
theorem def_ofH {T : Tab} {Γ : Nat → Option Fn} {kwd : Nat → List (Str × Dt)} {P : Program} {es : List Ent} {fa : List He.Fa} {K : PySem.W.Frag} (c : He.SaysD fa (es.map (Ent.dd P)) K) (hE : es.all (entB T Γ P) = true)
    (hB : ∀ e ∈ es, ∀ fd, FunD K e.x e.qn (defArgs (e.st P)) (defBody (e.st P)) (defScope (e.st P)) [] ((e.dd P).kws K) (He.fAd K e.fp) fd → ∀ n ks, T.shp.contains (e.f, n, ks) = true → KBd K fd e.ps n ks (kwF kwd e.f)) {en : Ent} (hen : en ∈ es) (hh : (T.hfns.contains (en.x, en.f) && en.cl.isNone) = true) :
    ∃ fd, DefOk T.toHot Γ (kwF kwd) K en.x en.f (He.fAd K en.fp) fd en.ps := by
  obtain ⟨fd, hf⟩ := He.SaysD.defs c (d := en.dd P) (List.mem_map.mpr ⟨en, hen, rfl⟩)
  have hb := List.all_eq_true.mp hE en hen
  unfold entB at hb
  obtain ⟨hb, _⟩ := b2 hb
  obtain ⟨b1, b3⟩ := b2 hb
  have hf2 : FunD K en.x en.qn (defArgs (en.st P)) (defBody (en.st P)) (defScope (en.st P)) [] ((en.dd P).kws K) (He.fAd K en.fp) fd := hf
  refine ⟨fd, ?_, hB en hen fd hf2⟩
  split at b3
  · rename_i F eF
    obtain ⟨b3, b7⟩ := b2 b3
    obtain ⟨b3, b6⟩ := b2 b3
    obtain ⟨b4, b5⟩ := b2 b3
    rw [hh] at b7
    exact ⟨_, _, _, _, _, _, en.N, F, hf2, scope_of b1, eF, by simpa using b4, by simpa using b5, by simpa using b7⟩
  · cases b3
theorem mro_cls {K : PySem.W.Frag} {C : Addr} {cd : ClassData} {m : List Value} (h : PySem.W.clsIn K C = some cd) (e : cd.mro = m) (n : m.isEmpty = false) (b : Value) : PySem.W.mroIn K C b = some (m.contains b) := by
  unfold PySem.W.mroIn
  rw [h, Option.bind_some, e, n]
  rfl
theorem mroX_type {L C : Addr} {p : Str × Nat} {x : String} (h : PySem.HandSPX.veTail.contains (.type x) = true) : (mroX L C p).contains (.type x) = true := by
  unfold mroX
  rw [List.contains_cons]
  have : (PySem.HandSPX.veTail.contains (Value.type x) = true) → (if (p.2 == 19) = true then PySem.HandSPX.veTail else .ref L :: PySem.HandSPX.veTail).contains (Value.type x) = true := fun h => by
    split
    · exact h
    · rw [List.contains_cons, h, Bool.or_true]
  rw [this h, Bool.or_true]
theorem mroX_ref {L C : Addr} {p : Str × Nat} {D : Addr} : (mroX L C p).contains (.ref D) = (decide (D = C) || (!(p.2 == 19) && decide (D = L))) := by
  have tail : PySem.HandSPX.veTail.contains (Value.ref D) = false := by
    rw [List.contains_eq_any_beq]
    simp [PySem.HandSPX.veTail]
  have br : ∀ a : Addr, (Value.ref D == Value.ref a) = decide (D = a) := fun a => by
    by_cases e : D = a
    · subst e; simp
    · have : ¬ (Value.ref D = Value.ref a) := fun z => e (Value.ref.inj z)
      simp [e]
  unfold mroX
  rw [List.contains_cons, br]
  congr 1
  cases e : (p.2 == 19) with
  | true => simp only [if_true, tail, Bool.not_true, Bool.false_and]
  | false => simp only [Bool.false_eq_true, if_false, List.contains_cons, br, tail, Bool.or_false, Bool.not_false, Bool.true_and]
theorem txt_ok {T : Tab} {Γ : Nat → Option Fn} {kwd : Nat → List (Str × Dt)} {P : Program} {es : List Ent} {K : PySem.W.Frag} {h : Heap} {mg : Str → Option Value} (X : K.In h) (G : h.Ns mainGlobals mg) (c : He.SaysD (faOf T) (es.map (Ent.dd P)) K) (cx : conX T K = true)
    (hT : tabB T es = true) (hE : es.all (entB T Γ P) = true) (hB : ∀ e ∈ es, ∀ fd, FunD K e.x e.qn (defArgs (e.st P)) (defBody (e.st P)) (defScope (e.st P)) [] ((e.dd P).kws K) (He.fAd K e.fp) fd → ∀ n ks, T.shp.contains (e.f, n, ks) = true → KBd K fd e.ps n ks (kwF kwd e.f)) :
    TxtOk T Γ (kwF kwd) isaF (cadOf K T) K mg := by
  unfold tabB at hT
  obtain ⟨hT, t3⟩ := b2 hT
  obtain ⟨hT, t7⟩ := b2 hT
  obtain ⟨hT, t4⟩ := b2 hT
  obtain ⟨t1, t2⟩ := b2 hT
  obtain ⟨t7, t8⟩ := b2 t7
  unfold conX at cx
  obtain ⟨cx, xx⟩ := b2 cx
  obtain ⟨smx, xx⟩ := b2 xx
  obtain ⟨t7, t9⟩ := b2 t7
  unfold objB at t4
  obtain ⟨t4, t6⟩ := b2 t4
  obtain ⟨t4, t5⟩ := b2 t4
  have fact : ∀ f : He.Fa, f ∈ faOf T → f.ok K = true := fun f hf => He.SaysD.facts c hf
  have objF : ∀ f : He.Fa, f ∈ faObj T → f.ok K = true := fun f hf => fact f (List.mem_append_right _ (List.mem_append_right _ (List.mem_append_right _ (List.mem_append_right _ (List.mem_append_right _ hf)))))
  have cadN : ∀ c, (T.xcl.find? fun r => r.2 == c).isNone = true → cadOf K T c = He.ga K (clsName T c) := fun c h => by
    show cadP K T c = _
    unfold cadP
    rw [Option.isNone_iff_eq_none.mp h]
  have clsF : ∀ c, (T.xcl.find? fun r => r.2 == c).isNone = true → (T.mkr.any fun r => r.2.1 == c) = true → Cls K (cadOf K T c) := fun c h1 h2 => by
    obtain ⟨r, hr, er⟩ := List.any_eq_true.mp h2
    have er : r.2.1 = c := by simpa using er
    have hk := List.all_eq_true.mp t4 r hr
    unfold mkrB at hk
    obtain ⟨hk, _⟩ := b2 hk
    obtain ⟨_, hk⟩ := b2 hk
    have en : clsName T r.2.1 = r.1 := by simpa using hk
    rw [cadN c h1, ← er, en]
    exact He.cls_ok (objF (.cls r.1) (List.mem_append_right _ (List.mem_append_left _ (List.mem_map.mpr ⟨r, hr, rfl⟩))))
  have exF : ∀ x c, T.xcl.lookup x = some c → mg x = some (.ref (cadOf K T c)) ∧ PySem.W.keepIn K (.ref (cadOf K T c)) = true ∧ cadOf K T c = He.ga K x ∧ (x, c) ∈ T.xcl := fun x k e => by
    have hm := lookup_mem e
    have h1 := List.all_eq_true.mp t2 _ hm
    have ec : cadOf K T k = He.ga K x := by
      show cadP K T k = _
      unfold cadP
      cases e1 : T.xcl.find? (fun r => r.2 == k) with
      | none => simp only [e1] at h1; cases h1
      | some r =>
        simp only [e1] at h1
        have : r.1 = x := by simpa using h1
        show He.ga K r.1 = _
        rw [this]
    rw [ec]
    rcases List.mem_append.mp (show (x, k) ∈ T.cls ++ T.ncl from hm) with hm2 | hm2
    · refine ⟨He.glo_ok X G (fact (.glo x) (List.mem_append_right _ (List.mem_append_right _ (List.mem_append_right _ (List.mem_append_left _ (List.mem_map.mpr ⟨_, hm2, rfl⟩)))))), (He.exc_ok (fact (.exc x) (List.mem_append_right _ (List.mem_append_right _ (List.mem_append_right _ (List.mem_append_right _ (List.mem_append_left _ (List.mem_map.mpr ⟨_, hm2, rfl⟩)))))))).2.1, rfl, hm⟩
    · exact ⟨He.glo_ok X G (objF (.glo x) (List.mem_append_right _ (List.mem_append_right _ (List.mem_append_right _ (List.mem_append_right _ (List.mem_append_right _ (List.mem_append_left _ (List.mem_map.mpr ⟨_, hm2, rfl⟩)))))))), He.keep_ok (objF (.keep x) (List.mem_append_right _ (List.mem_append_right _ (List.mem_append_right _ (List.mem_append_right _ (List.mem_append_right _ (List.mem_append_right _ (List.mem_map.mpr ⟨_, hm2, rfl⟩)))))))), rfl, hm⟩
  have exOne : T.exk = true → ∀ x c, T.xcl.lookup x = some c → ∃ cd, PySem.W.clsIn K (He.ga K x) = some cd ∧ cd.name = x ∧ cd.mro = mroX (He.ga K "LineError") (He.ga K x) (x, c) ∧ PySem.W.findIn K (.ref (He.ga K x)) "__getattribute__" = some (some (.builtin "BaseException.__getattribute__")) ∧ PySem.W.findIn K (.ref (He.ga K x)) "__getattr__" = some none ∧ PySem.W.findIn K (.ref (He.ga K x)) "__class__" = some (some (.builtin "object.__class__")) ∧ PySem.W.typeIn K (.ref (He.ga K x)) = some (.type "type") := fun hk x c e => by
    have xx := xx
    unfold excX at xx
    rw [hk, Bool.not_true, Bool.false_or] at xx
    have xx := (b2 (b2 xx).2).2
    rw [frc_eq] at xx
    have xx := (b2 xx).2
    obtain ⟨_, _, _, hm⟩ := exF x c e
    have q := List.all_eq_true.mp xx _ hm
    rw [frc_eq] at q
    unfold excK1 at q
    obtain ⟨q0, q⟩ := b2 q
    obtain ⟨q2, q⟩ := b2 q
    obtain ⟨q3, q⟩ := b2 q
    obtain ⟨q4, q5⟩ := b2 q
    cases e0 : PySem.W.clsIn K (He.ga K x) with
    | none => simp only [e0] at q0; cases q0
    | some cd =>
      simp only [e0] at q0
      obtain ⟨a1, a2⟩ := b2 q0
      exact ⟨cd, rfl, of_decide_eq_true a1, of_decide_eq_true a2, of_decide_eq_true q2, of_decide_eq_true q3, of_decide_eq_true q4, of_decide_eq_true q5⟩
  have ne : ∀ (L C : Addr) (p : Str × Nat), (mroX L C p).isEmpty = false := fun _ _ _ => rfl
  have exN : ∀ x c, T.xcl.lookup x = some c → PySem.W.subIn K (.ref (cadOf K T c)) (.type "BaseException") = some true ∧ PySem.W.typeIn K (.ref (cadOf K T c)) = some (.type "type") := fun x c e => by
    obtain ⟨_, _, ec, hm⟩ := exF x c e
    rw [ec]
    rcases List.mem_append.mp (show (x, c) ∈ T.cls ++ T.ncl from hm) with hm2 | hm2
    · have q := He.exc_ok (fact (.exc x) (List.mem_append_right _ (List.mem_append_right _ (List.mem_append_right _ (List.mem_append_right _ (List.mem_append_left _ (List.mem_map.mpr ⟨_, hm2, rfl⟩)))))))
      exact ⟨q.2.2.1, q.2.2.2⟩
    · have hk : T.exk = true := by
        have := (b2 (List.all_eq_true.mp t9 _ hm)).2
        cases hn : T.ncl with
        | nil => rw [hn] at hm2; cases hm2
        | cons _ _ => rw [hn] at this; simpa using this
      obtain ⟨cd, h1, _, h2, _, _, _, h6⟩ := exOne hk x c e
      refine ⟨?_, h6⟩
      show PySem.W.mroIn K (He.ga K x) _ = _
      rw [mro_cls h1 h2 (ne _ _ _), mroX_type (by decide +kernel)]
  have smX : SmOk K := by
    unfold smB at smx
    split at smx
    · rename_i o eo
      exact ⟨o, eo, of_decide_eq_true smx⟩
    · cases smx
  have exX : T.exk = true → XFacts K isaF (cadOf K T) := fun hk => by
    have one := exOne hk
    have xx := xx
    unfold excX at xx
    rw [hk, Bool.not_true, Bool.false_or] at xx
    obtain ⟨x1, xx⟩ := b2 xx
    obtain ⟨x2, xx⟩ := b2 xx
    rw [frc_eq] at xx
    obtain ⟨xl, xx⟩ := b2 xx
    have x1 := of_decide_eq_true x1
    have x2 := of_decide_eq_true x2
    have sbT : ∀ x c y, T.xcl.lookup x = some c → PySem.HandSPX.veTail.contains (.type y) = true → PySem.W.subIn K (.ref (He.ga K x)) (.type y) = some true := fun x c y e hy => by
      obtain ⟨cd, h1, _, h2, _⟩ := one x c e
      show PySem.W.mroIn K (He.ga K x) _ = _
      rw [mro_cls h1 h2 (ne _ _ _), mroX_type hy]
    have nmL : ∀ {D : Addr} {cd : ClassData}, D = He.ga K "LineError" → PySem.W.clsIn K D = some cd → cd.name = "LineError" := fun {D cd} e1 e2 => by
      unfold namB at xl
      rw [e1] at e2
      rw [e2] at xl
      exact of_decide_eq_true xl
    have sub : ∀ x c y d, T.xcl.lookup x = some c → T.xcl.lookup y = some d → PySem.W.subIn K (.ref (He.ga K x)) (.ref (He.ga K y)) = some (isaF c d) := fun x c y d e1 e2 => by
      obtain ⟨cd, h1, n1, h2, _⟩ := one x c e1
      obtain ⟨cd2, g1, n2, g2, _⟩ := one y d e2
      show PySem.W.mroIn K (He.ga K x) _ = _
      rw [mro_cls h1 h2 (ne _ _ _), mroX_ref]
      have hd := (b2 (List.all_eq_true.mp t9 _ (exF y d e2).2.2.2)).1
      have hd : (d == 19) = (y == ("LineError" : Str)) := by simpa using hd
      have s1 : decide (He.ga K y = He.ga K x) = (c == d) := by
        by_cases z : He.ga K y = He.ga K x
        · rw [z, h1] at g1
          cases g1
          have : x = y := n1.symm.trans n2
          subst this
          rw [e1] at e2
          cases e2
          simp
        · have : c ≠ d := fun w => by
            subst w
            have a1 := (exF x c e1).2.2.1
            have a2 := (exF y c e2).2.2.1
            exact z (a2.symm.trans a1)
          simp [z, this]
      have s2 : decide (He.ga K y = He.ga K "LineError") = (d == 19) := by
        rw [hd]
        by_cases z : He.ga K y = He.ga K "LineError"
        · have := nmL z g1
          rw [n2] at this
          subst this
          simp
        · have : y ≠ "LineError" := fun w => z (by rw [w])
          simp [z, this]
      rw [s1, s2]
      unfold isaF
      congr 1
      cases ec : (c == 19) with
      | false => rw [Bool.not_false, Bool.true_and]
      | true =>
        have ec : c = 19 := by simpa using ec
        subst ec
        rw [Bool.not_true, Bool.false_and, Bool.or_false]
        by_cases w : d = 19
        · subst w; rfl
        · have a1 : (19 == d) = false := by simp; omega
          have a2 : (d == 19) = false := by simp [w]
          rw [a1, a2]
          rfl
    have cls1 : ∀ y d, T.xcl.lookup y = some d → ((PySem.W.clsIn K (He.ga K y)).isSome && PySem.W.typeIn K (.ref (He.ga K y)) == some (.type "type")) = true := fun y d e => by
      obtain ⟨cd, h1, _, _, _, _, _, h7⟩ := one y d e
      rw [h1, h7]
      rfl
    refine ⟨fun c ⟨x, e⟩ => ?_, fun c d ⟨x, e⟩ ⟨y, e2⟩ => ?_, fun c d ⟨x, e⟩ ⟨y, e2⟩ => ?_, fun c ⟨x, e⟩ => ?_⟩
    · obtain ⟨cd, h1, _, h2, h3, h4, h5, h6⟩ := one x c e
      rw [(exF x c e).2.2.1]
      exact ⟨by rw [h1]; rfl, h3, h4, sbT x c _ e (by decide +kernel), h5, x1, x2, by rw [mro_cls h1 h2 (ne _ _ _), mroX_type (by decide +kernel)]⟩
    · rw [(exF x c e).2.2.1, (exF y d e2).2.2.1]
      have s := sub x c y d e e2
      unfold PySem.W.kitOne
      by_cases z : (Value.ref (He.ga K x) == Value.ref (He.ga K y)) = true
      · rw [if_pos z]
        have z2 : He.ga K x = He.ga K y := by simpa using z
        obtain ⟨cd, h1, _, h2, _⟩ := one x c e
        rw [← s]
        show _ = PySem.W.mroIn K (He.ga K x) _
        rw [mro_cls h1 h2 (ne _ _ _), mroX_ref, ← z2]
        simp
      · rw [if_neg z]
        show (if ((PySem.W.clsIn K (He.ga K y)).isSome && PySem.W.typeIn K (.ref (He.ga K y)) == some (.type "type")) = true then _ else none) = _
        rw [if_pos (cls1 y d e2)]
        exact s
    · rw [(exF x c e).2.2.1, (exF y d e2).2.2.1]
      unfold PySem.W.exmOne
      rw [sbT y d _ e2 (by decide +kernel), if_pos (show (some true == some true) = true from rfl)]
      show (if ((PySem.W.clsIn K (He.ga K y)).isSome && PySem.W.typeIn K (.ref (He.ga K y)) == some (.type "type")) = true then _ else none) = _
      rw [if_pos (cls1 y d e2)]
      exact sub x c y d e e2
    · rw [(exF x c e).2.2.1]
      unfold PySem.W.kitOne
      rw [if_neg (by simp)]
      show (if PySem.W.kitMeta "ValueError" = true then _ else none) = _
      rw [if_pos (by decide +kernel)]
      exact sbT x c _ e (by decide +kernel)
  have clsX : ∀ x c, T.cls.lookup x = some c → T.xcl.lookup x = some c := fun x c e => by
    show (T.cls ++ T.ncl).lookup x = some c
    rw [List.lookup_append, e]
    rfl
  refine ⟨by simpa using t7, fun x d e => ?_, fun x e => ?_, fun x f e => ?_, fun x k e => ?_, fun x k e => ?_, fun c f e => ?_, fun c m f e => ?_, fun x c f e => ?_, fun x f e => ?_, ?_, ?_, ?_⟩
  · have hm := lookup_mem e
    have h1 := List.all_eq_true.mp t1 _ hm
    rw [Bool.or_eq_true] at h1
    rcases h1 with h1 | h1
    rotate_left
    · cases d with
      | tup ds => exact tupB_ok X G (List.all_eq_true.mp cx _ hm)
      | _ => cases h1
    obtain ⟨fa, e1⟩ := Option.isSome_iff_exists.mp h1
    have h2 : fa ∈ faOf T := List.mem_append_left _ (List.mem_filterMap.mpr ⟨_, hm, e1⟩)
    cases d <;> simp [conFa] at e1
    · subst e1
      obtain ⟨t, e2⟩ := He.int_ok X G (fact _ h2)
      exact ⟨_, .int _, e2, ⟨t, rfl⟩, fun H μ => rp_int.mpr rfl⟩
    · subst e1
      obtain ⟨t, e2⟩ := He.str_ok X G (fact _ h2)
      exact ⟨_, .str _, e2, ⟨t, rfl⟩, fun H μ => rp_str.mpr rfl⟩
  · have hm : x ∈ T.free := by simpa using e
    exact He.free_ok X G (fact _ (List.mem_append_right _ (List.mem_append_left _ (List.mem_map.mpr ⟨x, hm, rfl⟩))))
  · have hm := lookup_mem e
    have g := He.glo_ok X G (fact (.glo x) (List.mem_append_right _ (List.mem_append_right _ (List.mem_append_left _ (List.mem_map.mpr ⟨_, hm, rfl⟩)))))
    have et := of_decide_eq_true t3
    rw [et] at hm
    obtain ⟨en, hen, ee⟩ := List.mem_map.mp hm
    injection ee with ex ef
    subst ex ef
    obtain ⟨hen, hcl⟩ := List.mem_filter.mp hen
    obtain ⟨fd, _, D⟩ := def_of c hE hB hen
    have ef : He.fAd K en.fp = He.ga K en.x := by
      unfold Ent.fp
      rw [Option.isNone_iff_eq_none.mp hcl]
      rfl
    rw [ef] at D
    exact ⟨He.ga K en.x, fd, en.ps, g, D⟩
  · have hm := lookup_mem e
    obtain ⟨g1, g2, ec, _⟩ := exF x k (clsX x k e)
    have q := He.exc_ok (fact (.exc x) (List.mem_append_right _ (List.mem_append_right _ (List.mem_append_right _ (List.mem_append_right _ (List.mem_append_left _ (List.mem_map.mpr ⟨_, hm, rfl⟩)))))))
    refine ⟨g1, ?_, g2, ?_, ?_, ⟨x, clsX x k e⟩⟩
    · rw [ec]; exact q.1
    · rw [ec]; exact q.2.2.1
    · rw [ec]; exact q.2.2.2
  · obtain ⟨g1, g2, g3, g4⟩ := exF x k e
    have := exN x k e
    exact ⟨g1, g2, this.1, this.2, ⟨x, e⟩⟩
  · have hm : (c, f) ∈ T.att := by simpa using e
    have hk := List.all_eq_true.mp t6 _ hm
    unfold attB at hk
    obtain ⟨h1, h2⟩ := b2 hk
    refine ⟨clsF c h1 h2, ?_⟩
    rw [cadN c h1]
    exact He.noat_ok (objF (.noat (clsName T c) f) (List.mem_append_right _ (List.mem_append_right _ (List.mem_append_right _ (List.mem_append_right _ (List.mem_append_left _ (List.mem_map.mpr ⟨_, hm, rfl⟩)))))))
  · have hm : (c, m, f) ∈ T.mts := by simpa using e
    have hk := List.all_eq_true.mp t5 _ hm
    unfold mtsB at hk
    obtain ⟨hk, h3⟩ := b2 hk
    obtain ⟨h1, h2⟩ := b2 hk
    obtain ⟨en, hen, he⟩ := List.any_eq_true.mp h3
    obtain ⟨he, h6⟩ := b2 he
    obtain ⟨h4, h5⟩ := b2 he
    have e4 : en.f = f := by simpa using h4
    have e5 : en.fp = (clsName T c, some m) := by simpa using h5
    have e6 : en.x = m := by simpa using h6
    obtain ⟨fd, _, D⟩ := def_of ‹He.SaysD (faOf T) (es.map (Ent.dd P)) K› hE hB hen
    rw [e5, e6, e4] at D
    refine ⟨_, fd, en.ps, clsF c h1 h2, ?_, D⟩
    rw [cadN c h1]
    exact He.meth_ok (objF (.meth (clsName T c) m) (List.mem_append_right _ (List.mem_append_right _ (List.mem_append_right _ (List.mem_append_left _ (List.mem_map.mpr ⟨_, hm, rfl⟩))))))
  · have hm : (x, c, f) ∈ T.mkr := by simpa using e
    have hk := List.all_eq_true.mp t4 _ hm
    have hk0 := hk
    unfold mkrB at hk
    obtain ⟨hk, h3⟩ := b2 hk
    obtain ⟨h1, h2⟩ := b2 hk
    have en0 : clsName T c = x := by simpa using h2
    obtain ⟨en, hen, he⟩ := List.any_eq_true.mp h3
    obtain ⟨he, h6⟩ := b2 he
    obtain ⟨h4, h5⟩ := b2 he
    have e4 : en.f = f := by simpa using h4
    have e5 : en.fp = (x, some ("__init__" : Str)) := by simpa using h5
    have e6 : en.x = "__init__" := by simpa using h6
    obtain ⟨fd, _, D⟩ := def_of ‹He.SaysD (faOf T) (es.map (Ent.dd P)) K› hE hB hen
    rw [e5, e6, e4] at D
    have ha : (T.mkr.any fun r => r.2.1 == c) = true := List.any_eq_true.mpr ⟨_, hm, by simp⟩
    refine ⟨_, fd, en.ps, ?_, clsF c h1 ha, ?_, D⟩
    · rw [cadN c h1, en0]
      exact He.glo_ok X G (objF (.glo x) (List.mem_append_left _ (List.mem_map.mpr ⟨_, hm, rfl⟩)))
    · rw [cadN c h1, en0]
      exact He.mkr_ok (objF (.mkr x) (List.mem_append_right _ (List.mem_append_right _ (List.mem_append_left _ (List.mem_map.mpr ⟨_, hm, rfl⟩)))))
  · have hm := lookup_mem e
    have q := List.all_eq_true.mp t8 _ hm
    obtain ⟨en, hen, he⟩ := List.any_eq_true.mp q
    obtain ⟨he, h3⟩ := b2 he
    obtain ⟨h1, h2⟩ := b2 he
    have h1 : en.x = x := by simpa using h1
    have h2 : en.f = f := by simpa using h2
    have h3 : en.cl = none := Option.isNone_iff_eq_none.mp h3
    obtain ⟨fd, _, D⟩ := def_of c hE hB hen
    have hH := def_ofH c hE hB hen (by rw [h1, h2, h3, Bool.and_eq_true]; exact ⟨by simpa using hm, rfl⟩)
    obtain ⟨fd, D⟩ := hH
    have hx : en.x ∈ (T.fns.map (·.1)) := by
      rw [of_decide_eq_true t3, List.map_map]
      exact List.mem_map.mpr ⟨en, List.mem_filter.mpr ⟨hen, by rw [h3]; rfl⟩, rfl⟩
    obtain ⟨q, hq, eq⟩ := List.mem_map.mp hx
    have g := He.glo_ok X G (fact (.glo q.1) (List.mem_append_right _ (List.mem_append_right _ (List.mem_append_left _ (List.mem_map.mpr ⟨q, hq, rfl⟩)))))
    rw [eq] at g
    have ef : He.fAd K en.fp = He.ga K en.x := by
      unfold Ent.fp
      rw [h3]
      rfl
    rw [ef] at D
    rw [h1] at g D
    rw [h2] at D
    exact ⟨_, fd, en.ps, g, D⟩
  · exact exX
  · exact fun h => h
  · exact smX
/-- the script at the law's entry -/
theorem script_ok {K : PySem.W.Frag} {cad : Cad} {Γ : Nat → Option Fn} {kw : Nat → List Dt → List Str → List Dt → List Dt} {isa : Nat → Nat → Bool} {f k : Nat} {H : Hp} {a : Addr} {ns : List Int} (hS : SqF K H a (ns.map V.int))
    (law : callS Γ kw isa k f [.ref 0] [.frz (ns.map Dt.int)] (fun d _ => d = .bl true) fun _ _ => False) : spC K cad (callS Γ kw isa k) f 1 [.ref a] H (fun v _ => v = .bl true) fun _ _ _ => False := by
  refine ⟨rfl, [a], [.frz (ns.map Dt.int)], [.ref 0], ?_, ?_, ?_⟩
  · have rl : ∀ l : List Int, RpL K H [a] (l.map Dt.int) (l.map V.int) := fun l => by
      induction l with
      | nil => exact rpl_nil.mpr rfl
      | cons i l ih => exact rpl_cons.mpr ⟨_, _, rfl, rp_int.mpr rfl, ih⟩
    have zero : ∀ (n : Nat) (b : Addr), ([a] : List Addr)[n]? = some b → n = 0 := fun n b e => by
      have := (List.getElem?_eq_some_iff.mp e).1
      simpa using this
    refine ⟨rfl, fun m n b o u h1 h2 h3 h4 l1 l2 => (zero m b h1).trans (zero n b h2).symm, fun n b o h1 h2 => ?_⟩
    have := zero n b h1
    subst this
    cases h1; cases h2
    refine ⟨ns.map V.int, ?_, rl ns⟩
    exact hS
  · exact rpl_cons.mpr ⟨_, _, rfl, rp_ref.mpr ⟨a, rfl, rfl⟩, rpl_nil.mpr rfl⟩
  · refine (callS_mono k).m (fun d G' z μ' v H' p k' hr r => ?_) (fun x G' z => z.elim) law
    rw [z] at r
    exact rp_bl.mp r
/-- THE END: a law by its core statement -/
theorem law_end {T : Tab} {Γ : Nat → Option Fn} {kwd : Nat → List (Str × Dt)} {P : Program} {es : List Ent} {K : PySem.W.Frag} {h : Heap} {mg : Str → Option Value} {w : World} {k : Nat} {en : Ent} {p : Str} {fa : Addr} (X : K.In h) (G : h.Ns mainGlobals mg) (c : He.SaysD (faOf T) (es.map (Ent.dd P)) K) (cx : conX T K = true)
    (hT : tabB T es = true) (hE : es.all (entB T Γ P) = true) (hB : ∀ e ∈ es, ∀ fd, FunD K e.x e.qn (defArgs (e.st P)) (defBody (e.st P)) (defScope (e.st P)) [] ((e.dd P).kws K) (He.fAd K e.fp) fd → ∀ n ks, T.shp.contains (e.f, n, ks) = true → KBd K fd e.ps n ks (kwF kwd e.f))
    (hen : en ∈ es) (hcl : en.cl = none) (hp : en.ps = [p]) (hpl : plainP (defArgs (en.st P)) [p] = true) (hmg : mg en.x = some (.ref fa))
    (law : ∀ ns : List Int, ns.length ≤ 63 → callS Γ (kwF kwd) isaF (k + 1) en.f [.ref 0] [.frz (ns.map Dt.int)] (fun d _ => d = .bl true) fun _ _ => False) :
    ∃ (fd : FuncData) (sp : Sp), (∀ (s : Shared) (u : Value), BindsTo s fd ⟨[u], []⟩ [(p, u)]) ∧
        (∀ (H : Hp) (a : Addr) (ns : List Int), ns.length ≤ 63 → Only H → SqF K H a (ns.map V.int) → sp [.ref a] H (fun v _ => v = .bl true) fun _ _ _ => False) ∧
        ∀ base : Heap, K.In base → base.Ns mainGlobals mg → FnG false P w K mg base (2 * (k + 1)) fa fd [p] sp := by
  have tx := txt_ok X G c cx hT hE hB
  obtain ⟨fd, hf, D⟩ := def_of (Γ := Γ) (kwd := kwd) c hE hB hen
  have hx : en.x ∈ (T.fns.map (·.1)) := by
    unfold tabB at hT
    rw [of_decide_eq_true (b2 hT).2, List.map_map]
    exact List.mem_map.mpr ⟨en, List.mem_filter.mpr ⟨hen, by rw [hcl]; rfl⟩, rfl⟩
  have g : mg en.x = some (.ref (He.ga K en.x)) := by
    obtain ⟨q, hq, e⟩ := List.mem_map.mp hx
    have := He.glo_ok X G (He.SaysD.facts c (f := .glo q.1) (List.mem_append_right _ (List.mem_append_right _ (List.mem_append_left _ (List.mem_map.mpr ⟨q, hq, rfl⟩)))))
    rw [e] at this
    exact this
  rw [hmg] at g
  cases g
  refine ⟨fd, spC K (cadOf K T) (callS Γ (kwF kwd) isaF (k + 1)) en.f 1, fun s u => ?_, fun H a ns hl hO hS => script_ok hS (law ns hl), fun base KB GB => ?_⟩
  · obtain ⟨oc, od, dV, kV, doc, pm, an, cdv, ct, osl, rfl, lk, hcd, hD, hK⟩ := hf.ex
    have ed : dV = .none := by
      rcases hD with ⟨_, e⟩ | ⟨e, _⟩
      · exact e
      · exact absurd rfl e
    subst ed
    exact .of_eq (bind_plain hpl rfl)
  · have := def_ok (isa := isaF) (P := P) (w := w) (mg := mg) (base := base) D tx.cold (tok_all tx k).1 (tok_all tx k).2
    have ef : He.fAd K en.fp = He.ga K en.x := by
      unfold Ent.fp
      rw [hcl]
      rfl
    rw [hp, ef] at this
    exact this
end Wm

namespace Wm
open PySem PySem.Spec PyProof.Rows L2
/-! ### how arguments bind -/
def bindB (T : Tab) (kwd : Nat → List (Str × Dt)) (P : Program) (e : Ent) : Bool := plainP (defArgs (e.st P)) e.ps && (kwd e.f).isEmpty && T.shp.all fun s => s.1 != e.f || (s.2.1 == e.ps.length && s.2.2.isEmpty)
theorem bind_of {T : Tab} {kwd : Nat → List (Str × Dt)} {P : Program} {e : Ent} (h : bindB T kwd P e = true) {K : PySem.W.Frag} {fd : FuncData} (F : FunD K e.x e.qn (defArgs (e.st P)) (defBody (e.st P)) (defScope (e.st P)) [] ((e.dd P).kws K) (He.fAd K e.fp) fd) {n : Nat} {ks : List Str} (hs : T.shp.contains (e.f, n, ks) = true) : KBd K fd e.ps n ks (kwF kwd e.f) := by
  unfold bindB at h
  obtain ⟨h, h3⟩ := b2 h
  obtain ⟨h1, h2⟩ := b2 h
  have hm : (e.f, n, ks) ∈ T.shp := by simpa using hs
  have q := List.all_eq_true.mp h3 _ hm
  simp at q
  obtain ⟨rfl, rfl⟩ := q
  refine kbd_plain F h1 fun xs => ?_
  unfold kwF
  rw [List.isEmpty_iff.mp h2]
  simp
theorem dv_rp {K : PySem.W.Frag} {H : Hp} {μ : List Addr} {d : Dt} (h : scalD d = true) : Rp K H μ d ((dvOf d).v K) := by
  cases d <;> first | (cases h; done) | exact rp_non.mpr rfl | exact rp_bl.mpr rfl | exact rp_int.mpr rfl | exact rp_str.mpr rfl
/-- a def with one keyword-only parameter -/
theorem kbd_kw1 {K : PySem.W.Frag} {x qual kn : Str} {p : Arguments} {body : List Stmt} {sc : Scope} {d : Dt} {fa : Addr} {fd : FuncData} {ps : List Str} {n f : Nat} {kwd : Nat → List (Str × Dt)} (F : FunD K x qual p body sc [] [(kn, (dvOf d).v K)] fa fd) (hp : ps.length = n + 1) (hk : kwd f = [(kn, d)]) (hd : scalD d = true)
    (hc : ∀ (D : Addr) (doc pm : Value) (an : Option Addr) (cdv ct : Value) (us ks : List Value), us.length = n → ks.length = 1 → KwChain D ([kn].zip ks) (bindArgs (PySem.W.fnOf x qual p body sc .none (.ref D) doc pm an cdv ct) ⟨us, []⟩) (ps.zip (us ++ ks)))
    (ha : ∀ (kV doc pm : Value) (an : Option Addr) (cdv ct : Value) (us ws : List Value), us.length = n → ws.length = 1 → bindArgs (PySem.W.fnOf x qual p body sc .none kV doc pm an cdv ct) ⟨us, [kn].zip ws⟩ = pure (ps.zip (us ++ ws)))
    {m : Nat} {ks : List Str} (hs : m = n ∧ (ks = [] ∨ ks = [kn])) : KBd K fd ps m ks (kwF kwd f) := by
  obtain ⟨rfl, rfl | rfl⟩ := hs
  · obtain ⟨ds, hv, hb⟩ := FunD.binds0 F m (by simp) (by simpa using hp.symm) hc
    refine ⟨fun us _ => us ++ ds, fun vs _ => vs ++ [(dvOf d).v K], ⟨fun s us ws X h1 _ => ?_, fun r _ => r.append hv⟩, fun H μ xs vs ys zs l1 l2 r r2 => ?_⟩
    · have l := hv.length
      exact hb s us X (by rw [List.length_append, hp, h1, ← l]; rfl)
    · unfold kwF
      rw [hk]
      refine ⟨r.append (rpl_cons.mpr ⟨_, _, rfl, ?_, rpl_nil.mpr rfl⟩), by simp [l1, hp]⟩
      simp
      exact dv_rp hd
  · obtain ⟨oc, od, dV, kV, doc, pm, an, cdv, ct, osl, rfl, lk, hcd, hD, hK⟩ := F.ex
    have ed : dV = .none := by
      rcases hD with ⟨_, e⟩ | ⟨e, _⟩
      · exact e
      · exact absurd rfl e
    subst ed
    refine ⟨fun us ws => us ++ ws, fun vs zs => vs ++ zs, ⟨fun s us ws X h1 h2 => .of_eq (ha _ _ _ _ _ _ _ _ h1 h2), fun r1 r2 => r1.append r2⟩, fun H μ xs vs ys zs l1 l2 r r2 => ?_⟩
    match zs, l2 with
    | [z], _ =>
      have l := r2.length
      match ys, l with
      | [y], _ =>
        unfold kwF
        rw [hk]
        refine ⟨r.append ?_, by simp [l1, hp]⟩
        have e : ((([kn] : List Str).zip [y]).lookup kn).getD d = y := by simp [List.lookup]
        show RpL K H μ [((([kn] : List Str).zip [y]).lookup kn).getD d] [z]
        rw [e]
        exact r2
theorem shp_kw1 {T : Tab} {f n m : Nat} {kn : Str} {ks : List Str} (h : T.shp.all (fun s => s.1 != f || (s.2.1 == n && (s.2.2.isEmpty || s.2.2 == [kn]))) = true) (hs : T.shp.contains (f, m, ks) = true) : m = n ∧ (ks = [] ∨ ks = [kn]) := by
  have q := List.all_eq_true.mp h (f, m, ks) (by simpa using hs)
  rw [Bool.or_eq_true, Bool.and_eq_true, Bool.or_eq_true] at q
  rcases q with q | ⟨q1, q2⟩
  · simp at q
  · refine ⟨by simpa using q1, ?_⟩
    rcases q2 with q2 | q2
    · exact .inl (List.isEmpty_iff.mp q2)
    · exact .inr (by simpa using q2)
/-- from the def's promise to the row -/
theorem walk_C {l : PySem.W.OpenLaw} {n k : Nat} {q : Program} {loose : List Str} {XP : (Str → Option Value) → Heap → Prop} {YP : World → Heap → Prop} {d : DefRec} {x : Str}
    (hn : l.most = some n) (hn2 : n ≤ sizeLine) (hdf : d.params.defaults = []) (hr : Room k callerA)
    (F : ∀ (w : World) (mg : Str → Option Value) (fa : Addr) (h : Heap), YP w h → h.Ns mainGlobals mg → mg d.name = some (.ref fa) →
      ∃ (K : PySem.W.Frag) (fd : FuncData) (sp : Sp), K.In h ∧ (∀ (s : Shared) (u : Value), BindsTo s fd ⟨[u], []⟩ [(x, u)]) ∧
        (∀ (H : Hp) (a : Addr) (ns : List Int), ns.length ≤ n → Only H → SqF K H a (ns.map V.int) → sp [.ref a] H (fun v _ => v = .bl true) fun _ _ _ => False) ∧
        ∀ base : Heap, K.In base → base.Ns mainGlobals mg → FnG false l.prog w K mg base k fa fd [x] sp) :
    PySem.W.WalkO q loose XP YP l.row.toRowW d [] (fun f vs => PySem.call f vs) := by
  refine Att.attach_call hn hdf fun w sA sB mg mb fa ob pm cd doc a vs ns Gg Yy ho hd hcd hmg hobj hints hlen hg => ?_
  obtain ⟨K, fd, sp, KX, hb, hsp, hF⟩ := F w mg fa _ Yy Gg.T.g hmg
  exact call_G KX Gg.T.g Gg.T.b Gg.T.builtins Gg.T.nolimit hg hobj hints (Nat.le_trans hlen hn2) hr hF hb (fun H hO hS => hsp H a ns hlen hO hS)
end Wm

namespace Wm
open PySem PySem.Spec PyProof.Rows L2
/-! ### one step of the semantics, by the form of what is at hand -/
section
variable {G : Gh} {Q : QE} {R : Bool → Prop} {i j : Int} {x y : Dt} {xs ys : List Dt} {m n : Nat} {E : XQ} {env : En} {K : Kn}
theorem w_add : op2D .add (.int i) (.int j) G Q = Q (.int (i + j)) G := rfl
theorem w_addT : op2D .add (.tup xs) (.tup ys) G Q = (xs.length + ys.length ≤ sizeLine ∧ Q (.tup (xs ++ ys)) G) := rfl
theorem w_addL : op2D .add (.ref m) (.ref n) G Q = ∃ a b, G[m]? = some (.lst a) ∧ G[n]? = some (.lst b) ∧ a.length + b.length ≤ sizeLine ∧ Q (.ref G.length) (G ++ [.lst (a ++ b)]) := rfl
theorem w_addF : op2D .addF (.ref m) (.ref n) G Q = ∃ a b, G[m]? = some (.lst a) ∧ G[n]? = some (.frz b) ∧ a.length + b.length ≤ sizeLine ∧ Q (.ref G.length) (G ++ [.lst (a ++ b)]) := rfl
theorem w_sub : op2D .sub (.int i) (.int j) G Q = (True ∧ Q (.int (i - j)) G) := rfl
theorem w_mul : op2D .mul (.int i) (.int j) G Q = (MulOk i j ∧ Q (.int (i * j)) G) := rfl
theorem w_mulT : op2D .mul (.tup xs) (.int j) G Q = (xs ≠ [] ∧ 0 ≤ j ∧ j ≤ 1000 ∧ xs.length ≤ 1000 ∧ Q (.tup (List.replicate j.toNat xs).flatten) G) := rfl
theorem w_mulL : op2D .mul (.ref m) (.int j) G Q = ∃ a, G[m]? = some (.lst a) ∧ 0 ≤ j ∧ j < 2 ^ 62 ∧ a.length * j.toNat ≤ sizeLine ∧ Q (.ref G.length) (G ++ [.lst (List.replicate j.toNat a).flatten]) := rfl
theorem w_fdiv : op2D .fdiv (.int i) (.int j) G Q = (CDivW i j ∧ Q (.int (i / j)) G) := rfl
theorem w_mod : op2D .mod (.int i) (.int j) G Q = (0 < j ∧ Q (.int (i % j)) G) := rfl
theorem w_pow : op2D .pow (.int i) (.int j) G Q = (PowOk i j ∧ Q (.int (i ^ j.toNat)) G) := rfl
theorem w_bor : op2D .bor (.int i) (.int j) G Q = (True ∧ Q (.int (Builtin.bitOr i j)) G) := rfl
theorem w_shl : op2D .shl (.int i) (.int j) G Q = (CShl i j ∧ Q (.int (i * 2 ^ j.toNat)) G) := rfl
theorem w_shr : op2D .shr (.int i) (.int j) G Q = (0 ≤ j ∧ Q (.int (i / 2 ^ j.toNat)) G) := rfl
theorem w_aadd : augD .add (.int i) (.int j) G Q = Q (.int (i + j)) G := rfl
theorem w_aaddT : augD .add (.tup xs) (.tup ys) G Q = (xs.length + ys.length ≤ sizeLine ∧ Q (.tup (xs ++ ys)) G) := rfl
theorem w_asub : augD .sub (.int i) (.int j) G Q = (True ∧ Q (.int (i - j)) G) := rfl
theorem w_abor : augD .bor (.int i) (.int j) G Q = (True ∧ Q (.int (Builtin.bitOr i j)) G) := rfl
theorem w_ashl : augD .shl (.int i) (.int j) G Q = (CShl i j ∧ Q (.int (i * 2 ^ j.toNat)) G) := rfl
theorem w_ashr : augD .shr (.int i) (.int j) G Q = (0 ≤ j ∧ Q (.int (i / 2 ^ j.toNat)) G) := rfl
theorem w_lt : cmpD .lt (.int i) (.int j) G R = R (decide (i < j)) := rfl
theorem w_le : cmpD .le (.int i) (.int j) G R = R (decide (i ≤ j)) := rfl
theorem w_gt : cmpD .gt (.int i) (.int j) G R = R (decide (j < i)) := rfl
theorem w_ge : cmpD .ge (.int i) (.int j) G R = R (decide (j ≤ i)) := rfl
theorem w_is : cmpD .is_ x .non G R ↔ R (isNonD x) := by
  have e : isD x .non = some (isNonD x) := by cases x <;> rfl
  constructor
  · rintro ⟨b, h, r⟩
    rw [e] at h
    cases h
    exact r
  · exact fun r => ⟨_, e, r⟩
theorem w_isnot : cmpD .isnot x .non G R ↔ R (!isNonD x) := by
  have e : isD x .non = some (isNonD x) := by cases x <;> rfl
  constructor
  · rintro ⟨b, h, r⟩
    rw [e] at h
    cases h
    exact r
  · exact fun r => ⟨_, e, r⟩
/-! == of things that are no lists -/
mutual
/-- a thing without lists, as data -/
def toP : Dt → PyData
  | .non => .none
  | .bl b => .bool b
  | .int i => .int i
  | .str s => .str s
  | .tup xs => .tuple (toPs xs)
  | .ref _ => .none
def toPs : List Dt → List PyData
  | [] => []
  | x :: xs => toP x :: toPs xs
end
mutual
/-- no lists in it, so deep at most -/
def flat : Nat → Dt → Bool
  | _, .non => true
  | _, .bl _ => true
  | _, .int _ => true
  | _, .str _ => true
  | 0, .tup _ => false
  | n + 1, .tup xs => flats n xs
  | _, .ref _ => false
def flats : Nat → List Dt → Bool
  | _, [] => true
  | n, x :: xs => flat n x && flats n xs
end
theorem mem_map {α β : Type} {f : α → β} {l : List α} {a : α} (h : a ∈ l) : f a ∈ l.map f := List.mem_map_of_mem h
mutual
theorem pd_flat (G : Gh) : ∀ (n : Nat) (d : Dt), flat n d = true → ∃ m, pdN m G d = some (toP d) ∧ ∀ k, m ≤ k → pdN k G d = some (toP d)
  | n, .non, _ => ⟨0, by unfold pdN toP; rfl, fun k _ => by cases k <;> (unfold pdN toP; rfl)⟩
  | n, .bl b, _ => ⟨0, by unfold pdN toP; rfl, fun k _ => by cases k <;> (unfold pdN toP; rfl)⟩
  | n, .int b, _ => ⟨0, by unfold pdN toP; rfl, fun k _ => by cases k <;> (unfold pdN toP; rfl)⟩
  | n, .str b, _ => ⟨0, by unfold pdN toP; rfl, fun k _ => by cases k <;> (unfold pdN toP; rfl)⟩
  | 0, .tup _, h => by unfold flat at h; cases h
  | n + 1, .tup xs, h => by
    unfold flat at h
    obtain ⟨m, e⟩ := pds_flat G n xs h
    have key : ∀ k, m + 1 ≤ k → pdN k G (.tup xs) = some (toP (.tup xs)) := fun k hk => by
      cases k with
      | zero => omega
      | succ k =>
        unfold pdN toP
        rw [e k (by omega)]
        rfl
    exact ⟨m + 1, key _ (Nat.le_refl _), key⟩
  | n, .ref _, h => by cases n <;> (unfold flat at h; cases h)
theorem pds_flat (G : Gh) : ∀ (n : Nat) (ds : List Dt), flats n ds = true → ∃ m, ∀ k, m ≤ k → pdL k G ds = some (toPs ds)
  | n, [], _ => ⟨0, fun k _ => by cases k <;> (unfold pdL toPs; rfl)⟩
  | n, d :: ds, h => by
    unfold flats at h
    obtain ⟨h1, h2⟩ := b2 h
    obtain ⟨m1, _, e1⟩ := pd_flat G n d h1
    obtain ⟨m2, e2⟩ := pds_flat G n ds h2
    refine ⟨max m1 m2 + 1, fun k hk => ?_⟩
    cases k with
    | zero => omega
    | succ k =>
      unfold pdL toPs
      rw [e1 k (by omega), e2 k (by omega)]
end
theorem eq_of {n : Nat} (h1 : flat n x = true) (h2 : flat n y = true) (s1 : SeqAt.shaped (toP x) = true) (s2 : SeqAt.shaped (toP y) = true) (r : R (PyData.eqv (toP x) (toP y))) : eqOf G x y R := by
  obtain ⟨m1, _, e1⟩ := pd_flat G n x h1
  obtain ⟨m2, _, e2⟩ := pd_flat G n y h2
  exact .inr ⟨max m1 m2, _, _, e1 _ (by omega), e2 _ (by omega), s1, s2, r⟩
theorem shp_int : SeqAt.shaped (.int i) = true := rfl
theorem w_eqI : cmpD .eq (.int i) (.int j) G R ↔ R (i == j) := by
  constructor
  · rintro ((⟨_, _, e, _⟩ | ⟨_, e, _⟩) | ⟨n, p, q, e1, e2, _, _, r⟩)
    · cases e
    · cases e
    have e1 : some (PyData.int i) = some p := by cases n <;> (unfold pdN at e1; exact e1)
    have e2 : some (PyData.int j) = some q := by cases n <;> (unfold pdN at e2; exact e2)
    cases e1; cases e2
    exact r
  · exact fun r => eq_of (n := 0) rfl rfl rfl rfl r
theorem w_neI : cmpD .ne (.int i) (.int j) G R ↔ R (!(i == j)) := w_eqI (R := fun b => R !b)
theorem w_eqB {a b : Bool} : cmpD .eq (.bl a) (.bl b) G R ↔ R (a == b) := by
  constructor
  · rintro ((⟨_, _, e, _⟩ | ⟨_, e, _⟩) | ⟨n, p, q, e1, e2, _, _, r⟩)
    · cases e
    · cases e
    have e1 : some (PyData.bool a) = some p := by cases n <;> (unfold pdN at e1; exact e1)
    have e2 : some (PyData.bool b) = some q := by cases n <;> (unfold pdN at e2; exact e2)
    cases e1; cases e2
    exact r
  · exact fun r => eq_of (n := 0) rfl rfl rfl rfl r
theorem w_neB {a b : Bool} : cmpD .ne (.bl a) (.bl b) G R ↔ R (!(a == b)) := w_eqB (R := fun b => R !b)
theorem w_eqS {a b : Str} : cmpD .eq (.str a) (.str b) G R ↔ R (a == b) := by
  constructor
  · rintro ((⟨_, _, e1, e2, r⟩ | ⟨_, e, _⟩) | ⟨n, p, q, e1, e2, _, _, r⟩)
    · cases e1; cases e2
      exact r
    · cases e
    have e1 : some (PyData.str a) = some p := by cases n <;> (unfold pdN at e1; exact e1)
    have e2 : some (PyData.str b) = some q := by cases n <;> (unfold pdN at e2; exact e2)
    cases e1; cases e2
    exact r
  · exact fun r => .inl (.inl ⟨a, b, rfl, rfl, r⟩)
theorem w_neS {a b : Str} : cmpD .ne (.str a) (.str b) G R ↔ R (!(a == b)) := w_eqS (R := fun b => R !b)
theorem w_inT : cmpD .in_ x (.tup ys) G R = (flatD x = true ∧ ys.all flatD = true ∧ R (ys.any fun y => eqF y x)) := rfl
theorem w_ixT : ixD (.tup xs) (.int i) G Q = ∃ d, atI xs i = some d ∧ Q d G := rfl
theorem w_ixL : ixD (.ref n) (.int i) G Q = ∃ xs d, lstAt G n = some xs ∧ atI xs i = some d ∧ Q d G := rfl
theorem w_at0 : atI (x :: xs) 0 = some x := by simp [atI, ixN]
theorem at_nat {k : Nat} {d : Dt} (h : xs[k]? = some d) : atI xs (k : Int) = some d := atI_nat h
theorem w_at1 : atI (x :: y :: xs) 1 = some y := at_nat (k := 1) rfl
theorem w_at2 {z : Dt} : atI (x :: y :: z :: xs) 2 = some z := at_nat (k := 2) rfl
theorem w_at3 {z u : Dt} : atI (x :: y :: z :: u :: xs) 3 = some u := at_nat (k := 3) rfl
theorem w_truB {b : Bool} : truD G (.bl b) = some b := rfl
theorem w_truI : truD G (.int i) = some (i != 0) := rfl
theorem w_truT : truD G (.tup xs) = some !xs.isEmpty := rfl
theorem w_len : biD .len [x] G Q = ∃ xs, seqOf G x = some xs ∧ Q (.int xs.length) G := rfl
theorem w_abs : biD .abs [.int i] G Q = Q (.int (if i < 0 then -i else i)) G := rfl
theorem w_min : biD .min [.int i, .int j] G Q = Q (.int (if j < i then j else i)) G := rfl
theorem w_max : biD .max [.int i, .int j] G Q = Q (.int (if j > i then j else i)) G := rfl
theorem w_max3 {k : Int} : biD .max [.int i, .int j, .int k] G Q = Q (.int (if j > i then (if k > j then k else j) else (if k > i then k else i))) G := rfl
theorem w_popAt : mtD .popAt (.ref n) [.int i] G Q = ∃ xs d, ∃ k : Nat, G[n]? = some (.lst xs) ∧ i = k ∧ k < 2 ^ 62 ∧ xs[k]? = some d ∧ Q d (G.set n (.lst (xs.eraseIdx k))) := rfl
theorem w_index : mtD .index (.ref n) [.int i] G Q = ∃ (ns : List Int) (k : Nat), G[n]? = some (.lst (ns.map .int)) ∧ ns[k]? = some i ∧ (∀ m : Nat, m < k → ns[m]? ≠ some i) ∧ Q (.int k) G := rfl
theorem w_extend : mtD .extend (.ref n) [.ref m] G Q = ∃ xs zs, G[n]? = some (.lst xs) ∧ G[m]? = some (.lst zs) ∧ xs.length + zs.length ≤ sizeLine ∧ Q .non (G.set n (.lst (xs ++ zs))) := rfl
theorem w_sum : biD .sum [.ref n] G Q = ∃ xs ns, lstAt G n = some xs ∧ intsOf xs = some ns ∧ Q (.int ns.sum) G := rfl
theorem w_all : biD .all [.ref n] G Q = ∃ xs bs, lstAt G n = some xs ∧ blsOf xs = some bs ∧ Q (.bl (bs.all id)) G := rfl
theorem w_any : biD .any [.ref n] G Q = ∃ xs bs, lstAt G n = some xs ∧ blsOf xs = some bs ∧ Q (.bl (bs.any id)) G := rfl
theorem w_intI : biD .int [.int i] G Q = Q (.int i) G := rfl
theorem w_intB {b : Bool} : biD .int [.bl b] G Q = Q (.int (if b then 1 else 0)) G := rfl
theorem w_tuple : biD .tuple [x] G Q = ∃ xs, seqOf G x = some xs ∧ Q (.tup xs) G := rfl
theorem w_list : biD .list [x] G Q = ∃ xs, seqOf G x = some xs ∧ Q (.ref G.length) (G ++ [.lst xs]) := rfl
theorem w_divmod : biD .divmod [.int i, .int j] G Q = (CDiv i j ∧ Q (.tup [.int (i / j), .int (i % j)]) G) := rfl
theorem w_repr : biD .repr [x] G Q = ∃ n p, pxN n G x = some p ∧ p.showable = true ∧ p.depth ≤ 60 ∧ p.shown.length ≤ sizeLine ∧ Q (.str p.shown) G := rfl
theorem w_seqT : seqOf G (.tup xs) = some xs := rfl
theorem w_seqL : seqOf G (.ref n) = lstAt G n := rfl
theorem w_extendT {zs : List Dt} : mtD .extend (.ref n) [.tup zs] G Q = ∃ xs, G[n]? = some (.lst xs) ∧ xs.length + zs.length ≤ sizeLine ∧ Q .non (G.set n (.lst (xs ++ zs))) := rfl
theorem w_append : mtD .append (.ref n) [x] G Q = ∃ xs, G[n]? = some (.lst xs) ∧ xs.length < sizeLine ∧ Q .non (G.set n (.lst (xs ++ [x]))) := rfl
theorem w_store {R : Gh → Prop} : storeD (.ref n) (.int i) x G R = ∃ xs j, G[n]? = some (.lst xs) ∧ ixN xs.length i = some j ∧ R (G.set n (.lst (xs.set j x))) := rfl
theorem w_slT {lo hi : Option Int} : slD (.tup xs) lo hi G Q = Q (.tup (cutD xs lo hi)) G := rfl
theorem w_slL {lo hi : Option Int} : slD (.ref n) lo hi G Q = ∃ xs, lstAt G n = some xs ∧ Q (.ref G.length) (G ++ [.lst (cutD xs lo hi)]) := rfl
theorem w_lst (h : G[n]? = some (.lst xs)) : lstAt G n = some xs := by unfold lstAt; rw [h]
theorem w_frz (h : G[n]? = some (.frz xs)) : lstAt G n = some xs := by unfold lstAt; rw [h]
end
/-! ### what a heap keeps -/
structure Mod (S : List Nat) (G G' : Gh) : Prop where
  len : G.length ≤ G'.length
  get : ∀ i, i < G.length → i ∉ S → G'[i]? = G[i]?
section
variable {S : List Nat} {G G1 G2 : Gh}
theorem Mod.refl : Mod S G G := ⟨Nat.le_refl _, fun _ _ _ => rfl⟩
theorem Mod.trans (a : Mod S G G1) (b : Mod S G1 G2) : Mod S G G2 := ⟨Nat.le_trans a.len b.len, fun i h n => (b.get i (Nat.lt_of_lt_of_le h a.len) n).trans (a.get i h n)⟩
theorem Mod.wide {S' : List Nat} (a : Mod S G G1) (h : ∀ i, i ∈ S → i ∈ S') : Mod S' G G1 := ⟨a.len, fun i hi n => a.get i hi fun z => n (h i z)⟩
theorem Mod.pure {S' : List Nat} (a : Mod [] G G1) : Mod S' G G1 := a.wide fun i h => by cases h
theorem Mod.app {g : Gh} : Mod S G (G ++ g) := ⟨by simp, fun i h _ => List.getElem?_append_left h⟩
theorem Mod.set {n : Nat} {o : Ob} (h : n ∈ S) : Mod S G (G.set n o) := ⟨by simp, fun i _ hn => List.getElem?_set_ne fun (e : n = i) => hn (by rw [← e]; exact h)⟩
/-- a write beyond what stood -/
theorem Mod.setNew {n : Nat} {o : Ob} (a : Mod S G G1) (h : G.length ≤ n) : Mod S G (G1.set n o) := ⟨by rw [List.length_set]; exact a.len, fun i hi hn => by rw [List.getElem?_set_ne (by omega)]; exact a.get i hi hn⟩
theorem Mod.at {n : Nat} {o : Ob} (a : Mod S G G1) (h : G[n]? = some o) (hn : n ∉ S) : G1[n]? = some o := (a.get n (List.getElem?_eq_some_iff.mp h).1 hn).trans h
theorem Mod.lst {n : Nat} {xs : List Dt} (a : Mod S G G1) (h : lstAt G n = some xs) (hn : n ∉ S) : lstAt G1 n = some xs := by
  unfold lstAt at h ⊢
  have hl : n < G.length := by
    by_cases hl : n < G.length
    · exact hl
    · rw [List.getElem?_eq_none (by omega)] at h; cases h
  rw [a.get n hl hn]
  exact h
theorem at_len {g : Gh} {o : Ob} : (G ++ o :: g)[G.length]? = some o := by simp
end
/-! ### comprehensions over pure elements -/
section
variable {call : CallT} {kw : Nat → List Dt → List Str → List Dt → List Dt} {isa : Nat → Nat → Bool}
theorem comp_map {elt : Cd} {own : List Nat} {env : En} {s n : Nat} {f : Dt → Dt} {w : List (Nat × List Dt)} {G0 : Gh} {Q : Gh → Prop} (hn : G0.length ≤ n) (hw : ∀ G', Mod [] G0 G' → Stands w G') : ∀ (items acc : List Dt) (G : Gh), acc.length + items.length ≤ sizeLine → Mod [] G0 G → G[n]? = some (.lst acc) →
    (∀ x ∈ items, ∀ (G' : Gh) (Q' : QE), Mod [] G0 G' → (∀ G'', Mod [] G' G'' → Q' (f x) G'') → (sem call kw isa elt).e ((wipeD env own).set s (some x)) G' Q' fun _ _ => False) →
    (∀ G', Mod [] G0 G' → G'[n]? = some (.lst (acc ++ items.map f)) → Q G') →
    compD (sem call kw isa (.gn s)).g (sem call kw isa .ttrue).t (sem call kw isa elt).e w own env n items acc G Q
  | [], acc, G, _, m, e, _, hq => ⟨hw G m, e, hq G m (by rw [List.map_nil, List.append_nil]; exact e)⟩
  | x :: items, acc, G, hl, m, e, he, hq => by
    refine ⟨hw G m, he x List.mem_cons_self G _ m fun G3 m3 => ?_⟩
    have e3 : G3[n]? = some (.lst acc) := m3.at e (by simp)
    have m03 : Mod [] G0 G3 := m.trans m3
    have hn3 : n < G3.length := (List.getElem?_eq_some_iff.mp e3).1
    refine ⟨e3, by simp at hl; omega, comp_map hn hw items (acc ++ [f x]) (G3.set n (.lst (acc ++ [f x]))) (by simp at hl ⊢; omega) (m03.setNew hn) (List.getElem?_set_self hn3) (fun y hy => he y (List.mem_cons_of_mem _ hy)) fun G' m' e' => hq G' m' ?_⟩
    rw [e', List.map_cons, List.append_assoc]
    rfl
end
end Wm

namespace Wm
open PySem PySem.Spec PyProof.Rows L2
/-! ### more of comprehensions -/
section
variable {g : Dt → En → Gh → (En → Gh → Prop) → XQ → Prop} {c : En → Gh → (Bool → Gh → Prop) → XQ → Prop} {e : En → Gh → QE → XQ → Prop} {w : List (Nat × List Dt)} {own : List Nat} {env : En} {n : Nat}
/-- one turn: kept with a thing, or not -/
abbrev Turn (g : Dt → En → Gh → (En → Gh → Prop) → XQ → Prop) (c : En → Gh → (Bool → Gh → Prop) → XQ → Prop) (e : En → Gh → QE → XQ → Prop) (env : En) (own : List Nat) (x : Dt) (G : Gh) (Yes : QE) (No : Gh → Prop) : Prop :=
  g x (wipeD env own) G (fun env1 G1 => c env1 G1 (fun b G2 => if b = true then e env1 G2 Yes (fun _ _ => False) else No G2) fun _ _ => False) fun _ _ => False
theorem comp_filt {f : Dt → Option Dt} {G0 : Gh} {Q : Gh → Prop} (hn : G0.length ≤ n) (hw : ∀ G', Mod [] G0 G' → Stands w G') : ∀ (items acc : List Dt) (G : Gh), acc.length + items.length ≤ sizeLine → Mod [] G0 G → G[n]? = some (.lst acc) →
    (∀ x ∈ items, ∀ (G' : Gh) (Yes : QE) (No : Gh → Prop), Mod [] G0 G' → (∀ G'' d, f x = some d → Mod [] G' G'' → Yes d G'') → (∀ G'', f x = none → Mod [] G' G'' → No G'') → Turn g c e env own x G' Yes No) →
    (∀ G', Mod [] G0 G' → G'[n]? = some (.lst (acc ++ items.filterMap f)) → Q G') →
    compD g c e w own env n items acc G Q
  | [], acc, G, _, m, e, _, hq => ⟨hw G m, e, hq G m (by rw [List.filterMap_nil, List.append_nil]; exact e)⟩
  | x :: items, acc, G, hl, m, e, he, hq => by
    refine ⟨hw G m, he x List.mem_cons_self G _ _ m (fun G3 d hd m3 => ?_) fun G3 hd m3 => ?_⟩
    · have e3 : G3[n]? = some (.lst acc) := m3.at e (by simp)
      have m03 : Mod [] G0 G3 := m.trans m3
      have hn3 : n < G3.length := (List.getElem?_eq_some_iff.mp e3).1
      refine ⟨e3, by simp at hl; omega, comp_filt hn hw items (acc ++ [d]) (G3.set n (.lst (acc ++ [d]))) (by simp at hl ⊢; omega) (m03.setNew hn) (List.getElem?_set_self hn3) (fun y hy => he y (List.mem_cons_of_mem _ hy)) fun G' m' e' => hq G' m' ?_⟩
      rw [e', List.filterMap_cons, hd, List.append_assoc]
      rfl
    · have e3 : G3[n]? = some (.lst acc) := m3.at e (by simp)
      refine comp_filt hn hw items acc G3 (by simp at hl ⊢; omega) (m.trans m3) e3 (fun y hy => he y (List.mem_cons_of_mem _ hy)) fun G' m' e' => hq G' m' ?_
      rw [e', List.filterMap_cons, hd]
/-- turns that write: an invariant by how many turns are left -/
theorem comp_inv {I : Nat → Gh → Prop} {R : Dt → Prop} {Q : Gh → Prop} (hI : ∀ k G o, I k G → I k (G.set n o)) (hw : ∀ k G, I k G → Stands w G) : ∀ (items acc : List Dt) (G : Gh), acc.length + items.length ≤ sizeLine → I items.length G → G[n]? = some (.lst acc) →
    (∀ x ∈ items, ∀ (k : Nat) (G' : Gh) (ys : List Dt) (Yes : QE) (No : Gh → Prop), I (k + 1) G' → G'[n]? = some (.lst ys) → (∀ G'' d, R d → I k G'' → G''[n]? = some (.lst ys) → Yes d G'') → Turn g c e env own x G' Yes No) →
    (∀ G' ds, I 0 G' → (∀ d ∈ ds, R d) → ds.length = items.length → G'[n]? = some (.lst (acc ++ ds)) → Q G') →
    compD g c e w own env n items acc G Q
  | [], acc, G, _, m, e, _, hq => ⟨hw _ G m, e, hq G [] m (by simp) rfl (by rw [List.append_nil]; exact e)⟩
  | x :: items, acc, G, hl, m, e, he, hq => by
    refine ⟨hw _ G m, he x List.mem_cons_self items.length G acc _ _ m e fun G3 d hd m3 e3 => ?_⟩
    have hn3 : n < G3.length := (List.getElem?_eq_some_iff.mp e3).1
    refine ⟨e3, by simp at hl; omega, comp_inv hI hw items (acc ++ [d]) (G3.set n (.lst (acc ++ [d]))) (by simp at hl ⊢; omega) (hI _ _ _ m3) (List.getElem?_set_self hn3) (fun y hy => he y (List.mem_cons_of_mem _ hy)) fun G' ds m' r' l' e' => hq G' (d :: ds) m' ?_ ?_ ?_⟩
    · exact fun y hy => (List.mem_cons.mp hy).elim (fun z => z ▸ hd) (r' y)
    · rw [List.length_cons, l', List.length_cons]
    · rw [e', List.append_assoc]; rfl
end
theorem w_ex2 {x : Dt} {xs : List Dt} {P : Dt → List Dt → Prop} : (∃ d r, x :: xs = d :: r ∧ P d r) ↔ P x xs := by
  constructor
  · rintro ⟨d, r, h, p⟩
    cases h
    exact p
  · exact fun p => ⟨_, _, rfl, p⟩
theorem w_wR {n : Nat} {xs : List Dt} : watchOf (.ref n) xs = [(n, xs)] := rfl
theorem w_wT {ys xs : List Dt} : watchOf (.tup ys) xs = [] := rfl
theorem stands_nil {G : Gh} : Stands [] G := fun p hp => by cases hp
/-- one list is watched, and stands -/
theorem stands_one {G : Gh} {n : Nat} {xs : List Dt} (h : lstAt G n = some xs) : Stands [(n, xs)] G := fun p hp => by
  rw [List.mem_singleton.mp hp]
  exact h
/-! ### bounds -/
theorem bits_le {i : Int} {k : Nat} (h0 : 0 ≤ i) (h : i < 2 ^ k) : Builtin.Int.intBits i ≤ k := by
  unfold Builtin.Int.intBits
  split
  · omega
  · rename_i hz
    have hz : i ≠ 0 := by simpa using hz
    have hp : i.natAbs ≠ 0 := by omega
    have h2 : i.natAbs < 2 ^ k := by
      have : (i.natAbs : Int) < ((2 ^ k : Nat) : Int) := by
        rw [Int.natAbs_of_nonneg h0]
        push_cast
        exact h
      exact_mod_cast this
    have := (Nat.log2_lt hp).mpr h2
    omega
theorem mul_l {i j : Int} (h0 : 0 ≤ i) (h : i < 2 ^ 64) : MulOk i j := .inl (.inl ⟨by omega, h⟩)
theorem mul_r {i j : Int} (h0 : 0 ≤ j) (h : j < 2 ^ 64) : MulOk i j := .inl (.inr ⟨by omega, h⟩)
theorem mul_x {i j : Int} (k l : Nat) (h0 : 0 ≤ i) (h : i < 2 ^ k) (g0 : 0 ≤ j) (g : j < 2 ^ l) (hk : k + l ≤ 134217728) : MulOk i j := by
  have a := bits_le h0 h
  have b := bits_le g0 g
  exact .inr (by unfold CMulX; omega)
theorem pow_x {i j : Int} (k : Nat) (h0 : 0 ≤ i) (h : i < 2 ^ k) (g0 : 0 ≤ j) (hk : (k : Int) * j ≤ 2 ^ 27) : PowOk i j := by
  have a := bits_le h0 h
  refine ⟨g0, Int.le_trans (Int.mul_le_mul_of_nonneg_right (by exact_mod_cast a) g0) hk⟩
theorem div_x {i j : Int} (h0 : 0 < j) (h : j < 2 ^ 9000) : CDivW i j := by
  refine ⟨h0, ?_⟩
  have hp : j.natAbs ≠ 0 := by omega
  refine (Nat.log2_lt hp).mpr ?_
  have : (j.natAbs : Int) < ((2 ^ 9000 : Nat) : Int) := by
    rw [Int.natAbs_of_nonneg (by omega)]
    push_cast
    exact h
  exact_mod_cast this
theorem flats_mem {n : Nat} : ∀ {xs : List Dt} {x : Dt}, flats n xs = true → x ∈ xs → flat n x = true
  | y :: ys, x, h, m => by
    unfold flats at h
    obtain ⟨h1, h2⟩ := b2 h
    cases m with
    | head => exact h1
    | tail _ m => exact flats_mem h2 m
end Wm

namespace Wm
open PySem PySem.Spec PyProof.Rows L2
/-! ### cells that are read and written, for simp -/
section
variable {G : Gh} {Q : QE} {i j : Int} {x : Dt} {xs ys : List Dt} {q n : Nat} {o : Ob}
theorem u_ixL : ixD (.ref n) (.int i) G Q ↔ ∃ xs, lstAt G n = some xs ∧ ∃ d, atI xs i = some d ∧ Q d G :=
  ⟨fun ⟨a, b, c, d, e⟩ => ⟨a, c, b, d, e⟩, fun ⟨a, b, c, d, e⟩ => ⟨a, c, b, d, e⟩⟩
theorem u_store {R : Gh → Prop} : storeD (.ref n) (.int i) x G R ↔ ∃ xs, G[n]? = some (.lst xs) ∧ ∃ j, ixN xs.length i = some j ∧ R (G.set n (.lst (xs.set j x))) :=
  ⟨fun ⟨a, b, c, d, e⟩ => ⟨a, c, b, d, e⟩, fun ⟨a, b, c, d, e⟩ => ⟨a, c, b, d, e⟩⟩
theorem u_ixD {k : Str} : ixD (.ref n) (.str k) G Q ↔ ∃ kvs, G[n]? = some (.dct kvs) ∧ ∃ d, valG kvs (.inr k) = some d ∧ Q d G :=
  ⟨fun ⟨a, b, c, d, e⟩ => ⟨a, c, b, d, e⟩, fun ⟨a, b, c, d, e⟩ => ⟨a, c, b, d, e⟩⟩
theorem u_storeD {k : Str} {R : Gh → Prop} : storeD (.ref n) (.str k) x G R = ∃ kvs, G[n]? = some (.dct kvs) ∧ kvs.length < sizeLine ∧ R (G.set n (.dct (putG kvs (.inr k) x))) := rfl
theorem u_self (h : q < G.length) : lstAt (G.set q (.lst xs)) q = some xs := w_lst (List.getElem?_set_self h)
theorem u_selfG (h : q < G.length) : (G.set q o)[q]? = some o := List.getElem?_set_self h
theorem u_ix10 : ixN 1 0 = some 0 := by decide
theorem u_ix20 : ixN 2 0 = some 0 := by decide
theorem u_ix21 : ixN 2 1 = some 1 := by decide
theorem u_ix30 : ixN 3 0 = some 0 := by decide
theorem u_ix31 : ixN 3 1 = some 1 := by decide
theorem u_ix32 : ixN 3 2 = some 2 := by decide
theorem u_ix40 : ixN 4 0 = some 0 := by decide
theorem u_ix41 : ixN 4 1 = some 1 := by decide
theorem u_ix42 : ixN 4 2 = some 2 := by decide
theorem u_ix43 : ixN 4 3 = some 3 := by decide
theorem w_at4 {a b c d : Dt} : atI (a :: b :: c :: d :: x :: xs) 4 = some x := at_nat (k := 4) rfl
theorem w_at5 {a b c d e : Dt} : atI (a :: b :: c :: d :: e :: x :: xs) 5 = some x := at_nat (k := 5) rfl
theorem w_at6 {a b c d e f : Dt} : atI (a :: b :: c :: d :: e :: f :: x :: xs) 6 = some x := at_nat (k := 6) rfl
theorem w_truN {G : Gh} : truD G .non = some false := rfl
theorem u_sz0 : 0 ≤ sizeLine := by omega
theorem u_sz1 : 1 ≤ sizeLine := by rw [sizeLine_eq]; omega
theorem u_sz2 : 2 ≤ sizeLine := by rw [sizeLine_eq]; omega
theorem u_sz3 : 3 ≤ sizeLine := by rw [sizeLine_eq]; omega
theorem u_sz4 : 4 ≤ sizeLine := by rw [sizeLine_eq]; omega
theorem u_sz5 : 5 ≤ sizeLine := by rw [sizeLine_eq]; omega
theorem u_sz6 : 6 ≤ sizeLine := by rw [sizeLine_eq]; omega
theorem u_sz7 : 7 ≤ sizeLine := by rw [sizeLine_eq]; omega
theorem u_sz8 : 8 ≤ sizeLine := by rw [sizeLine_eq]; omega
end
/-! ### repr of things without lists -/
mutual
/-- no lists in it, so deep at most, no number too great -/
def shw : Nat → Dt → Bool
  | _, .non => true
  | _, .bl _ => true
  | _, .int i => decide (i.natAbs < 2 ^ 600)
  | _, .str s => PyData.strOk s && s.cps.toList.all fun c => decide (c < 16 ^ 8)
  | 0, .tup _ => false
  | n + 1, .tup xs => shws n xs
  | _, .ref _ => false
def shws : Nat → List Dt → Bool
  | _, [] => true
  | n, x :: xs => shw n x && shws n xs
end
mutual
def lenB : Dt → Nat
  | .non => 4
  | .bl _ => 5
  | .int _ => 601
  | .str s => 10 * s.length + 2
  | .tup xs => lenBs xs + 3
  | .ref _ => 0
def lenBs : List Dt → Nat
  | [] => 0
  | x :: xs => lenB x + 2 + lenBs xs
end
theorem log_600 {i : Int} (h : i.natAbs < 2 ^ 600) : i.natAbs.log2 < 600 := by
  by_cases h0 : i.natAbs = 0
  · rw [h0]; decide
  · exact (Nat.log2_lt h0).mpr h
mutual
theorem shw_all : ∀ (n : Nat) (d : Dt), shw n d = true → flat n d = true ∧ (toP d).showable = true ∧ (toP d).depth ≤ n ∧ (toP d).shown.length ≤ lenB d ∧ (toP d).canLay0 = true
  | n, .non, _ => ⟨by cases n <;> (unfold flat; rfl), by unfold toP; rfl, by unfold toP; simp [PyData.depth], by unfold toP lenB; exact Nat.le_of_eq rfl, by unfold toP; rfl⟩
  | n, .bl b, _ => ⟨by cases n <;> (unfold flat; rfl), by unfold toP; rfl, by unfold toP; simp [PyData.depth], by unfold toP lenB; cases b <;> decide, by unfold toP; rfl⟩
  | n, .int i, h => by
    have hi : i.natAbs < 2 ^ 600 := by cases n <;> (unfold shw at h; exact of_decide_eq_true h)
    have hl := log_600 hi
    refine ⟨by cases n <;> (unfold flat; rfl), ?_, by unfold toP; simp [PyData.depth], ?_, by unfold toP; rfl⟩
    · unfold toP PyData.showable; exact decide_eq_true (by omega)
    · unfold toP lenB PyData.shown
      have := int_text_length_le (a := i) (k := 600) (by omega) hl
      exact Nat.le_trans (Nat.le_of_eq (PySem.ofString_length _)) this
  | n, .str x, h => by
    have hz : (PyData.strOk x && x.cps.toList.all fun c => decide (c < 16 ^ 8)) = true := by cases n <;> (unfold shw at h; exact h)
    obtain ⟨ho, hx⟩ := b2 hz
    refine ⟨by cases n <;> (unfold flat; rfl), by unfold toP; rfl, by unfold toP; simp [PyData.depth], ?_, by unfold toP PyData.canLay0; exact ho⟩
    unfold toP lenB PyData.shown
    exact StrLaws.reprText_len x (by simpa only [List.all_eq_true, decide_eq_true_eq] using hx)
  | 0, .tup _, h => by unfold shw at h; cases h
  | n + 1, .tup xs, h => by
    unfold shw at h
    obtain ⟨a, b, c, d, e⟩ := shws_all n xs h
    refine ⟨by unfold flat; exact a, by unfold toP; simp only [PyData.showable]; exact b, by unfold toP; simp only [PyData.depth]; omega, ?_, by unfold toP; simp only [PyData.canLay0]; exact e⟩
    unfold toP lenB
    simp only [PyData.shown]
    have := tupleText_len_le (PyData.shownAll (toPs xs))
    omega
  | n, .ref _, h => by cases n <;> (unfold shw at h; cases h)
theorem shws_all : ∀ (n : Nat) (ds : List Dt), shws n ds = true → flats n ds = true ∧ PyData.showableAll (toPs ds) = true ∧ PyData.depthAll (toPs ds) ≤ n ∧ ((PyData.shownAll (toPs ds)).map (·.length)).sum + 2 * (PyData.shownAll (toPs ds)).length ≤ lenBs ds ∧ PyData.canLayAll0 (toPs ds) = true
  | n, [], _ => ⟨by unfold flats; rfl, by unfold toPs; rfl, by unfold toPs; simp [PyData.depthAll], by unfold toPs; simp [PyData.shownAll], by unfold toPs; rfl⟩
  | n, x :: xs, h => by
    unfold shws at h
    obtain ⟨h1, h2⟩ := b2 h
    obtain ⟨a, b, c, d, f⟩ := shw_all n x h1
    obtain ⟨a2, b2, c2, d2, f2⟩ := shws_all n xs h2
    refine ⟨by unfold flats; rw [a, a2]; rfl, by unfold toPs; simp only [PyData.showableAll, b, b2, Bool.and_self], by unfold toPs; simp only [PyData.depthAll]; omega, ?_, by unfold toPs; simp only [PyData.canLayAll0, f, f2, Bool.and_self]⟩
    unfold toPs lenBs
    simp only [PyData.shownAll, List.map_cons, List.sum_cons, List.length_cons]
    omega
end
theorem px_of : ∀ n : Nat, (∀ (G : Gh) (d : Dt) (p : PyData), pdN n G d = some p → pxN n G d = some p) ∧ (∀ (G : Gh) (ds : List Dt) (ps : List PyData), pdL n G ds = some ps → pxL n G ds = some ps)
  | 0 => by
    refine ⟨fun G d p h => ?_, fun G ds ps h => ?_⟩
    · cases d <;> (unfold pdN at h; unfold pxN; exact h)
    · cases ds <;> (unfold pdL at h; unfold pxL; exact h)
  | n + 1 => by
    obtain ⟨i1, i2⟩ := px_of n
    refine ⟨fun G d p h => ?_, fun G ds ps h => ?_⟩
    · cases d with
      | tup xs =>
        unfold pdN at h
        unfold pxN
        cases e : pdL n G xs with
        | none => rw [e] at h; cases h
        | some ps => rw [e] at h; rw [i2 G xs ps e]; exact h
      | ref k =>
        unfold pdN at h
        unfold pxN
        cases e1 : lstAt G k with
        | none => rw [e1] at h; cases h
        | some xs =>
          rw [e1] at h
          dsimp only at h ⊢
          cases e : pdL n G xs with
          | none => rw [e] at h; cases h
          | some ps => rw [e] at h; rw [i2 G xs ps e]; exact h
      | _ => unfold pdN at h; unfold pxN; exact h
    · cases ds with
      | nil => unfold pdL at h; unfold pxL; exact h
      | cons x xs =>
        unfold pdL at h
        unfold pxL
        cases e1 : pdN n G x with
        | none => rw [e1] at h; cases h
        | some q =>
          cases e2 : pdL n G xs with
          | none => rw [e1, e2] at h; cases h
          | some qs => rw [e1, e2] at h; rw [i1 G x q e1, i2 G xs qs e2]; exact h
theorem repr_flat {n : Nat} {d : Dt} {G : Gh} {Q : QE} (h : shw n d = true) (hn : n ≤ 59) (hl : lenB d ≤ 10000000) (hq : Q (.str (toP d).shown) G) : biD .repr [d] G Q := by
  obtain ⟨a, b, c, e, _⟩ := shw_all n d h
  obtain ⟨m, e1, _⟩ := pd_flat G n d a
  exact ⟨m, _, (px_of m).1 _ _ _ e1, b, by omega, by rw [sizeLine_eq]; omega, hq⟩
/-- a number that is not too great -/
theorem shw_int {n : Nat} {i : Int} (h0 : -(2 ^ 62) ≤ i) (h1 : i ≤ 2 ^ 62) : shw n (.int i) = true := by
  have : i.natAbs < 2 ^ 600 := Nat.lt_of_lt_of_le (show i.natAbs < 2 ^ 63 by omega) (Nat.pow_le_pow_right (by omega) (by omega))
  cases n <;> (unfold shw; exact decide_eq_true this)
theorem str_beq (s : Str) : (s == s) = true := by simp
theorem at_in {xs : List Dt} {i : Int} (h0 : 0 ≤ i) (h1 : i < xs.length) : ∃ d, d ∈ xs ∧ atI xs i = some d := by
  obtain ⟨n, rfl⟩ : ∃ n : Nat, i = n := ⟨i.toNat, by omega⟩
  have hn : n < xs.length := by omega
  exact ⟨xs[n], List.getElem_mem hn, at_nat (List.getElem?_eq_getElem hn)⟩
theorem shw_tup {n : Nat} {xs : List Dt} : shw (n + 1) (.tup xs) = shws n xs := by
  conv => lhs; unfold shw
theorem shws_nil {n : Nat} : shws n [] = true := by unfold shws; rfl
theorem shws_cons {n : Nat} {x : Dt} {xs : List Dt} : shws n (x :: xs) = (shw n x && shws n xs) := by
  conv => lhs; unfold shws
theorem shw_non {n : Nat} : shw n .non = true := by unfold shw; rfl
theorem shw_bl {n : Nat} {b : Bool} : shw n (.bl b) = true := by unfold shw; rfl
theorem shw_shp {n : Nat} {d : Dt} (h : shw n d = true) (hn : n ≤ 60) : SeqAt.shaped (toP d) = true := by
  obtain ⟨a, b, c, e, f⟩ := shw_all n d h
  unfold SeqAt.shaped
  rw [f, decide_eq_true (show (toP d).depth ≤ 64 by omega)]
  rfl
theorem eq_flat {n : Nat} {x y : Dt} {G : Gh} {R : Bool → Prop} (h1 : shw n x = true) (h2 : shw n y = true) (hn : n ≤ 60) (r : R (PyData.eqv (toP x) (toP y))) : cmpD .eq x y G R :=
  eq_of (shw_all n x h1).1 (shw_all n y h2).1 (shw_shp h1 hn) (shw_shp h2 hn) r
theorem pd_list {n k : Nat} {G : Gh} {xs : List Dt} (hx : lstAt G k = some xs) (h : flats n xs = true) : ∃ m, ∀ j, m ≤ j → pdN j G (.ref k) = some (.list (toPs xs)) := by
  obtain ⟨m, e⟩ := pds_flat G n xs h
  refine ⟨m + 1, fun j hj => ?_⟩
  cases j with
  | zero => omega
  | succ j =>
    unfold pdN
    rw [hx]
    simp only
    rw [e j (by omega)]
    rfl
theorem shp_list {n : Nat} {xs : List Dt} (h : shws n xs = true) (hn : n ≤ 60) : SeqAt.shaped (.list (toPs xs)) = true := by
  obtain ⟨a, b, c, e, f⟩ := shws_all n xs h
  have hd : (PyData.list (toPs xs)).depth ≤ 64 := by simp only [PyData.depth]; omega
  have hc : (PyData.list (toPs xs)).canLay0 = true := by simp only [PyData.canLay0]; exact f
  unfold SeqAt.shaped
  rw [hc, decide_eq_true hd]
  rfl
theorem eq_list {n a b : Nat} {xs ys : List Dt} {G : Gh} {R : Bool → Prop} (hx : lstAt G a = some xs) (hy : lstAt G b = some ys) (h1 : shws n xs = true) (h2 : shws n ys = true) (hn : n ≤ 60) (r : R (PyData.eqvAll (toPs xs) (toPs ys))) : cmpD .eq (.ref a) (.ref b) G R := by
  obtain ⟨m1, e1⟩ := pd_list hx (shws_all n xs h1).1
  obtain ⟨m2, e2⟩ := pd_list hy (shws_all n ys h2).1
  refine .inr ⟨max m1 m2, _, _, e1 _ (by omega), e2 _ (by omega), shp_list h1 hn, shp_list h2 hn, ?_⟩
  unfold PyData.eqv
  exact r
theorem ne_flat {n : Nat} {x y : Dt} {G : Gh} {R : Bool → Prop} (h1 : shw n x = true) (h2 : shw n y = true) (hn : n ≤ 60) (r : R (!PyData.eqv (toP x) (toP y))) : cmpD .ne x y G R := eq_flat (R := fun b => R !b) h1 h2 hn r
theorem ne_list {n a b : Nat} {xs ys : List Dt} {G : Gh} {R : Bool → Prop} (hx : lstAt G a = some xs) (hy : lstAt G b = some ys) (h1 : shws n xs = true) (h2 : shws n ys = true) (hn : n ≤ 60) (r : R (!PyData.eqvAll (toPs xs) (toPs ys))) : cmpD .ne (.ref a) (.ref b) G R := eq_list (R := fun b => R !b) hx hy h1 h2 hn r
theorem lst_lt {G : Gh} {n : Nat} {xs : List Dt} (h : lstAt G n = some xs) : n < G.length := by
  by_cases hl : n < G.length
  · exact hl
  · unfold lstAt at h
    rw [List.getElem?_eq_none (by omega)] at h
    cases h
theorem p2_pos (k : Nat) : (0 : Int) < 2 ^ k := Int.pow_pos (by omega)
theorem p2_succ (k : Nat) : (2 : Int) ^ (k + 1) = 2 * 2 ^ k := by rw [Int.pow_succ]; omega
theorem p2_le {j k : Nat} (h : j ≤ k) : (2 : Int) ^ j ≤ 2 ^ k := by
  have := Nat.pow_le_pow_right (n := 2) (by omega) h
  exact_mod_cast this
theorem sq_lt {a b : Int} (hb : 0 ≤ b) (h : a * a < b * b) : a < b := by
  rcases Int.lt_or_le a b with c | c
  · exact c
  · have := Int.mul_le_mul c c hb (by omega)
    omega
mutual
theorem eqv_self : ∀ (n : Nat) (d : Dt), flat n d = true → PyData.eqv (toP d) (toP d) = true
  | n, .non, _ => by unfold toP PyData.eqv; rfl
  | n, .bl b, _ => by unfold toP PyData.eqv; simp
  | n, .int i, _ => by unfold toP PyData.eqv; simp
  | n, .str x, _ => by unfold toP PyData.eqv; simp
  | 0, .tup _, h => by unfold flat at h; cases h
  | n + 1, .tup xs, h => by
    unfold flat at h
    unfold toP PyData.eqv
    exact eqvs_self n xs h
  | n, .ref _, h => by cases n <;> (unfold flat at h; cases h)
theorem eqvs_self : ∀ (n : Nat) (ds : List Dt), flats n ds = true → PyData.eqvAll (toPs ds) (toPs ds) = true
  | n, [], _ => by unfold toPs PyData.eqvAll; rfl
  | n, d :: ds, h => by
    unfold flats at h
    obtain ⟨h1, h2⟩ := b2 h
    unfold toPs PyData.eqvAll
    rw [eqv_self n d h1, eqvs_self n ds h2]
    rfl
end
/-- a thing is equal to itself -/
theorem eq_same {n : Nat} {x : Dt} {G : Gh} {R : Bool → Prop} (h : shw n x = true) (hn : n ≤ 60) (r : R true) : cmpD .eq x x G R := eq_flat h h hn (by rw [eqv_self n x (shw_all n x h).1]; exact r)
theorem ne_same {n : Nat} {x : Dt} {G : Gh} {R : Bool → Prop} (h : shw n x = true) (hn : n ≤ 60) (r : R false) : cmpD .ne x x G R := eq_same (R := fun b => R !b) h hn r
/-- a comprehension whose turns write, whose condition may say no -/
theorem comp_gen {g : Dt → En → Gh → (En → Gh → Prop) → XQ → Prop} {c : En → Gh → (Bool → Gh → Prop) → XQ → Prop} {e : En → Gh → QE → XQ → Prop} {w : List (Nat × List Dt)} {own : List Nat} {env : En} {n : Nat} {I : List Dt → List Dt → Gh → Prop} {Q : Gh → Prop}
    (hI : ∀ xs acc G o, I xs acc G → I xs acc (G.set n o)) (hw : ∀ xs acc G, I xs acc G → Stands w G)
    (he : ∀ x xs acc G' Yes No, I (x :: xs) acc G' → G'[n]? = some (.lst acc) → (∀ G'' d, I xs (acc ++ [d]) G'' → G''[n]? = some (.lst acc) → Yes d G'') → (∀ G'', I xs acc G'' → G''[n]? = some (.lst acc) → No G'') → Turn g c e env own x G' Yes No)
    (hq : ∀ G' acc', I [] acc' G' → G'[n]? = some (.lst acc') → Q G') : ∀ (items acc : List Dt) (G : Gh), acc.length + items.length ≤ sizeLine → I items acc G → G[n]? = some (.lst acc) → compD g c e w own env n items acc G Q
  | [], acc, G, _, m, e => ⟨hw _ _ G m, e, hq G acc m e⟩
  | x :: items, acc, G, hl, m, e => by
    refine ⟨hw _ _ G m, he x items acc G _ _ m e (fun G3 d m3 e3 => ?_) fun G3 m3 e3 => ?_⟩
    · have hn3 : n < G3.length := (List.getElem?_eq_some_iff.mp e3).1
      exact ⟨e3, by simp at hl; omega, comp_gen hI hw he hq items (acc ++ [d]) (G3.set n (.lst (acc ++ [d]))) (by simp at hl ⊢; omega) (hI _ _ _ _ m3) (List.getElem?_set_self hn3)⟩
    · exact comp_gen hI hw he hq items acc G3 (by simp at hl ⊢; omega) m3 e3
theorem at_last {xs : List Dt} {x : Dt} : atI (xs ++ [x]) (-1) = some x := by
  have h : ixN (xs ++ [x]).length (-1) = some xs.length := by
    unfold ixN
    rw [if_neg (by omega), if_pos (by simp; omega)]
    congr 1
    simp
    omega
  unfold atI
  rw [h]
  simp
theorem cut_last {xs : List Dt} {x : Dt} : cutD (xs ++ [x]) (some (-1)) none = [x] := by
  have h : HT.sIx (xs ++ [x]).length 0 (some (-1)) = xs.length := by
    show (if (-1 : Int) < 0 then ((-1 : Int) + ((xs ++ [x]).length : Int)).toNat else min (-1 : Int).toNat (xs ++ [x]).length) = _
    rw [if_pos (by omega)]
    simp
    omega
  unfold cutD
  rw [h, HT.sIx_none]
  simp
theorem cut_nil : cutD ([] : List Dt) (some (-1)) none = [] := rfl
theorem cut_to {xs : List Dt} {k : Nat} : cutD xs none (some (k : Int)) = xs.take k := by
  unfold cutD
  rw [HT.sIx_none, HT.sIx_nat, List.drop_zero, Nat.sub_zero]
  by_cases h : k ≤ xs.length
  · rw [Nat.min_eq_left h]
  · rw [Nat.min_eq_right (by omega), List.take_length, List.take_of_length_le (by omega)]
theorem range_nil {lo hi : Int} (h : hi ≤ lo) : rangeD lo hi = [] := by
  unfold rangeD
  have : (hi - lo).toNat = 0 := by omega
  rw [this]
  rfl
theorem range_cons {lo hi : Int} (h : lo < hi) : rangeD lo hi = .int lo :: rangeD (lo + 1) hi := by
  unfold rangeD
  have : (hi - lo).toNat = (hi - (lo + 1)).toNat + 1 := by omega
  rw [this, List.range_succ_eq_map, List.map_cons, List.map_map]
  congr 1
  · simp
  · apply List.map_congr_left
    intro i _
    simp only [Function.comp, Dt.int.injEq]
    omega
/-! ### words, cuts, truths -/
theorem q_full_full : (("full" : Str) == ("full" : Str)) = true := by decide
theorem q_full_drop : (("full" : Str) == ("drop" : Str)) = false := by decide
theorem q_full_mark : (("full" : Str) == ("mark" : Str)) = false := by decide
theorem q_full_come : (("full" : Str) == ("come" : Str)) = false := by decide
theorem q_full_send : (("full" : Str) == ("send" : Str)) = false := by decide
theorem q_full_bell : (("full" : Str) == ("bell" : Str)) = false := by decide
theorem q_drop_full : (("drop" : Str) == ("full" : Str)) = false := by decide
theorem q_drop_drop : (("drop" : Str) == ("drop" : Str)) = true := by decide
theorem q_drop_mark : (("drop" : Str) == ("mark" : Str)) = false := by decide
theorem q_drop_come : (("drop" : Str) == ("come" : Str)) = false := by decide
theorem q_drop_send : (("drop" : Str) == ("send" : Str)) = false := by decide
theorem q_drop_bell : (("drop" : Str) == ("bell" : Str)) = false := by decide
theorem q_mark_full : (("mark" : Str) == ("full" : Str)) = false := by decide
theorem q_mark_drop : (("mark" : Str) == ("drop" : Str)) = false := by decide
theorem q_mark_mark : (("mark" : Str) == ("mark" : Str)) = true := by decide
theorem q_mark_come : (("mark" : Str) == ("come" : Str)) = false := by decide
theorem q_mark_send : (("mark" : Str) == ("send" : Str)) = false := by decide
theorem q_mark_bell : (("mark" : Str) == ("bell" : Str)) = false := by decide
theorem q_come_full : (("come" : Str) == ("full" : Str)) = false := by decide
theorem q_come_drop : (("come" : Str) == ("drop" : Str)) = false := by decide
theorem q_come_mark : (("come" : Str) == ("mark" : Str)) = false := by decide
theorem q_come_come : (("come" : Str) == ("come" : Str)) = true := by decide
theorem q_come_send : (("come" : Str) == ("send" : Str)) = false := by decide
theorem q_come_bell : (("come" : Str) == ("bell" : Str)) = false := by decide
theorem q_send_full : (("send" : Str) == ("full" : Str)) = false := by decide
theorem q_send_drop : (("send" : Str) == ("drop" : Str)) = false := by decide
theorem q_send_mark : (("send" : Str) == ("mark" : Str)) = false := by decide
theorem q_send_come : (("send" : Str) == ("come" : Str)) = false := by decide
theorem q_send_send : (("send" : Str) == ("send" : Str)) = true := by decide
theorem q_send_bell : (("send" : Str) == ("bell" : Str)) = false := by decide
theorem q_bell_full : (("bell" : Str) == ("full" : Str)) = false := by decide
theorem q_bell_drop : (("bell" : Str) == ("drop" : Str)) = false := by decide
theorem q_bell_mark : (("bell" : Str) == ("mark" : Str)) = false := by decide
theorem q_bell_come : (("bell" : Str) == ("come" : Str)) = false := by decide
theorem q_bell_send : (("bell" : Str) == ("send" : Str)) = false := by decide
theorem q_bell_bell : (("bell" : Str) == ("bell" : Str)) = true := by decide
theorem q_late_late : (("late" : Str) == ("late" : Str)) = true := by decide
theorem q_late_share : (("late" : Str) == ("share" : Str)) = false := by decide
theorem q_late_none : (("late" : Str) == ("none" : Str)) = false := by decide
theorem q_share_late : (("share" : Str) == ("late" : Str)) = false := by decide
theorem q_share_share : (("share" : Str) == ("share" : Str)) = true := by decide
theorem q_share_none : (("share" : Str) == ("none" : Str)) = false := by decide
theorem q_none_late : (("none" : Str) == ("late" : Str)) = false := by decide
theorem q_none_share : (("none" : Str) == ("share" : Str)) = false := by decide
theorem q_none_none : (("none" : Str) == ("none" : Str)) = true := by decide
theorem cut_from {xs : List Dt} {k : Nat} : cutD xs (some (k : Int)) none = xs.drop k := by
  unfold cutD
  rw [HT.sIx_none, HT.sIx_nat]
  by_cases h : k ≤ xs.length
  · rw [Nat.min_eq_left h, List.take_of_length_le (by simp)]
  · rw [Nat.min_eq_right (by omega), List.drop_length, List.drop_eq_nil_of_le (by omega)]
    simp
theorem cut_1 {xs : List Dt} : cutD xs (some 1) none = xs.drop 1 := cut_from (k := 1)
theorem bls_true : ∀ {xs : List Dt}, (∀ x ∈ xs, x = .bl true) → ∃ bs, blsOf xs = some bs ∧ bs.all id = true
  | [], _ => ⟨[], rfl, rfl⟩
  | x :: xs, h => by
    obtain ⟨bs, e, a⟩ := bls_true (xs := xs) fun y hy => h y (List.mem_cons_of_mem _ hy)
    rw [h x List.mem_cons_self]
    exact ⟨true :: bs, by simp [blsOf, e], by simpa using a⟩
theorem zip_le : ∀ {xs ys : List Dt}, (zipD xs ys).length ≤ xs.length
  | [], _ => by simp [zipD]
  | _ :: _, [] => by simp [zipD]
  | x :: xs, y :: ys => by
    have := zip_le (xs := xs) (ys := ys)
    simp [zipD]
    omega
end Wm

/-! the head's run in parts -/
namespace Wm
open PySem PySem.W PySem.Calls PyProof.Rows HandSHeadRun
abbrev AlW : Type := He.AlD × Bool
noncomputable def obsW (T : Tab) (fn : List He.DefD) (g : Addr → Option Obj) : AlW := (He.obsD (faOf T) fn (KF g), conX T (KF g))
noncomputable def hookW (T : Tab) (fn : List He.DefD) : PySem.W.Hook where
  α := AlW
  obs := fun s => obsW T fn s.heap.get?
  val := fun _ => (He.valD fn, true)
  says := fun _ h => ∃ K : PySem.W.Frag, K.In h ∧ He.SaysD (faOf T) fn K ∧ conX T K = true
  of := fun _ _ e => ⟨_, He.frG_in, congrArg Prod.fst e, congrArg Prod.snd e⟩
  keeps := fun _ _ _ ⟨K, hK, c⟩ k => ⟨K, PySem.W.Frag.In.keeps hK k, c⟩
theorem obsW_eq {T : Tab} {fn : List He.DefD} (s : SharedT) : obsW T fn (getT s) = (hookW T fn).obs s.abs := by
  have e : getT s = s.abs.heap.get? := funext (getT_eq s)
  rw [e]
  rfl
theorem obs_app {fa : List He.Fa} {f1 f2 : List He.DefD} {K : PySem.W.Frag} (h1 : He.obsD fa f1 K = He.valD f1) (h2 : He.obsD [] f2 K = He.valD f2) : He.obsD fa (f1 ++ f2) K = He.valD (f1 ++ f2) := by
  unfold He.obsD He.valD at *
  have a1 := congrArg Prod.fst h1
  have a2 := congrArg Prod.snd h1
  have b1 := congrArg Prod.fst h2
  have b2 := congrArg Prod.snd h2
  dsimp only at a1 a2 b1 b2
  rw [List.all_nil, Bool.true_and] at b1
  rw [List.all_append, List.map_append, List.map_append, a2, b2, b1, Bool.and_true, a1]
theorem run_of {r : OpenRow} {q : Program} {T : Tab} {fn : List He.DefD} {M : Nat} {loose : List PySem.Str} {w : World}
    (h1 : ∀ os, (EndM r M w os).map (fun s => looksF r.prog (boot_heap w.params) s.abs) = some true)
    (h2 : ∀ os, (EndM r M w os).map (fun s => seenQ q loose (importedModules r.prog.main.body) (fun s => xlAt q [] s && recOk r.toRowW.records s) s.abs) = some (openGood q loose))
    (h3 : ∀ os s, EndM r M w os = some s → He.obsD (faOf T) fn (KF (getT s)) = He.valD fn)
    (h4 : ∀ os, (EndM r M w os).map (fun s => conX T (KF (getT s))) = some true) :
    RunEq r q (hookW T fn) (fun s => obsW T fn (getT s)) M loose w := by
  intro os
  obtain ⟨s, es, e1⟩ := Option.map_eq_some_iff.mp (h1 os)
  obtain ⟨s2, es2, e2⟩ := Option.map_eq_some_iff.mp (h2 os)
  obtain ⟨s4, es4, e4⟩ := Option.map_eq_some_iff.mp (h4 os)
  rw [es] at es2 es4
  cases es2
  cases es4
  have e3 := h3 os s es
  show (EndM r M w os).map _ = _
  rw [es, Option.map_some]
  show some (_, _, obsW T fn (getT s)) = _
  unfold obsW
  rw [e1, e2, e3, e4]
  rfl
theorem chunk_of {r : OpenRow} {M : Nat} {w : World} {os : OsState} {s : SharedT} {fa : List He.Fa} {fn : List He.DefD} (h : (EndM r M w os).map (fun s => He.obsD fa fn (KF (getT s))) = some (He.valD fn)) (e : EndM r M w os = some s) : He.obsD fa fn (KF (getT s)) = He.valD fn := by
  rw [e] at h
  simpa using h
end Wm

namespace Wm
open PySem PySem.Spec PyProof.Rows L2
/-! ### loops by an invariant -/
section
variable {call : CallT} {kw : Nat → List Dt → List Str → List Dt → List Dt} {isa : Nat → Nat → Bool}
theorem for_by (mc : MonoC call) {g b : Cd} {w : List (Nat × List Dt)} {K : Kn} (I : List Dt → En → Gh → Prop)
    (hs : ∀ x xs env G, I (x :: xs) env G → Stands w G ∧ (sem call kw isa g).g x env G (fun env1 G1 => (sem call kw isa b).s env1 G1 { nx := I xs, ct := I xs, bk := K.nx, rt := K.rt, xc := K.xc }) fun _ _ => False)
    (hd : ∀ env G, I [] env G → Stands w G ∧ K.nx env G) : ∀ (items : List Dt) (env : En) (G : Gh), I items env G → forD (sem call kw isa g).g (sem call kw isa b).s w items env G K
  | [], env, G, h => hd env G h
  | x :: xs, env, G, h => by
    obtain ⟨h1, h2⟩ := hs x xs env G h
    refine ⟨h1, (sem_mono mc g).g (fun env1 G1 q => ?_) (fun _ _ z => z) h2⟩
    exact (sem_mono mc b).s (K := { nx := I xs, ct := I xs, bk := K.nx, rt := K.rt, xc := K.xc }) (fun e G' z => for_by mc I hs hd xs e G' z) (fun _ _ z => z) (fun _ _ z => z) (fun e G' z => for_by mc I hs hd xs e G' z) (fun _ _ _ z => z) q
theorem whl_by (mc : MonoC call) {c b : Cd} {K : Kn} (I : Nat → En → Gh → Prop)
    (hs : ∀ n env G, I n env G → (sem call kw isa c).t env G (fun k G1 => if k = true then ∃ m, n = m + 1 ∧ (sem call kw isa b).s env G1 { nx := I m, ct := I m, bk := K.nx, rt := K.rt, xc := K.xc } else K.nx env G1) fun x G1 => K.xc x env G1) : ∀ (n : Nat) (env : En) (G : Gh), I n env G → whileN (sem call kw isa c).t (sem call kw isa b).s (n + 1) env G K
  | n, env, G, h => by
    unfold whileN
    refine (sem_mono mc c).t (fun k G1 q => ?_) (fun _ _ z => z) (hs n env G h)
    cases k with
    | false => exact q
    | true =>
      obtain ⟨m, rfl, q⟩ := q
      exact (sem_mono mc b).s (K := { nx := I m, ct := I m, bk := K.nx, rt := K.rt, xc := K.xc }) (fun e G' z => whl_by mc I hs m e G' z) (fun _ _ z => z) (fun _ _ z => z) (fun e G' z => whl_by mc I hs m e G' z) (fun _ _ _ z => z) q
end
theorem down_nil {hi lo : Int} (h : hi ≤ lo) : downD hi lo = [] := by
  unfold downD
  have : (hi - lo).toNat = 0 := by omega
  rw [this]
  rfl
theorem down_cons {hi lo : Int} (h : lo < hi) : downD hi lo = .int hi :: downD (hi - 1) lo := by
  unfold downD
  have : (hi - lo).toNat = (hi - 1 - lo).toNat + 1 := by omega
  rw [this, List.range_succ_eq_map, List.map_cons, List.map_map]
  congr 1
  · congr 1
    omega
  · apply List.map_congr_left
    intro i _
    simp only [Function.comp]
    congr 1
    omega
theorem range_split {i n : Nat} {x : Dt} {xs : List Dt} (h : x :: xs = rangeD i n) : i < n ∧ x = .int i ∧ xs = rangeD ((i + 1 : Nat) : Int) n := by
  have hlt : i < n := by
    by_cases z : i < n
    · exact z
    · rw [range_nil (by omega)] at h; cases h
  rw [range_cons (by omega)] at h
  obtain ⟨rfl, rfl⟩ := List.cons.inj h
  exact ⟨hlt, rfl, by rw [show ((i + 1 : Nat) : Int) = (i : Int) + 1 by omega]⟩
theorem range_end {i n : Nat} (h : [] = rangeD i n) (hi : i ≤ n) : i = n := by
  by_cases z : i < n
  · rw [range_cons (by omega)] at h; cases h
  · omega
theorem range2 : rangeD 0 2 = [.int 0, .int 1] := rfl
theorem shwsZ {n : Nat} : ∀ {xs : List Int}, (∀ x ∈ xs, -(2 ^ 62) ≤ x ∧ x ≤ 2 ^ 62) → shws n (xs.map Dt.int) = true
  | [], _ => shws_nil
  | x :: xs, h => by
    have := h x List.mem_cons_self
    rw [List.map_cons, shws_cons, shw_int (by omega) (by omega), shwsZ fun y hy => h y (List.mem_cons_of_mem _ hy)]
    rfl
theorem lenBsZ : ∀ {xs : List Int}, lenBs (xs.map Dt.int) = 603 * xs.length
  | [] => by simp [lenBs]
  | x :: xs => by
    have := lenBsZ (xs := xs)
    simp only [List.map_cons, lenBs, lenB, List.length_cons]
    omega
end Wm

namespace Wm
open PySem
def c_comers_is_whole : Cd := (.seq (.ret (.andv (.isi (.var 0) [.ty "int"]) (.notv (.isi (.var 0) [.ty "bool"])))) .nil)
abbrev F_comers_is_whole : Nat := 0
def c_comers_is_within : Cd := (.seq (.ret (.andv (.call 0 (.cons (.var 0) .nil)) (.chain .le .le (.var 1) (.var 0) (.var 2)))) .nil)
abbrev F_comers_is_within : Nat := 1
def c_rules_is_between : Cd := (.seq (.ret (.andv (.isi (.var 0) [.ty "int"]) (.andv (.notv (.isi (.var 0) [.ty "bool"])) (.chain .le .le (.var 1) (.var 0) (.var 2))))) .nil)
abbrev F_rules_is_between : Nat := 15
def c_late_is_late_1 : Cd := (.call 1 (.cons (.var 3) (.cons (.kint 1) (.cons (.gk (.int 99)) .nil))))
def c_late_is_late : Cd := (.seq (.ife (.tor (.tnot (.tval (.isi (.var 0) [.ty "tuple"]))) (.tcmp .ne (.bi .len (.cons (.var 0) .nil)) (.kint 3))) (.seq (.ret (.kbl false)) .nil) .nil) (.seq (.asg (.gstar (.cons (.gn 2) (.gst 1))) (.var 0)) (.seq (.ret (.andv (.isi (.var 2) [.ty "str"]) (.andv (.cmp .eq (.var 2) (.gk (.str "late"))) (.bi .all (.cons (.comp c_late_is_late_1 (.gn 3) (.iseq (.var 1)) .ttrue [3]) .nil))))) .nil)))
abbrev F_late_is_late : Nat := 49
def c_late_need_late : Cd := (.seq (.ife (.tnot (.tval (.call 49 (.cons (.var 0) .nil)))) (.seq (.raise 9) .nil) .nil) .nil)
abbrev F_late_need_late : Nat := 50
def c_late_is_late_memory : Cd := (.seq (.expr (.call 50 (.cons (.var 0) .nil))) (.seq (.ife (.tor (.tnot (.tval (.isi (.var 1) [.ty "tuple"]))) (.tcmp .ne (.bi .len (.cons (.var 1) .nil)) (.kint 3))) (.seq (.ret (.kbl false)) .nil) .nil) (.seq (.asg (.gt (.cons (.gt (.cons (.gn 2) (.cons (.gn 3) (.cons (.gn 4) .nil)))) (.cons (.gn 5) .nil))) (.tup (.cons (.var 1) (.cons (.ix (.var 0) (.kint 2)) .nil)))) (.seq (.ife (.tor (.tnot (.tval (.call 1 (.cons (.var 4) (.cons (.kint 0) (.cons (.bin .mul (.var 5) (.var 5)) .nil)))))) (.tand (.tcmp .isnot (.var 2) .knon) (.tnot (.tval (.call 1 (.cons (.var 2) (.cons (.kint 0) (.cons (.var 5) .nil)))))))) (.seq (.ret (.kbl false)) .nil) .nil) (.seq (.ret (.orv (.cmp .is_ (.var 3) .knon) (.andv (.cmp .eq (.var 2) (.var 5)) (.call 1 (.cons (.var 3) (.cons (.kint 0) (.cons (.var 5) .nil))))))) .nil)))))
abbrev F_late_is_late_memory : Nat := 51
def c_late_late_first : Cd := (.seq (.expr (.call 50 (.cons (.var 0) .nil))) (.seq (.ret (.tup (.cons .knon (.cons .knon (.cons (.kint 0) .nil))))) .nil))
abbrev F_late_late_first : Nat := 53
def c_share_is_share_1 : Cd := (.call 1 (.cons (.var 5) (.cons (.kint 0) (.cons (.gk (.int 999)) .nil))))
def c_share_is_share : Cd := (.seq (.ife (.tor (.tnot (.tval (.isi (.var 0) [.ty "tuple"]))) (.tcmp .ne (.bi .len (.cons (.var 0) .nil)) (.kint 5))) (.seq (.ret (.kbl false)) .nil) .nil) (.seq (.asg (.gstar (.cons (.gn 4) (.cons (.gn 3) (.cons (.gn 2) (.gst 1))))) (.var 0)) (.seq (.ife (.tor (.tnot (.tval (.isi (.var 4) [.ty "str"]))) (.tor (.tcmp .ne (.var 4) (.gk (.str "share"))) (.tor (.tnot (.tval (.call 1 (.cons (.var 3) (.cons (.kint 1) (.cons (.gk (.int 99)) .nil)))))) (.tnot (.tval (.call 1 (.cons (.var 2) (.cons (.kint 1) (.cons (.gk (.int 99)) .nil))))))))) (.seq (.ret (.kbl false)) .nil) .nil) (.seq (.ret (.bi .all (.cons (.comp c_share_is_share_1 (.gn 5) (.iseq (.var 1)) .ttrue [5]) .nil))) .nil))))
abbrev F_share_is_share : Nat := 56
def c_share_need_share : Cd := (.seq (.ife (.tnot (.tval (.call 56 (.cons (.var 0) .nil)))) (.seq (.raise 9) .nil) .nil) .nil)
abbrev F_share_need_share : Nat := 57
def c_share_share_first : Cd := (.seq (.expr (.call 57 (.cons (.var 0) .nil))) (.seq (.ret (.tup (.cons (.kint 0) (.cons (.kint 0) (.cons (.kint 0) (.cons (.kint 0) .nil)))))) .nil))
abbrev F_share_share_first : Nat := 58
def c_share_is_share_memory_1 : Cd := (.call 1 (.cons (.var 3) (.cons (.kint 0) (.cons (.var 4) .nil))))
def c_share_is_share_memory : Cd := (.seq (.expr (.call 57 (.cons (.var 0) .nil))) (.seq (.ife (.tor (.tnot (.tval (.isi (.var 1) [.ty "tuple"]))) (.tcmp .ne (.bi .len (.cons (.var 1) .nil)) (.kint 4))) (.seq (.ret (.kbl false)) .nil) .nil) (.seq (.asg (.gn 2) (.tup (.cons (.bin .sub (.ix (.var 0) (.kint 2)) (.kint 1)) (.cons (.gk (.int 1000)) (.cons (.gk (.int 99)) (.cons (.bin .sub (.gk (.int 1000)) (.kint 1)) .nil)))))) (.seq (.ret (.bi .all (.cons (.comp c_share_is_share_memory_1 (.gt (.cons (.gn 3) (.cons (.gn 4) .nil))) (.izips (.var 1) (.var 2)) .ttrue [3, 4]) .nil))) .nil))))
abbrev F_share_is_share_memory : Nat := 65
def c_rules_is_none : Cd := (.seq (.ret (.andv (.isi (.var 0) [.ty "tuple"]) (.andv (.cmp .eq (.bi .len (.cons (.var 0) .nil)) (.kint 1)) (.andv (.isi (.ix (.var 0) (.kint 0)) [.ty "str"]) (.cmp .eq (.var 0) (.gk (.tup [.str "none"]))))))) .nil)
abbrev F_rules_is_none : Nat := 71
def c_rules_is_rule : Cd := (.seq (.ret (.orv (.call 71 (.cons (.var 0) .nil)) (.orv (.call 49 (.cons (.var 0) .nil)) (.call 56 (.cons (.var 0) .nil))))) .nil)
abbrev F_rules_is_rule : Nat := 72
def c_rules_need_rule : Cd := (.seq (.ife (.tnot (.tval (.call 72 (.cons (.var 0) .nil)))) (.seq (.raise 9) .nil) .nil) .nil)
abbrev F_rules_need_rule : Nat := 73
def c_rules_is_memory_of : Cd := (.seq (.ife (.tcmp .eq (.ix (.var 0) (.kint 0)) (.kstr "none")) (.seq (.ret (.andv (.isi (.var 1) [.ty "tuple"]) (.cmp .eq (.var 1) (.tup .nil)))) .nil) .nil) (.seq (.ife (.tcmp .eq (.ix (.var 0) (.kint 0)) (.kstr "late")) (.seq (.ret (.call 51 (.cons (.var 0) (.cons (.var 1) .nil)))) .nil) .nil) (.seq (.ret (.call 65 (.cons (.var 0) (.cons (.var 1) .nil)))) .nil)))
abbrev F_rules_is_memory_of : Nat := 74
def c_rules_is_memory : Cd := (.seq (.expr (.call 73 (.cons (.var 0) .nil))) (.seq (.ret (.call 74 (.cons (.var 0) (.cons (.var 1) .nil)))) .nil))
abbrev F_rules_is_memory : Nat := 75
def c_rules_first_memory : Cd := (.seq (.expr (.call 73 (.cons (.var 0) .nil))) (.seq (.ife (.tcmp .eq (.ix (.var 0) (.kint 0)) (.kstr "none")) (.seq (.ret (.tup .nil)) .nil) .nil) (.seq (.ret (.ifx (.tcmp .eq (.ix (.var 0) (.kint 0)) (.kstr "late")) (.call 53 (.cons (.var 0) .nil)) (.call 58 (.cons (.var 0) .nil)))) .nil)))
abbrev F_rules_first_memory : Nat := 78
def c_law_pot : Cd := (.seq (.asg (.gn 2) (.kint 0)) (.seq (.ife (.tcmp .lt (.var 1) (.bi .len (.cons (.var 0) .nil))) (.seq (.asg (.gn 2) (.bin .mod (.bi .abs (.cons (.ix (.var 0) (.var 1)) .nil)) (.bin .pow (.bin .pow (.kint 10) (.kint 60)) (.kint 14)))) .nil) .nil) (.seq (.asg (.gn 3) (.bin .mod (.bin .pow (.bin .add (.bin .add (.bin .mod (.var 2) (.kint 2147483629)) (.bin .mul (.kint 7919) (.var 1))) (.kint 1)) (.kint 5)) (.kint 2305843009213693951))) (.seq (.ret (.lst (.cons (.bin .mul (.var 2) (.bi .int (.cons (.cmp .ge (.var 2) (.bin .pow (.kint 10) (.kint 18))) .nil))) (.cons (.var 3) (.cons (.kint 0) .nil))))) .nil))))
abbrev F_law_pot : Nat := 1000
def c_law_take : Cd := (.seq (.ife (.tcmp .gt (.ix (.var 0) (.kint 0)) (.kint 0)) (.seq (.asg (.gn 2) (.bin .mod (.ix (.var 0) (.kint 0)) (.var 1))) (.seq (.asg (.gsub (.var 0) (.kint 0)) (.bin .fdiv (.ix (.var 0) (.kint 0)) (.var 1))) (.seq (.ret (.var 2)) .nil))) .nil) (.seq (.asg (.gsub (.var 0) (.kint 2)) (.bin .add (.ix (.var 0) (.kint 2)) (.kint 1))) (.seq (.asg (.gn 3) (.bin .mod (.bin .pow (.bin .add (.ix (.var 0) (.kint 1)) (.bin .mul (.kint 104729) (.ix (.var 0) (.kint 2)))) (.kint 3)) (.kint 2305843009213693921))) (.seq (.asg (.gn 4) (.bin .mod (.bin .pow (.bin .add (.bin .add (.var 3) (.bin .mod (.ix (.var 0) (.kint 1)) (.kint 65537))) (.bin .mul (.kint 31) (.ix (.var 0) (.kint 2)))) (.kint 5)) (.kint 2305843009213693907))) (.seq (.ret (.bin .mod (.bin .fdiv (.var 4) (.kint 1024)) (.var 1))) .nil)))))
abbrev F_law_take : Nat := 1001
def c_law_1 : Cd := (.seq (.ife (.tnot (.tval (.call 1004 (.cons (.var 6) .nil)))) (.seq (.ret (.kbl false)) .nil) .nil) .nil)
def c_law_2 : Cd := (.seq (.asg (.gn 3) (.call 1000 (.cons (.var 1) (.cons (.var 2) .nil)))) (.seq (.asg (.gn 4) (.call 1001 (.cons (.var 3) (.cons (.bin .pow (.kint 10) (.kint 19)) .nil)))) (.seq (.asg (.gn 5) (.lst (.cons (.call 1001 (.cons (.var 3) (.cons (.bin .pow (.kint 10) (.kint 39)) .nil))) (.cons (.call 1001 (.cons (.var 3) (.cons (.kint 300) .nil))) (.cons (.bin .sub (.bin .mul (.var 4) (.var 4)) (.bi .int (.cons (.cmp .gt (.var 4) (.kint 0)) .nil))) .nil))))) (.seq (.forr (.gn 6) (.iseq (.bin .add (.var 5) (.lst (.cons (.bin .add (.bin .mul (.var 4) (.var 4)) (.var 4)) .nil)))) c_law_1) (.seq (.ife (.tor (.tnot (.tval (.call 1005 (.cons (.var 3) .nil)))) (.tnot (.tval (.call 1006 (.cons (.var 3) .nil))))) (.seq (.ret (.kbl false)) .nil) .nil) .nil)))))
def c_law : Cd := (.seq (.asg (.gn 1) (.call 1002 (.cons (.var 0) (.cons (.kint 20) .nil)))) (.seq (.forr (.gn 2) (.irange1 (.bi .max (.cons (.kint 1) (.cons (.bi .len (.cons (.var 1) .nil)) .nil)))) c_law_2) (.seq (.ret (.kbl true)) .nil)))
abbrev F_law : Nat := 1007
def c_law_late_rule : Cd := (.seq (.asg (.gn 1) (.ix (.lst (.cons (.bin .add (.kint 1) (.call 1001 (.cons (.var 0) (.cons (.kint 4) .nil)))) (.cons (.bin .add (.kint 1) (.call 1001 (.cons (.var 0) (.cons (.kint 12) .nil)))) (.cons (.kint 99) .nil)))) (.bin .fdiv (.call 1001 (.cons (.var 0) (.cons (.kint 9) .nil))) (.kint 4)))) (.seq (.asg (.gn 2) (.lst (.cons (.bin .add (.kint 1) (.call 1001 (.cons (.var 0) (.cons (.kint 4) .nil)))) (.cons (.bin .add (.kint 1) (.call 1001 (.cons (.var 0) (.cons (.kint 12) .nil)))) (.cons (.bin .add (.kint 1) (.call 1001 (.cons (.var 0) (.cons (.kint 99) .nil)))) .nil))))) (.seq (.ret (.tup (.cons (.kstr "late") (.cons (.var 1) (.cons (.ix (.var 2) (.bin .fdiv (.call 1001 (.cons (.var 0) (.cons (.kint 9) .nil))) (.kint 4))) .nil))))) .nil)))
abbrev F_law_late_rule : Nat := 1024
def c_law_share_rule : Cd := (.seq (.asg (.gn 1) (.ix (.lst (.cons (.bin .add (.kint 1) (.call 1001 (.cons (.var 0) (.cons (.kint 4) .nil)))) (.cons (.bin .add (.kint 1) (.call 1001 (.cons (.var 0) (.cons (.kint 99) .nil)))) .nil))) (.bin .fdiv (.call 1001 (.cons (.var 0) (.cons (.kint 5) .nil))) (.kint 4)))) (.seq (.asg (.gn 2) (.ix (.lst (.cons (.bin .add (.kint 1) (.call 1001 (.cons (.var 0) (.cons (.kint 4) .nil)))) (.cons (.bin .add (.kint 1) (.call 1001 (.cons (.var 0) (.cons (.kint 99) .nil)))) .nil))) (.bin .fdiv (.call 1001 (.cons (.var 0) (.cons (.kint 5) .nil))) (.kint 4)))) (.seq (.asg (.gn 3) (.lst (.cons (.call 1001 (.cons (.var 0) (.cons (.kint 300) .nil))) (.cons (.call 1001 (.cons (.var 0) (.cons (.kint 1000) .nil))) (.cons (.kint 0) (.cons (.kint 999) .nil)))))) (.seq (.asg (.gn 4) (.ix (.var 3) (.call 1001 (.cons (.var 0) (.cons (.kint 4) .nil))))) (.seq (.ret (.tup (.cons (.kstr "share") (.cons (.var 1) (.cons (.var 2) (.cons (.var 4) (.cons (.ix (.lst (.cons (.call 1001 (.cons (.var 0) (.cons (.kint 300) .nil))) (.cons (.kint 0) (.cons (.kint 999) .nil)))) (.call 1001 (.cons (.var 0) (.cons (.kint 3) .nil)))) .nil))))))) .nil)))))
abbrev F_law_share_rule : Nat := 1025
def c_law_rule : Cd := (.seq (.asg (.gn 1) (.call 1001 (.cons (.var 0) (.cons (.kint 7) .nil)))) (.seq (.ife (.tcmp .eq (.var 1) (.kint 0)) (.seq (.ret (.tup (.cons (.kstr "none") .nil))) .nil) .nil) (.seq (.ret (.ifx (.tcmp .lt (.var 1) (.kint 4)) (.call 1024 (.cons (.var 0) .nil)) (.call 1025 (.cons (.var 0) .nil)))) .nil)))
abbrev F_law_rule : Nat := 1043
def c_law_memory : Cd := (.seq (.ife (.tcmp .eq (.ix (.var 1) (.kint 0)) (.kstr "none")) (.seq (.ret (.tup .nil)) .nil) .nil) (.seq (.ife (.tcmp .eq (.ix (.var 1) (.kint 0)) (.kstr "share")) (.seq (.asg (.gn 2) (.lst (.cons (.call 1001 (.cons (.var 0) (.cons (.kint 1001) .nil))) (.cons (.kint 1000) (.cons (.kint 0) (.cons (.kint 500) .nil)))))) (.seq (.asg (.gn 3) (.ix (.lst (.cons (.kint 0) (.cons (.call 1001 (.cons (.var 0) (.cons (.ix (.var 1) (.kint 2)) .nil))) .nil))) (.call 1001 (.cons (.var 0) (.cons (.kint 2) .nil))))) (.seq (.ret (.tup (.cons (.var 3) (.cons (.ix (.var 2) (.call 1001 (.cons (.var 0) (.cons (.kint 4) .nil)))) (.cons (.call 1001 (.cons (.var 0) (.cons (.kint 100) .nil))) (.cons (.call 1001 (.cons (.var 0) (.cons (.kint 1000) .nil))) .nil)))))) .nil))) .nil) (.seq (.asg (.gn 4) (.ix (.var 1) (.kint 2))) (.seq (.asg (.gn 5) (.ix (.lst (.cons .knon (.cons (.var 4) (.cons (.var 4) (.cons (.call 1001 (.cons (.var 0) (.cons (.bin .add (.var 4) (.kint 1)) .nil))) .nil))))) (.call 1001 (.cons (.var 0) (.cons (.kint 4) .nil))))) (.seq (.asg (.gn 6) .knon) (.seq (.ife (.tcmp .eq (.var 5) (.var 4)) (.seq (.asg (.gn 6) (.ix (.lst (.cons .knon (.cons (.kint 0) (.cons (.call 1001 (.cons (.var 0) (.cons (.bin .add (.var 4) (.kint 1)) .nil))) .nil)))) (.call 1001 (.cons (.var 0) (.cons (.kint 3) .nil))))) .nil) .nil) (.seq (.ret (.tup (.cons (.var 5) (.cons (.var 6) (.cons (.ix (.lst (.cons (.kint 0) (.cons (.bin .mul (.var 4) (.var 4)) (.cons (.call 1001 (.cons (.var 0) (.cons (.bin .add (.bin .mul (.var 4) (.var 4)) (.kint 1)) .nil))) .nil)))) (.call 1001 (.cons (.var 0) (.cons (.kint 3) .nil)))) .nil))))) .nil)))))))
abbrev F_law_memory : Nat := 1044
def c_law_number : Cd := (.seq (.ret (.andv (.isi (.var 0) [.ty "int"]) (.andv (.notv (.isi (.var 0) [.ty "bool"])) (.chain .le .le (.var 1) (.var 0) (.var 2))))) .nil)
abbrev F_law_number : Nat := 1045
def c_law_is_memory_1 : Cd := (.var 3)
def c_law_is_memory_2 : Cd := (.tnot (.tval (.call 1045 (.cons (.ix (.var 1) (.var 3)) (.cons (.kint 0) (.cons (.ix (.var 2) (.var 3)) .nil))))))
def c_law_is_memory : Cd := (.seq (.ife (.tnot (.tval (.isi (.var 1) [.ty "tuple"]))) (.seq (.ret (.kbl false)) .nil) .nil) (.seq (.ife (.tcmp .eq (.ix (.var 0) (.kint 0)) (.kstr "none")) (.seq (.ret (.cmp .eq (.var 1) (.tup .nil))) .nil) .nil) (.seq (.ife (.tcmp .eq (.ix (.var 0) (.kint 0)) (.kstr "share")) (.seq (.asg (.gn 2) (.lst (.cons (.bin .sub (.ix (.var 0) (.kint 2)) (.kint 1)) (.cons (.kint 1000) (.cons (.kint 99) (.cons (.kint 999) .nil)))))) (.seq (.ife (.tcmp .ne (.bi .len (.cons (.var 1) .nil)) (.kint 4)) (.seq (.ret (.kbl false)) .nil) .nil) (.seq (.ret (.cmp .eq (.comp c_law_is_memory_1 (.gn 3) (.irange1 (.kint 4)) c_law_is_memory_2 [3]) (.lst .nil))) .nil))) .nil) (.seq (.ife (.tor (.tcmp .ne (.bi .len (.cons (.var 1) .nil)) (.kint 3)) (.tnot (.tval (.call 1045 (.cons (.ix (.var 1) (.kint 2)) (.cons (.kint 0) (.cons (.bin .mul (.ix (.var 0) (.kint 2)) (.ix (.var 0) (.kint 2))) .nil))))))) (.seq (.ret (.kbl false)) .nil) .nil) (.seq (.ife (.tand (.tcmp .isnot (.ix (.var 1) (.kint 0)) .knon) (.tnot (.tval (.call 1045 (.cons (.ix (.var 1) (.kint 0)) (.cons (.kint 0) (.cons (.ix (.var 0) (.kint 2)) .nil))))))) (.seq (.ret (.kbl false)) .nil) .nil) (.seq (.ife (.tcmp .is_ (.ix (.var 1) (.kint 1)) .knon) (.seq (.ret (.kbl true)) .nil) .nil) (.seq (.ret (.andv (.call 1045 (.cons (.ix (.var 1) (.kint 1)) (.cons (.kint 0) (.cons (.ix (.var 0) (.kint 2)) .nil)))) (.cmp .eq (.ix (.var 1) (.kint 0)) (.ix (.var 0) (.kint 2))))) .nil)))))))
abbrev F_law_is_memory : Nat := 1046
def c_law_right : Cd := (.seq (.ret (.andv (.isi (.var 0) [.ty "bool"]) (.cmp .eq (.var 0) (.var 1)))) .nil)
abbrev F_law_right : Nat := 1047
def c_law_is_rule_1 : Cd := (.call 1100 (.cons (.var 1) (.cons (.kint 0) (.cons (.kint 999) .nil))))
def c_law_is_rule : Cd := (.seq (.ife (.tor (.tnot (.tval (.isi (.var 0) [.ty "tuple"]))) (.tor (.tcmp .eq (.var 0) (.tup .nil)) (.tnot (.tval (.isi (.ix (.var 0) (.kint 0)) [.ty "str"]))))) (.seq (.ret (.kbl false)) .nil) .nil) (.seq (.ife (.tcmp .eq (.ix (.var 0) (.kint 0)) (.kstr "none")) (.seq (.ret (.cmp .eq (.bi .len (.cons (.var 0) .nil)) (.kint 1))) .nil) .nil) (.seq (.ife (.tor (.tcmp .notin (.ix (.var 0) (.kint 0)) (.tup (.cons (.kstr "late") (.cons (.kstr "share") .nil)))) (.tcmp .ne (.bi .len (.cons (.var 0) .nil)) (.ix (.lst (.cons (.kint 5) (.cons (.kint 3) .nil))) (.bi .int (.cons (.cmp .eq (.ix (.var 0) (.kint 0)) (.kstr "late")) .nil))))) (.seq (.ret (.kbl false)) .nil) .nil) (.seq (.ife (.tor (.tnot (.tval (.call 1100 (.cons (.ix (.var 0) (.kint 1)) (.cons (.kint 1) (.cons (.kint 99) .nil)))))) (.tnot (.tval (.call 1100 (.cons (.ix (.var 0) (.kint 2)) (.cons (.kint 1) (.cons (.kint 99) .nil))))))) (.seq (.ret (.kbl false)) .nil) .nil) (.seq (.ret (.bi .all (.cons (.comp c_law_is_rule_1 (.gn 1) (.iseq (.sl (.var 0) (.cons (.kint 3) .nil) .nil)) .ttrue [1]) .nil))) .nil)))))
abbrev F_law_is_rule : Nat := 1101
def c_law_spoilt_1 : Cd := (.ifx (.tcmp .gt (.var 9) (.kint 1)) (.var 9) (.cmp .eq (.var 9) (.kint 1)))
def c_law_spoilt : Cd := (.seq (.asg (.gt (.cons (.gn 3) (.cons (.gn 4) (.cons (.gn 5) .nil)))) (.var 1)) (.seq (.asg (.gn 6) (.call 1001 (.cons (.var 0) (.cons (.kint 9) .nil)))) (.seq (.asg (.gn 7) (.call 1001 (.cons (.var 0) (.cons (.bi .len (.cons (.var 5) .nil)) .nil)))) (.seq (.ife (.tcmp .eq (.var 6) (.kint 0)) (.seq (.ret (.tup (.cons (.ix (.lst (.cons (.bin .add (.var 3) (.kint 1)) (.cons (.bin .sub (.var 3) (.kint 1)) (.cons .knon (.cons (.kbl true) (.cons (.kstr "0") .nil)))))) (.call 1001 (.cons (.var 0) (.cons (.kint 5) .nil)))) (.cons (.var 4) (.cons (.var 5) .nil))))) .nil) .nil) (.seq (.ife (.tcmp .eq (.var 6) (.kint 1)) (.seq (.ret (.tup (.cons (.var 3) (.cons (.bin .add (.var 4) (.tup (.cons (.call 1001 (.cons (.var 0) (.cons (.kint 3) .nil))) .nil))) (.cons (.var 5) .nil))))) .nil) .nil) (.seq (.ife (.tcmp .eq (.var 6) (.kint 2)) (.seq (.asg (.gn 8) (.bi .tuple (.cons (.comp c_law_spoilt_1 (.gn 9) (.iseq (.var 4)) .ttrue [9]) .nil))) (.seq (.ret (.tup (.cons (.var 3) (.cons (.ix (.lst (.cons (.sl (.var 4) .nil (.cons (.neg (.kint 1)) .nil)) (.cons (.tup .nil) (.cons (.bi .list (.cons (.var 4) .nil)) (.cons .knon (.cons (.bin .add (.tup (.cons (.kint 0) .nil)) (.var 4)) (.cons (.var 8) .nil))))))) (.call 1001 (.cons (.var 0) (.cons (.kint 6) .nil)))) (.cons (.var 5) .nil))))) .nil)) .nil) (.seq (.ife (.tcmp .eq (.var 6) (.kint 3)) (.seq (.ret (.tup (.cons (.var 3) (.cons (.var 4) (.cons (.bin .add (.sl (.var 5) .nil (.cons (.var 7) .nil)) (.sl (.var 5) (.cons (.bin .add (.var 7) (.kint 1)) .nil) .nil)) .nil))))) .nil) .nil) (.seq (.ife (.tcmp .eq (.var 6) (.kint 4)) (.seq (.ret (.tup (.cons (.var 3) (.cons (.var 4) (.cons (.bin .add (.bin .add (.sl (.var 5) .nil (.cons (.var 7) .nil)) (.tup (.cons (.ix (.var 5) (.var 7)) .nil))) (.sl (.var 5) (.cons (.var 7) .nil) .nil)) .nil))))) .nil) .nil) (.seq (.ife (.tcmp .eq (.var 6) (.kint 5)) (.seq (.ret (.tup (.cons (.var 3) (.cons (.var 4) (.cons (.bin .add (.sl (.var 5) (.cons (.var 7) .nil) .nil) (.sl (.var 5) .nil (.cons (.var 7) .nil))) .nil))))) .nil) .nil) (.seq (.ife (.tcmp .eq (.var 6) (.kint 6)) (.seq (.asg (.gn 10) (.lst (.cons .knon (.cons (.tup (.cons (.kint 0) (.cons (.tup .nil) (.cons (.tup .nil) .nil)))) (.cons (.bin .add (.tup (.cons (.kint 1) .nil)) (.sl (.ix (.var 5) (.var 7)) (.cons (.kint 1) .nil) .nil)) (.cons (.kstr "lane") .nil)))))) (.seq (.expr (.mt .append (.var 10) (.cons (.tup (.cons (.kint 0) (.cons (.tup (.cons (.tup (.cons (.kint 1) (.cons (.kbl false) (.cons (.kbl false) (.cons (.var 2) .nil))))) .nil)) (.cons (.ix (.ix (.var 5) (.var 7)) (.kint 2)) .nil)))) .nil))) (.seq (.ret (.tup (.cons (.var 3) (.cons (.var 4) (.cons (.bin .add (.var 5) (.tup (.cons (.ix (.var 10) (.call 1001 (.cons (.var 0) (.cons (.kint 5) .nil)))) .nil))) .nil))))) .nil))) .nil) (.seq (.ife (.tcmp .eq (.var 6) (.kint 7)) (.seq (.ret (.tup (.cons (.var 3) (.cons (.var 4) (.cons (.bin .add (.bin .add (.sl (.var 5) .nil (.cons (.var 7) .nil)) (.tup (.cons (.call 1145 (.cons (.var 0) (.cons (.ix (.var 5) (.var 7)) .nil))) .nil))) (.sl (.var 5) (.cons (.bin .add (.var 7) (.kint 1)) .nil) .nil)) .nil))))) .nil) .nil) (.seq (.ret (.ix (.lst (.cons (.bi .list (.cons (.var 1) .nil)) (.cons (.sl (.var 1) .nil (.cons (.kint 2) .nil)) (.cons (.bin .add (.var 1) (.tup (.cons (.kint 0) .nil))) (.cons .knon (.cons (.tup (.cons (.var 3) (.cons (.var 4) (.cons (.bi .list (.cons (.var 5) .nil)) .nil)))) .nil)))))) (.call 1001 (.cons (.var 0) (.cons (.kint 5) .nil))))) .nil))))))))))))
abbrev F_law_spoilt : Nat := 1146
def c_law4_1 : Cd := (.seq (.asg (.gn 2) (.call 1000 (.cons (.var 0) (.cons (.var 1) .nil)))) (.seq (.asg (.gn 3) (.call 1034 (.cons (.var 2) .nil))) (.seq (.ife (.tor (.tnot (.tval (.call 1199 (.cons (.var 2) (.cons (.var 3) .nil))))) (.tnot (.tval (.call 1208 (.cons (.var 2) (.cons (.ix (.var 3) (.kint 0)) .nil)))))) (.seq (.ret (.kbl false)) .nil) .nil) .nil)))
def c_law4 : Cd := (.seq (.forr (.gn 1) (.irange1 (.bi .max (.cons (.kint 1) (.cons (.bi .min (.cons (.kint 8) (.cons (.bi .len (.cons (.var 0) .nil)) .nil))) .nil)))) c_law4_1) (.seq (.ret (.kbl true)) .nil))
abbrev F_law4 : Nat := 1209
def c_law_first : Cd := (.seq (.ret (.ix (.dic ["none", "late", "share"] (.cons (.lst .nil) (.cons (.lst (.cons .knon (.cons .knon (.cons (.kint 0) .nil)))) (.cons (.lst (.cons (.kint 0) (.cons (.kint 0) (.cons (.kint 0) (.cons (.kint 0) .nil))))) .nil)))) (.ix (.var 0) (.kint 0)))) .nil)
abbrev F_law_first : Nat := 1232
def c_law_is_rule3_1 : Cd := (.seq (.ife (.tnot (.tval (.call 1045 (.cons (.ix (.var 0) (.bin .add (.kint 1) (.var 2))) (.cons (.var 3) (.cons (.var 4) .nil)))))) (.seq (.ret (.kbl false)) .nil) .nil) .nil)
def c_law_is_rule3 : Cd := (.seq (.ife (.tor (.tnot (.tval (.isi (.var 0) [.ty "tuple"]))) (.tor (.tcmp .eq (.var 0) (.tup .nil)) (.tnot (.tval (.isi (.ix (.var 0) (.kint 0)) [.ty "str"]))))) (.seq (.ret (.kbl false)) .nil) .nil) (.seq (.ife (.tcmp .eq (.ix (.var 0) (.kint 0)) (.kstr "none")) (.seq (.ret (.cmp .eq (.bi .len (.cons (.var 0) .nil)) (.kint 1))) .nil) .nil) (.seq (.ife (.tcmp .notin (.ix (.var 0) (.kint 0)) (.tup (.cons (.kstr "late") (.cons (.kstr "share") .nil)))) (.seq (.ret (.kbl false)) .nil) .nil) (.seq (.asg (.gn 1) (.ix (.dic ["late", "share"] (.cons (.lst (.cons (.tup (.cons (.kint 1) (.cons (.kint 99) .nil))) (.cons (.tup (.cons (.kint 1) (.cons (.kint 99) .nil))) .nil))) (.cons (.lst (.cons (.tup (.cons (.kint 1) (.cons (.kint 99) .nil))) (.cons (.tup (.cons (.kint 1) (.cons (.kint 99) .nil))) (.cons (.tup (.cons (.kint 0) (.cons (.kint 999) .nil))) (.cons (.tup (.cons (.kint 0) (.cons (.kint 999) .nil))) .nil))))) .nil))) (.ix (.var 0) (.kint 0)))) (.seq (.ife (.tcmp .ne (.bi .len (.cons (.var 0) .nil)) (.bin .add (.kint 1) (.bi .len (.cons (.var 1) .nil)))) (.seq (.ret (.kbl false)) .nil) .nil) (.seq (.forr (.gt (.cons (.gn 2) (.cons (.gt (.cons (.gn 3) (.cons (.gn 4) .nil))) .nil))) (.ienum (.var 1)) c_law_is_rule3_1) (.seq (.ret (.kbl true)) .nil)))))))
abbrev F_law_is_rule3 : Nat := 1233
def c_law_odd : Cd := (.seq (.asg (.gn 1) (.call 1001 (.cons (.var 0) (.cons (.bin .pow (.kint 10) (.kint 39)) .nil)))) (.seq (.asg (.gn 2) (.lst (.cons (.neg (.kint 1)) (.cons (.kint 100) (.cons (.kint 1001) (.cons (.bin .add (.bin .pow (.kint 10) (.kint 6)) (.kint 1)) (.cons (.var 1) (.cons (.neg (.var 1)) (.cons (.kbl true) (.cons (.kbl false) (.cons .knon (.cons (.kstr "") (.cons (.kstr "late") (.cons (.kstr "none") (.cons (.tup .nil) (.cons (.lst .nil) (.cons (.dic [] .nil) (.cons (.tup (.cons (.kint 0) .nil)) (.cons (.lst (.cons .knon .nil)) (.cons (.kint 0) .nil)))))))))))))))))))) (.seq (.ret (.ix (.var 2) (.call 1001 (.cons (.var 0) (.cons (.kint 18) .nil))))) .nil)))
abbrev F_law_odd : Nat := 1237
def c_law_spoilt4 : Cd := (.seq (.ife (.tor (.tcmp .eq (.var 2) (.kint 0)) (.tor (.tnot (.tval (.isi (.var 1) [.ty "tuple"]))) (.tcmp .eq (.var 1) (.tup .nil)))) (.seq (.ife (.tand (.tval (.isi (.var 1) [.ty "int"])) (.tand (.tnot (.tval (.isi (.var 1) [.ty "bool"]))) (.tcmp .eq (.call 1001 (.cons (.var 0) (.cons (.kint 2) .nil))) (.kint 0)))) (.seq (.ret (.bin .add (.var 1) (.ix (.lst (.cons (.kint 1) (.cons (.neg (.kint 1)) (.cons (.kint 10) (.cons (.kint 100) .nil))))) (.call 1001 (.cons (.var 0) (.cons (.kint 4) .nil)))))) .nil) .nil) (.seq (.ife (.tand (.tval (.isi (.var 1) [.ty "bool"])) (.tcmp .eq (.call 1001 (.cons (.var 0) (.cons (.kint 2) .nil))) (.kint 0))) (.seq (.ret (.notv (.var 1))) .nil) .nil) (.seq (.ret (.call 1237 (.cons (.var 0) .nil))) .nil))) .nil) (.seq (.asg (.gn 3) (.call 1001 (.cons (.var 0) (.cons (.bi .len (.cons (.var 1) .nil)) .nil)))) (.seq (.asg (.gn 4) (.call 1001 (.cons (.var 0) (.cons (.kint 9) .nil)))) (.seq (.ife (.tcmp .lt (.var 4) (.kint 5)) (.seq (.ret (.bin .add (.bin .add (.sl (.var 1) .nil (.cons (.var 3) .nil)) (.tup (.cons (.call 1300 (.cons (.var 0) (.cons (.ix (.var 1) (.var 3)) (.cons (.bin .sub (.var 2) (.kint 1)) .nil)))) .nil))) (.sl (.var 1) (.cons (.bin .add (.var 3) (.kint 1)) .nil) .nil))) .nil) .nil) (.seq (.ife (.tcmp .eq (.var 4) (.kint 5)) (.seq (.ret (.bin .add (.sl (.var 1) .nil (.cons (.var 3) .nil)) (.sl (.var 1) (.cons (.bin .add (.var 3) (.kint 1)) .nil) .nil))) .nil) .nil) (.seq (.ife (.tcmp .eq (.var 4) (.kint 6)) (.seq (.ret (.bin .add (.bin .add (.sl (.var 1) .nil (.cons (.var 3) .nil)) (.bin .mul (.sl (.var 1) (.cons (.var 3) .nil) (.cons (.bin .add (.var 3) (.kint 1)) .nil)) (.kint 2))) (.sl (.var 1) (.cons (.bin .add (.var 3) (.kint 1)) .nil) .nil))) .nil) .nil) (.seq (.ife (.tcmp .eq (.var 4) (.kint 7)) (.seq (.ret (.bi .list (.cons (.var 1) .nil))) .nil) .nil) (.seq (.ret (.bin .add (.bin .add (.sl (.var 1) .nil (.cons (.var 3) .nil)) (.tup (.cons (.call 1237 (.cons (.var 0) .nil)) .nil))) (.sl (.var 1) (.cons (.var 3) .nil) .nil))) .nil))))))))
abbrev F_law_spoilt4 : Nat := 1300
def c_law43_1 : Cd := (.seq (.ife (.tnot (.tval (.call 1047 (.cons (.call 72 (.cons (.var 7) .nil)) (.cons (.call 1233 (.cons (.var 7) .nil)) .nil))))) (.seq (.ret (.kbl false)) .nil) .nil) .nil)
def c_law43_2 : Cd := (.seq (.ife (.tnot (.tval (.call 1047 (.cons (.call 75 (.cons (.var 3) (.cons (.var 7) .nil))) (.cons (.call 1046 (.cons (.var 3) (.cons (.var 7) .nil))) .nil))))) (.seq (.ret (.kbl false)) .nil) .nil) .nil)
def c_law43_3 : Cd := (.seq (.asg (.gn 2) (.call 1000 (.cons (.bin .addF (.lst (.cons (.kint 0) .nil)) (.var 0)) (.cons (.var 1) .nil)))) (.seq (.asg (.gn 3) (.call 1043 (.cons (.var 2) .nil))) (.seq (.asg (.gn 4) (.call 1043 (.cons (.var 2) .nil))) (.seq (.asg (.gn 5) (.call 1044 (.cons (.var 2) (.cons (.var 3) .nil)))) (.seq (.asg (.gn 6) (.lst (.cons (.var 3) (.cons (.var 4) (.cons (.call 1300 (.cons (.var 2) (.cons (.var 3) (.cons (.kint 2) .nil)))) (.cons (.call 1300 (.cons (.var 2) (.cons (.var 3) (.cons (.kint 1) .nil)))) (.cons (.call 1237 (.cons (.var 2) .nil)) (.cons (.sl (.var 3) .nil (.cons (.kint 1) .nil)) .nil)))))))) (.seq (.forr (.gn 7) (.iseq (.bin .add (.var 6) (.lst (.cons (.bi .list (.cons (.var 3) .nil)) .nil)))) c_law43_1) (.seq (.asg (.gn 6) (.lst (.cons (.var 5) (.cons (.call 1044 (.cons (.var 2) (.cons (.var 4) .nil))) (.cons (.call 1237 (.cons (.var 2) .nil)) .nil))))) (.seq (.asg (.gn 6) (.bin .add (.var 6) (.lst (.cons (.call 1300 (.cons (.var 2) (.cons (.var 5) (.cons (.kint 2) .nil)))) (.cons (.call 1300 (.cons (.var 2) (.cons (.var 5) (.cons (.kint 2) .nil)))) .nil))))) (.seq (.forr (.gn 7) (.iseq (.bin .add (.var 6) (.lst (.cons (.tup .nil) (.cons (.tup (.cons .knon (.cons .knon (.cons (.kint 0) .nil)))) (.cons (.tup (.cons (.kint 0) (.cons (.kint 0) (.cons (.kint 0) (.cons (.kint 0) .nil))))) (.cons (.bi .list (.cons (.var 5) .nil)) .nil))))))) c_law43_2) (.seq (.ife (.tor (.tcmp .ne (.bi .repr (.cons (.call 78 (.cons (.var 3) .nil)) .nil)) (.bi .repr (.cons (.bi .tuple (.cons (.call 1232 (.cons (.var 3) .nil)) .nil)) .nil))) (.tnot (.tval (.call 75 (.cons (.var 3) (.cons (.call 78 (.cons (.var 3) .nil)) .nil)))))) (.seq (.ret (.kbl false)) .nil) .nil) .nil))))))))))
def c_law43 : Cd := (.seq (.forr (.gn 1) (.irange1 (.bin .add (.bi .len (.cons (.sl (.var 0) .nil (.cons (.kint 30) .nil)) .nil)) (.kint 1))) c_law43_3) (.seq (.ret (.andv (.call 72 (.cons (.tup (.cons (.kstr "none") .nil)) .nil)) (.cmp .eq (.call 78 (.cons (.tup (.cons (.kstr "none") .nil)) .nil)) (.tup .nil)))) .nil))
abbrev F_law43 : Nat := 1407
def lib (n : Nat) : Option Fn := if n < 1000 then (if n < 57 then (if n < 50 then (if n < 15 then (if n = 0 then some ⟨1, 1, c_comers_is_whole⟩ else if n = 1 then some ⟨3, 3, c_comers_is_within⟩ else none) else (if n = 15 then some ⟨3, 3, c_rules_is_between⟩ else if n = 49 then some ⟨1, 4, c_late_is_late⟩ else none)) else (if n < 53 then (if n = 50 then some ⟨1, 1, c_late_need_late⟩ else if n = 51 then some ⟨2, 6, c_late_is_late_memory⟩ else none) else (if n = 53 then some ⟨1, 1, c_late_late_first⟩ else if n = 56 then some ⟨1, 6, c_share_is_share⟩ else none))) else (if n < 72 then (if n < 65 then (if n = 57 then some ⟨1, 1, c_share_need_share⟩ else if n = 58 then some ⟨1, 1, c_share_share_first⟩ else none) else (if n = 65 then some ⟨2, 5, c_share_is_share_memory⟩ else if n = 71 then some ⟨1, 1, c_rules_is_none⟩ else none)) else (if n < 74 then (if n = 72 then some ⟨1, 1, c_rules_is_rule⟩ else if n = 73 then some ⟨1, 1, c_rules_need_rule⟩ else none) else (if n = 74 then some ⟨2, 2, c_rules_is_memory_of⟩ else if n = 75 then some ⟨2, 2, c_rules_is_memory⟩ else if n = 78 then some ⟨1, 1, c_rules_first_memory⟩ else none)))) else (if n < 1047 then (if n < 1025 then (if n < 1007 then (if n = 1000 then some ⟨2, 4, c_law_pot⟩ else if n = 1001 then some ⟨2, 5, c_law_take⟩ else none) else (if n = 1007 then some ⟨1, 7, c_law⟩ else if n = 1024 then some ⟨1, 3, c_law_late_rule⟩ else none)) else (if n < 1044 then (if n = 1025 then some ⟨1, 5, c_law_share_rule⟩ else if n = 1043 then some ⟨1, 2, c_law_rule⟩ else none) else (if n = 1044 then some ⟨2, 7, c_law_memory⟩ else if n = 1045 then some ⟨3, 3, c_law_number⟩ else if n = 1046 then some ⟨2, 4, c_law_is_memory⟩ else none))) else (if n < 1232 then (if n < 1146 then (if n = 1047 then some ⟨2, 2, c_law_right⟩ else if n = 1101 then some ⟨1, 2, c_law_is_rule⟩ else none) else (if n = 1146 then some ⟨3, 11, c_law_spoilt⟩ else if n = 1209 then some ⟨1, 4, c_law4⟩ else none)) else (if n < 1237 then (if n = 1232 then some ⟨1, 1, c_law_first⟩ else if n = 1233 then some ⟨1, 5, c_law_is_rule3⟩ else none) else (if n = 1237 then some ⟨1, 3, c_law_odd⟩ else if n = 1300 then some ⟨3, 5, c_law_spoilt4⟩ else if n = 1407 then some ⟨1, 8, c_law43⟩ else none))))
def kwd (n : Nat) : List (Str × Dt) := []
end Wm

namespace Wm
open PySem PySem.Spec PyProof.Rows L2
local macro_rules | `(tactic| walk_at "wm") => `(tactic| try simp only [sem, env0, kwF, w_add, w_addT, w_sub, w_mul, w_mulT, w_mulL, w_addL, w_addF, w_fdiv, w_mod, w_pow, w_bor, w_shl, w_shr, w_aadd, w_aaddT, w_asub, w_abor, w_ashl, w_ashr, w_lt, w_le, w_gt, w_ge, w_is, w_isnot, w_eqI, w_neI, w_eqB, w_neB, w_eqS, w_neS, w_inT, w_ixT, w_ixL, w_at0, w_at1, w_at2, w_at3, w_at4, w_at5, w_at6, w_truB, w_truI, w_truT, w_len, w_abs, w_min, w_max, w_max3, w_sum, w_all, w_any, w_intI, w_intB, w_tuple, w_list, w_divmod, w_seqT, w_seqL, w_append, w_extend, w_extendT, w_popAt, w_index, w_store, w_slT, w_slL, isNonD, List.map_cons, List.map_nil, List.length_cons, List.length_nil, List.replicate, List.cons_append, List.nil_append, List.append_nil, List.getElem?_cons_zero, List.getElem?_cons_succ, List.set_cons_zero, List.set_cons_succ, Option.some.injEq, exists_eq_left', exists_eq_left, exists_eq', exists_eq, Nat.zero_add, Nat.reduceAdd, Nat.reduceSub, Dt.bl.injEq, Dt.int.injEq, Dt.tup.injEq, Dt.ref.injEq, if_true, if_false, Bool.false_eq_true, Bool.not_true, Bool.not_false, true_and, and_true, lenA, w_wR, w_wT, List.take_succ_cons, List.take_zero, List.drop_succ_cons, List.drop_zero, w_ex2, and_self, exists_const, reduceCtorEq, decide_eq_true_eq, wipeD])
local macro_rules | `(tactic| walk_at "wh") => `(tactic| try simp only [sem, env0, kwF, w_add, w_addT, w_sub, w_mul, w_mulT, w_mulL, w_addL, w_addF, w_fdiv, w_mod, w_pow, w_bor, w_shl, w_shr, w_aadd, w_aaddT, w_asub, w_abor, w_ashl, w_ashr, w_lt, w_le, w_gt, w_ge, w_is, w_isnot, w_eqI, w_neI, w_eqB, w_neB, w_eqS, w_neS, w_inT, w_ixT, u_ixL, w_at0, w_at1, w_at2, w_at3, w_truB, w_truI, w_truT, w_len, w_abs, w_min, w_max, w_max3, w_sum, w_all, w_any, w_intI, w_intB, w_tuple, w_list, w_divmod, w_seqT, w_seqL, w_append, w_extend, w_extendT, w_popAt, w_index, u_store, u_ixD, u_storeD, w_slT, w_slL, isNonD, List.map_cons, List.map_nil, List.length_cons, List.length_nil, List.replicate, List.cons_append, List.nil_append, List.append_nil, List.getElem?_cons_zero, List.getElem?_cons_succ, List.set_cons_zero, List.set_cons_succ, Option.some.injEq, exists_eq_left', exists_eq_left, exists_eq', exists_eq, Nat.zero_add, Nat.reduceAdd, Nat.reduceSub, Dt.bl.injEq, Dt.int.injEq, Dt.tup.injEq, Dt.ref.injEq, if_true, if_false, Bool.false_eq_true, Bool.not_true, Bool.not_false, true_and, and_true, lenA, w_wR, w_wT, List.take_succ_cons, List.take_zero, List.drop_succ_cons, List.drop_zero, w_ex2, and_self, exists_const, reduceCtorEq, decide_eq_true_eq, wipeD, u_self, u_selfG, List.set_set, List.length_set, u_ix10, u_ix20, u_ix21, u_ix30, u_ix31, u_ix32, u_ix40, u_ix41, u_ix42, u_ix43, w_at4, w_at5, w_at6, w_truN, u_sz0, u_sz1, u_sz2, u_sz3, u_sz4, u_sz5, u_sz6, u_sz7, u_sz8, Ob.lst.injEq, Ob.dct.injEq, Dt.str.injEq, not_true_eq_false, not_false_eq_true, Bool.or_false, Bool.and_true, decide_true, decide_false, ge_iff_le, gt_iff_lt, *])
local macro_rules | `(tactic| walk_at "ws") => `(tactic| simp only [q_full_full, q_full_drop, q_full_mark, q_full_come, q_full_send, q_full_bell, q_drop_full, q_drop_drop, q_drop_mark, q_drop_come, q_drop_send, q_drop_bell, q_mark_full, q_mark_drop, q_mark_mark, q_mark_come, q_mark_send, q_mark_bell, q_come_full, q_come_drop, q_come_mark, q_come_come, q_come_send, q_come_bell, q_send_full, q_send_drop, q_send_mark, q_send_come, q_send_send, q_send_bell, q_bell_full, q_bell_drop, q_bell_mark, q_bell_come, q_bell_send, q_bell_bell, q_late_late, q_late_share, q_late_none, q_share_late, q_share_share, q_share_none, q_none_late, q_none_share, q_none_none, Bool.not_true, Bool.not_false, Bool.false_eq_true, if_true, if_false])
local macro_rules | `(tactic| walk_at "tk") => `(tactic| (refine take_ok (by assumption) (by omega) (by omega) (by first | omega | (refine Int.lt_of_lt_of_le (b := 2 ^ 40) (by omega) (p2_le (by omega)))) fun _ _ _ _ _ _ => ?_; walk_at "wm"))
local macro_rules | `(tactic| walk_at "pk") => `(tactic| (refine pick (by assumption) (by omega) (by omega) (by simp) (by omega) fun _ _ hd _ _ => ?_; walk_at "wm"))
local macro_rules | `(tactic| walk_at "md") => `(tactic| first | assumption | exact Mod.refl | (refine Mod.trans (by assumption) ?_; walk_at "md"))
local macro_rules | `(tactic| walk_at "pt") => `(tactic| first | assumption | exact Pot.le (by assumption) (by omega))
local macro_rules | `(tactic| walk_at "sz") => `(tactic| (refine ⟨by first | omega | (rw [sizeLine_eq]; omega) | (rw [sizeLine_eq]; simp; omega), ?_⟩))
local macro_rules | `(tactic| walk_at "ex") => `(tactic| ((first | refine ⟨false, (isi_exc (by first | assumption | exact exc_app (by assumption) | exact exc_app (exc_app (by assumption))) _).trans (by decide), ?_⟩ | refine ⟨true, (isi_exc (by first | assumption | exact exc_app (by assumption) | exact exc_app (exc_app (by assumption))) _).trans (by decide), ?_⟩ | refine ⟨u_sz3, ?_⟩ | refine ⟨u_sz2, ?_⟩ | refine ⟨u_sz1, ?_⟩ | refine ⟨u_sz4, ?_⟩ | refine ⟨u_sz5, ?_⟩); walk_at "wm"))
local macro_rules | `(tactic| walk_at "nw") => `(tactic| simp only [new1, new2a, new1L, new2L, Option.some.injEq, Ob.lst.injEq, exists_eq_left', exists_eq_left, exists_eq', exists_eq, List.cons_append, List.nil_append, List.length_cons, List.length_nil, Nat.reduceAdd, Nat.zero_add, true_and])

abbrev C (k : Nat) : CallT := callS lib (kwF kwd) isaF k
def isWhD : Dt → Bool
  | .int _ => true
  | _ => false
def within (d : Dt) (lo hi : Int) : Bool := match d with
  | .int i => decide (lo ≤ i) && decide (i ≤ hi)
  | _ => false
/-- a thing whose type is known -/
abbrev Ty (G : Gh) (d : Dt) : Prop := (tyD G d).isSome = true
theorem ty_exc {G : Gh} {d : Dt} {t : String} (h : tyD G d = some t) : excD G d = none := by
  cases d with
  | ref k =>
    simp only [tyD, excD] at h ⊢
    cases e : G[k]? with
    | none => rfl
    | some o => cases o <;> simp [e] at h ⊢
  | _ => rfl
theorem isi1 {G : Gh} {d : Dt} {t : String} {b : Bool} (h : tyD G d = some t) {n : String} (hk : kitB t n = some b) : isAny G isaF d [.ty n] = some b := by
  simp [isAny, isTy, ty_exc h, h, hk]
theorem ty_cases {G : Gh} {d : Dt} (h : Ty G d) : tyD G d = some "NoneType" ∨ tyD G d = some "bool" ∨ tyD G d = some "int" ∨ tyD G d = some "str" ∨ tyD G d = some "tuple" ∨ tyD G d = some "list" ∨ tyD G d = some "dict" := by
  cases d with
  | ref k =>
    simp only [Ty, tyD] at h ⊢
    cases e : G[k]? with
    | none => rw [e] at h; cases h
    | some o => cases o <;> simp [e] at h ⊢
  | _ => simp [tyD]
/-- which of the types it is -/
def isT (G : Gh) (d : Dt) (n : String) : Bool := match tyD G d with
  | some t => (kitB t n).getD false
  | none => false
theorem isi_T {G : Gh} {d : Dt} (h : Ty G d) {n : String} (hn : ["int", "bool", "str", "tuple", "list", "dict"].contains n = true) : isAny G isaF d [.ty n] = some (isT G d n) := by
  have key : ∀ t ∈ ["NoneType", "bool", "int", "str", "tuple", "list", "dict"], ∀ n ∈ ["int", "bool", "str", "tuple", "list", "dict"], (kitB t n).isSome = true := by decide +kernel
  have hn2 : n ∈ ["int", "bool", "str", "tuple", "list", "dict"] := by simpa using hn
  unfold isT
  have fin : ∀ t ∈ ["NoneType", "bool", "int", "str", "tuple", "list", "dict"], tyD G d = some t → isAny G isaF d [.ty n] = some (match tyD G d with | some t => (kitB t n).getD false | none => false) := fun t ht e => by
    obtain ⟨b, hb⟩ := Option.isSome_iff_exists.mp (key t ht n hn2)
    rw [isi1 e hb, e]
    simp [hb]
  rcases ty_cases h with e | e | e | e | e | e | e <;> exact fin _ (by simp) e
theorem isT_int {G : Gh} {d : Dt} : (isT G d "int" && !isT G d "bool") = isWhD d := by
  have k1 : kitB "int" "int" = some true := by decide +kernel
  have k2 : kitB "int" "bool" = some false := by decide +kernel
  have k3 : kitB "bool" "int" = some true := by decide +kernel
  have k4 : kitB "bool" "bool" = some true := by decide +kernel
  have k5 : kitB "NoneType" "int" = some false := by decide +kernel
  have k6 : kitB "str" "int" = some false := by decide +kernel
  have k7 : kitB "tuple" "int" = some false := by decide +kernel
  have k8 : kitB "list" "int" = some false := by decide +kernel
  have k9 : kitB "dict" "int" = some false := by decide +kernel
  cases d with
  | ref k =>
    simp only [isT, tyD, isWhD]
    cases e : G[k]? with
    | none => rfl
    | some o => cases o <;> simp [k8, k9]
  | _ => simp [isT, tyD, isWhD, k1, k2, k3, k4, k5, k6, k7]
theorem is_whole_ok {k : Nat} {d : Dt} {G : Gh} {Q : QE} {E : XQ} (ht : Ty G d) (h : Q (.bl (isWhD d)) G) : C (k + 1) F_comers_is_whole [d] G Q E := by
  refine ⟨_, rfl, rfl, ?_⟩
  unfold c_comers_is_whole
  walk_at "wm"
  refine ⟨_, isi_T ht rfl, ?_⟩
  rw [← isT_int (G := G)] at h
  cases e : isT G d "int" with
  | false => rw [e] at h; exact h
  | true => rw [e] at h; exact ⟨_, isi_T ht rfl, h⟩
theorem is_within_ok {k : Nat} {d : Dt} {lo hi : Int} {G : Gh} {Q : QE} {E : XQ} (ht : Ty G d) (h : Q (.bl (within d lo hi)) G) : C (k + 2) F_comers_is_within [d, .int lo, .int hi] G Q E := by
  refine ⟨_, rfl, rfl, ?_⟩
  unfold c_comers_is_within
  walk_at "wm"
  refine is_whole_ok ht ⟨_, rfl, ?_⟩
  cases d with
  | int i =>
    unfold isWhD
    walk_at "wm"
    unfold within at h
    by_cases h1 : lo ≤ i
    · rw [if_pos h1]
      simpa [h1] using h
    · rw [if_neg h1]
      simpa [h1] using h
  | _ => exact h
def isTp : Dt → Bool
  | .tup _ => true
  | _ => false
theorem isT_tup {n : Nat} {G : Gh} {d : Dt} (h : flat n d = true) : isT G d "tuple" = isTp d := by
  have k1 : kitB "int" "tuple" = some false := by decide +kernel
  have k3 : kitB "bool" "tuple" = some false := by decide +kernel
  have k5 : kitB "NoneType" "tuple" = some false := by decide +kernel
  have k6 : kitB "str" "tuple" = some false := by decide +kernel
  have k7 : kitB "tuple" "tuple" = some true := by decide +kernel
  cases d with
  | ref k => cases n <;> (unfold flat at h; cases h)
  | _ => simp [isT, tyD, isTp, k1, k3, k5, k6, k7]
def Pot (G : Gh) (p c : Nat) : Prop := ∃ a b t : Int, G[p]? = some (.lst [.int a, .int b, .int t]) ∧ 0 ≤ a ∧ 0 ≤ b ∧ b < 2 ^ 61 ∧ 0 ≤ t ∧ t ≤ c
theorem Pot.le {G : Gh} {p c d : Nat} (h : Pot G p c) (l : c ≤ d) : Pot G p d := by
  obtain ⟨a, b, t, e, h1, h2, h3, h4, h5⟩ := h
  exact ⟨a, b, t, e, h1, h2, h3, h4, by omega⟩
theorem Pot.mv {G G' : Gh} {p c : Nat} {S : List Nat} (h : Pot G p c) (m : Mod S G G') (hp : p ∉ S) : Pot G' p c := by
  obtain ⟨a, b, t, e, h⟩ := h
  exact ⟨a, b, t, m.at e hp, h⟩
theorem Pot.lt {G : Gh} {p c : Nat} (h : Pot G p c) : p < G.length := by
  obtain ⟨a, b, t, e, h⟩ := h
  exact (List.getElem?_eq_some_iff.mp e).1
theorem ix0 {a b c : Dt} {i : Nat} (h : i < 3) : ixN [a, b, c].length (i : Int) = some i := by
  unfold ixN
  simp
  omega
theorem take_ok {k p c : Nat} {m : Int} {G : Gh} {Q : QE} {E : XQ} (h : Pot G p c) (hc : c ≤ 2 ^ 40) (m0 : 0 < m) (m1 : m < 2 ^ 200) (hq : ∀ r G', 0 ≤ r → r < m → Mod [p] G G' → Pot G' p (c + 1) → Q (.int r) G') : C (k + 1) F_law_take [.ref p, .int m] G Q E := by
  obtain ⟨a, b, t, e, a0, b0, b1, t0, t1⟩ := h
  have hp := (List.getElem?_eq_some_iff.mp e).1
  refine ⟨_, rfl, rfl, ?_⟩
  unfold c_law_take
  walk_at "wm"
  have m2 : m < 2 ^ 9000 := Int.lt_of_lt_of_le m1 (p2_le (by omega))
  refine ⟨_, _, w_lst e, w_at0, ?_⟩
  walk_at "wm"
  by_cases ha : 0 < a
  · rw [if_pos ha]
    refine ⟨_, _, w_lst e, w_at0, ?_⟩
    walk_at "wm"
    refine ⟨m0, _, _, w_lst e, w_at0, ?_⟩
    walk_at "wm"
    refine ⟨div_x m0 m2, _, _, e, ix0 (i := 0) (by omega), ?_⟩
    refine hq _ _ (Int.emod_nonneg _ (by omega)) (Int.emod_lt_of_pos _ m0) (Mod.set (by simp)) ⟨_, _, _, List.getElem?_set_self hp, Int.ediv_nonneg a0 (by omega), b0, b1, t0, by omega⟩
  · rw [if_neg ha]
    refine ⟨_, _, w_lst e, w_at2, ?_⟩
    walk_at "wm"
    refine ⟨_, _, e, ix0 (i := 2) (by omega), ?_⟩
    have e1 : (G.set p (.lst ([Dt.int a, .int b, .int t].set 2 (.int (t + 1)))))[p]? = some (.lst [.int a, .int b, .int (t + 1)]) := List.getElem?_set_self hp
    have hM : Mod [p] G (G.set p (.lst ([Dt.int a, .int b, .int t].set 2 (.int (t + 1))))) := Mod.set (by simp)
    generalize G.set p (.lst ([Dt.int a, .int b, .int t].set 2 (.int (t + 1)))) = G1 at e1 hM ⊢
    refine ⟨_, _, w_lst e1, w_at1, _, _, w_lst e1, w_at2, ?_⟩
    walk_at "wm"
    refine ⟨mul_l (by omega) (by omega), ?_⟩
    refine ⟨pow_x 100 (by omega) (by omega) (by omega) (by omega), by omega, ?_⟩
    have x0 := Int.emod_nonneg ((b + 104729 * (t + 1)) ^ (3 : Int).toNat) (show (2305843009213693921 : Int) ≠ 0 by omega)
    have x1 := Int.emod_lt_of_pos ((b + 104729 * (t + 1)) ^ (3 : Int).toNat) (show (0 : Int) < 2305843009213693921 by omega)
    generalize (b + 104729 * (t + 1)) ^ (3 : Int).toNat % 2305843009213693921 = x at x0 x1 ⊢
    refine ⟨_, _, w_lst e1, w_at1, ?_⟩
    walk_at "wm"
    refine ⟨by omega, _, _, w_lst e1, w_at2, ?_⟩
    walk_at "wm"
    have y0 := Int.emod_nonneg b (show (65537 : Int) ≠ 0 by omega)
    have y1 := Int.emod_lt_of_pos b (show (0 : Int) < 65537 by omega)
    refine ⟨mul_l (by omega) (by omega), pow_x 100 (by omega) (by omega) (by omega) (by omega), by omega, ?_⟩
    have z0 := Int.emod_nonneg ((x + b % 65537 + 31 * (t + 1)) ^ (5 : Int).toNat) (show (2305843009213693907 : Int) ≠ 0 by omega)
    generalize (x + b % 65537 + 31 * (t + 1)) ^ (5 : Int).toNat % 2305843009213693907 = z at z0 ⊢
    refine ⟨div_x (by omega) (Int.lt_of_lt_of_le (show (1024 : Int) < 2 ^ 20 by decide) (p2_le (by omega))), m0, ?_⟩
    exact hq _ _ (Int.emod_nonneg _ (by omega)) (Int.emod_lt_of_pos _ m0) hM ⟨_, _, _, e1, a0, b0, b1, by omega, by omega⟩

theorem big60 : (10 : Int) ^ (60 : Int).toNat < 2 ^ 200 := by decide
theorem pot_ok {k sn : Nat} {i : Nat} {ns : List Int} {G : Gh} {Q : QE} {E : XQ} (hs : lstAt G sn = some (ns.map Dt.int)) (hi : i ≤ 100) (hq : ∀ G', Mod [] G G' → Pot G' G.length 0 → Q (.ref G.length) G') : C (k + 1) F_law_pot [.ref sn, .int i] G Q E := by
  refine ⟨_, rfl, rfl, ?_⟩
  unfold c_law_pot
  walk_at "wm"
  have rest : ∀ c : Int, 0 ≤ c → (sem (C k) (kwF kwd) isaF (.seq (.asg (.gn 3) (.bin .mod (.bin .pow (.bin .add (.bin .add (.bin .mod (.var 2) (.kint 2147483629)) (.bin .mul (.kint 7919) (.var 1))) (.kint 1)) (.kint 5)) (.kint 2305843009213693951))) (.seq (.ret (.lst (.cons (.bin .mul (.var 2) (.bi .int (.cons (.cmp .ge (.var 2) (.bin .pow (.kint 10) (.kint 18))) .nil))) (.cons (.var 3) (.cons (.kint 0) .nil))))) .nil))).s [some (.ref sn), some (.int i), some (.int c), none] G { nx := fun _ G' => Q .non G', rt := Q, xc := fun x _ G' => E x G' } := fun c c0 => by
    walk_at "wm"
    have y0 := Int.emod_nonneg c (show (2147483629 : Int) ≠ 0 by omega)
    have y1 := Int.emod_lt_of_pos c (show (0 : Int) < 2147483629 by omega)
    have hp10 : PowOk 10 18 := pow_x 4 (by omega) (by omega) (by omega) (by omega)
    refine ⟨by omega, mul_l (by omega) (by omega), pow_x 100 (by omega) (by omega) (by omega) (by omega), by omega, ?_⟩
    have z0 := Int.emod_nonneg ((c % 2147483629 + 7919 * (i : Int) + 1) ^ (5 : Int).toNat) (show (2305843009213693951 : Int) ≠ 0 by omega)
    have z1 := Int.emod_lt_of_pos ((c % 2147483629 + 7919 * (i : Int) + 1) ^ (5 : Int).toNat) (show (0 : Int) < 2305843009213693951 by omega)
    refine ⟨hp10, ?_⟩
    have vb : ∀ (b : Prop) [Decidable b], (0 : Int) ≤ (if b then 1 else 0) ∧ (if b then (1 : Int) else 0) ≤ 1 := fun b _ => by split <;> omega
    refine ⟨mul_r (vb _).1 (Int.lt_of_le_of_lt (vb _).2 (by omega)), by rw [sizeLine_eq]; omega, hq _ Mod.app ⟨_, _, _, at_len, Int.mul_nonneg c0 (vb _).1, z0, by omega, by omega, by omega⟩⟩
  refine ⟨_, hs, ?_⟩
  by_cases hl : i < ns.length
  · rw [if_pos (by rw [List.length_map]; omega)]
    refine ⟨_, _, hs, at_nat (k := i) (d := .int ns[i]) (by rw [List.getElem?_map, List.getElem?_eq_getElem hl]; rfl), ?_⟩
    walk_at "wm"
    have hm : (0 : Int) < (10 ^ (60 : Int).toNat) ^ (14 : Int).toNat := Int.pow_pos (Int.pow_pos (by omega))
    refine ⟨pow_x 4 (by omega) (by omega) (by omega) (by omega), pow_x 200 (by decide) big60 (by omega) (by omega), hm, ?_⟩
    have := rest _ (Int.emod_nonneg (if ns[i] < 0 then -ns[i] else ns[i]) (show (10 ^ (60 : Int).toNat : Int) ^ (14 : Int).toNat ≠ 0 by omega))
    revert this
    walk_at "wm"
    exact fun z => z
  · rw [if_neg (by rw [List.length_map]; omega)]
    have := rest 0 (by omega)
    revert this
    walk_at "wm"
    exact fun z => z
theorem pick {k p c : Nat} {n : Int} {L : List Dt} {G : Gh} {Q : QE} {E : XQ} (h : Pot G p c) (hc : c ≤ 2 ^ 40) (n0 : 0 < n) (n1 : n ≤ L.length) (n2 : n < 2 ^ 200) (hq : ∀ d G', d ∈ L → Mod [p] G G' → Pot G' p (c + 1) → Q d G') :
    C (k + 1) F_law_take [.ref p, .int n] (G ++ [.lst L]) (fun y G2 => ixD (.ref G.length) y G2 Q) E := by
  have l := h.lt
  refine take_ok (h.mv (S := []) Mod.app (by simp)) hc n0 n2 fun r G1 a b m1 p1 => ?_
  have e1 := m1.at (n := G.length) (o := .lst L) at_len (by simp; omega)
  obtain ⟨d, hd, ed⟩ := at_in (xs := L) (i := r) a (by omega)
  exact ⟨L, d, w_lst e1, ed, hq d G1 hd ((Mod.app (S := [p])).trans m1) p1⟩
theorem pickdiv {k p c : Nat} {n m : Int} {L : List Dt} {G : Gh} {Q : QE} {E : XQ} (h : Pot G p c) (hc : c ≤ 2 ^ 40) (n0 : 0 < n) (n2 : n < 2 ^ 200) (m0 : 0 < m) (m1 : m < 2 ^ 20) (n1 : (n - 1) / m < L.length) (hq : ∀ d G', d ∈ L → Mod [p] G G' → Pot G' p (c + 1) → Q d G') :
    C (k + 1) F_law_take [.ref p, .int n] (G ++ [.lst L]) (fun y G2 => op2D .fdiv y (.int m) G2 fun z G3 => ixD (.ref G.length) z G3 Q) E := by
  have l := h.lt
  refine take_ok (h.mv (S := []) Mod.app (by simp)) hc n0 n2 fun r G1 a b m1' p1 => ?_
  have e1 := m1'.at (n := G.length) (o := .lst L) at_len (by simp; omega)
  have r0 : 0 ≤ r / m := Int.ediv_nonneg a (by omega)
  have r1 : r / m ≤ (n - 1) / m := Int.ediv_le_ediv m0 (by omega)
  obtain ⟨d, hd, ed⟩ := at_in (xs := L) (i := r / m) r0 (by omega)
  exact ⟨div_x m0 (Int.lt_of_lt_of_le m1 (p2_le (by omega))), L, d, w_lst e1, ed, hq d G1 hd ((Mod.app (S := [p])).trans m1') p1⟩
theorem forC {k : Nat} (g : Cd) {b : Cd} {w : List (Nat × List Dt)} {K : Kn} (I : List Dt → En → Gh → Prop)
    (hs : ∀ x xs env G, I (x :: xs) env G → Stands w G ∧ (sem (C k) (kwF kwd) isaF g).g x env G (fun env1 G1 => (sem (C k) (kwF kwd) isaF b).s env1 G1 { nx := I xs, ct := I xs, bk := K.nx, rt := K.rt, xc := K.xc }) fun _ _ => False)
    (hd : ∀ env G, I [] env G → Stands w G ∧ K.nx env G) (items : List Dt) (env : En) (G : Gh) (h : I items env G) : forD (sem (C k) (kwF kwd) isaF g).g (sem (C k) (kwF kwd) isaF b).s w items env G K := for_by (callS_mono k) I hs hd items env G h
theorem seqC {k : Nat} {a b : Cd} {env : En} {G : Gh} {K : Kn} (h : ∀ B : Sm, B = sem (C k) (kwF kwd) isaF b → (sem (C k) (kwF kwd) isaF a).s env G { K with nx := fun e G1 => B.s e G1 K }) : (sem (C k) (kwF kwd) isaF (.seq a b)).s env G K := h _ rfl
theorem bodyC {k : Nat} {b : Cd} {env : En} {G : Gh} {K : Kn} (P : En → Gh → Prop) (hP : ∀ e G', P e G' → K.nx e G') (h : ∀ KK : Kn, KK.nx = P → KK.rt = K.rt → (sem (C k) (kwF kwd) isaF b).s env G KK) : (sem (C k) (kwF kwd) isaF b).s env G K :=
  (sem_mono (callS_mono k) b).s (K := { K with nx := P }) hP (fun _ _ z => z) (fun _ _ z => z) (fun _ _ z => z) (fun _ _ _ z => z) (h _ rfl rfl)

local macro_rules | `(tactic| walk_at "wm") => `(tactic| try simp only [sem, env0, kwF, w_add, w_addT, w_sub, w_mul, w_mulT, w_mulL, w_addL, w_addF, w_fdiv, w_mod, w_pow, w_bor, w_shl, w_shr, w_aadd, w_aaddT, w_asub, w_abor, w_ashl, w_ashr, w_lt, w_le, w_gt, w_ge, w_is, w_isnot, w_eqI, w_neI, w_eqB, w_neB, w_eqS, w_neS, w_inT, w_ixT, w_ixL, w_at0, w_at1, w_at2, w_at3, w_at4, w_at5, w_at6, w_truB, w_truI, w_truT, w_len, w_abs, w_min, w_max, w_max3, w_sum, w_all, w_any, w_intI, w_intB, w_tuple, w_list, w_divmod, w_seqT, w_seqL, w_append, w_extend, w_extendT, w_popAt, w_index, w_store, w_slT, w_slL, isNonD, List.map_cons, List.map_nil, List.length_cons, List.length_nil, List.replicate, List.cons_append, List.nil_append, List.append_nil, List.getElem?_cons_zero, List.getElem?_cons_succ, List.set_cons_zero, List.set_cons_succ, Option.some.injEq, exists_eq_left', exists_eq_left, exists_eq', exists_eq, Nat.zero_add, Nat.reduceAdd, Nat.reduceSub, Dt.bl.injEq, Dt.int.injEq, Dt.tup.injEq, Dt.ref.injEq, if_true, if_false, Bool.false_eq_true, Bool.not_true, Bool.not_false, true_and, and_true, lenA, w_wR, w_wT, List.take_succ_cons, List.take_zero, List.drop_succ_cons, List.drop_zero, w_ex2, and_self, exists_const, reduceCtorEq, decide_eq_true_eq, wipeD])
local macro_rules | `(tactic| walk_at "wh") => `(tactic| try simp only [sem, env0, kwF, w_add, w_addT, w_sub, w_mul, w_mulT, w_mulL, w_addL, w_addF, w_fdiv, w_mod, w_pow, w_bor, w_shl, w_shr, w_aadd, w_aaddT, w_asub, w_abor, w_ashl, w_ashr, w_lt, w_le, w_gt, w_ge, w_is, w_isnot, w_eqI, w_neI, w_eqB, w_neB, w_eqS, w_neS, w_inT, w_ixT, u_ixL, w_at0, w_at1, w_at2, w_at3, w_truB, w_truI, w_truT, w_len, w_abs, w_min, w_max, w_max3, w_sum, w_all, w_any, w_intI, w_intB, w_tuple, w_list, w_divmod, w_seqT, w_seqL, w_append, w_extend, w_extendT, w_popAt, w_index, u_store, u_ixD, u_storeD, w_slT, w_slL, isNonD, List.map_cons, List.map_nil, List.length_cons, List.length_nil, List.replicate, List.cons_append, List.nil_append, List.append_nil, List.getElem?_cons_zero, List.getElem?_cons_succ, List.set_cons_zero, List.set_cons_succ, Option.some.injEq, exists_eq_left', exists_eq_left, exists_eq', exists_eq, Nat.zero_add, Nat.reduceAdd, Nat.reduceSub, Dt.bl.injEq, Dt.int.injEq, Dt.tup.injEq, Dt.ref.injEq, if_true, if_false, Bool.false_eq_true, Bool.not_true, Bool.not_false, true_and, and_true, lenA, w_wR, w_wT, List.take_succ_cons, List.take_zero, List.drop_succ_cons, List.drop_zero, w_ex2, and_self, exists_const, reduceCtorEq, decide_eq_true_eq, wipeD, u_self, u_selfG, List.set_set, List.length_set, u_ix10, u_ix20, u_ix21, u_ix30, u_ix31, u_ix32, u_ix40, u_ix41, u_ix42, u_ix43, w_at4, w_at5, w_at6, w_truN, u_sz0, u_sz1, u_sz2, u_sz3, u_sz4, u_sz5, u_sz6, u_sz7, u_sz8, Ob.lst.injEq, Ob.dct.injEq, Dt.str.injEq, not_true_eq_false, not_false_eq_true, Bool.or_false, Bool.and_true, decide_true, decide_false, ge_iff_le, gt_iff_lt, *])
local macro_rules | `(tactic| walk_at "ws") => `(tactic| simp only [q_full_full, q_full_drop, q_full_mark, q_full_come, q_full_send, q_full_bell, q_drop_full, q_drop_drop, q_drop_mark, q_drop_come, q_drop_send, q_drop_bell, q_mark_full, q_mark_drop, q_mark_mark, q_mark_come, q_mark_send, q_mark_bell, q_come_full, q_come_drop, q_come_mark, q_come_come, q_come_send, q_come_bell, q_send_full, q_send_drop, q_send_mark, q_send_come, q_send_send, q_send_bell, q_bell_full, q_bell_drop, q_bell_mark, q_bell_come, q_bell_send, q_bell_bell, q_late_late, q_late_share, q_late_none, q_share_late, q_share_share, q_share_none, q_none_late, q_none_share, q_none_none, Bool.not_true, Bool.not_false, Bool.false_eq_true, if_true, if_false])
local macro_rules | `(tactic| walk_at "tk") => `(tactic| (refine take_ok (by assumption) (by omega) (by omega) (by first | omega | (refine Int.lt_of_lt_of_le (b := 2 ^ 40) (by omega) (p2_le (by omega)))) fun _ _ _ _ _ _ => ?_; walk_at "wm"))
local macro_rules | `(tactic| walk_at "pk") => `(tactic| (refine pick (by assumption) (by omega) (by omega) (by simp) (by omega) fun _ _ hd _ _ => ?_; walk_at "wm"))
local macro_rules | `(tactic| walk_at "md") => `(tactic| first | assumption | exact Mod.refl | (refine Mod.trans (by assumption) ?_; walk_at "md"))
local macro_rules | `(tactic| walk_at "pt") => `(tactic| first | assumption | exact Pot.le (by assumption) (by omega))
local macro_rules | `(tactic| walk_at "sz") => `(tactic| (refine ⟨by first | omega | (rw [sizeLine_eq]; omega) | (rw [sizeLine_eq]; simp; omega), ?_⟩))
local macro_rules | `(tactic| walk_at "ex") => `(tactic| ((first | refine ⟨false, (isi_exc (by first | assumption | exact exc_app (by assumption) | exact exc_app (exc_app (by assumption))) _).trans (by decide), ?_⟩ | refine ⟨true, (isi_exc (by first | assumption | exact exc_app (by assumption) | exact exc_app (exc_app (by assumption))) _).trans (by decide), ?_⟩ | refine ⟨u_sz3, ?_⟩ | refine ⟨u_sz2, ?_⟩ | refine ⟨u_sz1, ?_⟩ | refine ⟨u_sz4, ?_⟩ | refine ⟨u_sz5, ?_⟩); walk_at "wm"))
local macro_rules | `(tactic| walk_at "nw") => `(tactic| simp only [new1, new2a, new1L, new2L, Option.some.injEq, Ob.lst.injEq, exists_eq_left', exists_eq_left, exists_eq', exists_eq, List.cons_append, List.nil_append, List.length_cons, List.length_nil, Nat.reduceAdd, Nat.zero_add, true_and])

def lateR (m s : Int) : Dt := .tup [.str "late", .int m, .int s]
def optD : Option Int → Dt
  | none => .non
  | some i => .int i
def memD (age left : Option Int) (count : Int) : Dt := .tup [optD age, optD left, .int count]
structure OkR (m s : Int) : Prop where
  m0 : 1 ≤ m
  m1 : m ≤ 99
  s0 : 1 ≤ s
  s1 : s ≤ 99
structure OkM (s : Int) (age left : Option Int) (count : Int) : Prop where
  c0 : 0 ≤ count
  c1 : count ≤ s * s
  a : ∀ i, age = some i → 0 ≤ i ∧ i ≤ s
  l : ∀ i, left = some i → age = some s ∧ 0 ≤ i ∧ i ≤ s
theorem late_late : (("late" : Str) == ("late" : Str)) = true := by decide
theorem isT_str {G : Gh} {x : Str} : isAny G isaF (.str x) [.ty "str"] = some true := by
  have k6 : kitB "str" "str" = some true := by decide +kernel
  exact isi1 (t := "str") rfl k6
theorem is_late_ok {k : Nat} {m s : Int} {G : Gh} {Q : QE} {E : XQ} (r : OkR m s) (h : ∀ G', Mod [] G G' → Q (.bl true) G') : C (k + 3) F_late_is_late [lateR m s] G Q E := by
  refine ⟨_, rfl, rfl, ?_⟩
  unfold c_late_is_late lateR
  walk_at "wm"
  refine ⟨_, isi_T (d := .tup _) rfl rfl, ?_⟩
  rw [isT_tup (n := 1) rfl]
  unfold isTp
  walk_at "wm"
  rw [if_neg (by decide)]
  refine ⟨by omega, _, rfl, true, isT_str, ?_⟩
  walk_at "wm"
  rw [late_late]
  walk_at "wm"
  have m1 : Mod [] G (G ++ [.lst [.int m, .int s]]) := Mod.app
  have e1 : (G ++ [.lst [Dt.int m, .int s]])[G.length]? = some (.lst [.int m, .int s]) := at_len
  generalize G ++ [.lst [Dt.int m, .int s]] = G1 at m1 e1 ⊢
  refine ⟨_, w_lst e1, ?_⟩
  refine comp_map (f := fun _ => .bl true) (G0 := G1) (Nat.le_refl _) (fun G' m' => stands_one (m'.lst (w_lst e1) (by simp))) [.int m, .int s] [] _ (by rw [sizeLine_eq]; simp) Mod.app at_len (fun x hx G' Q' m' hq => ?_) fun G2 m2 e2 => ?_
  · unfold c_late_is_late_1
    walk_at "wm"
    have w1 : ∀ i : Int, 1 ≤ i → i ≤ 99 → within (.int i) 1 99 = true := fun i a b => by simp [within, a, b]
    simp at hx
    rcases hx with rfl | rfl
    · exact is_within_ok rfl (by rw [w1 _ r.m0 r.m1]; exact hq _ Mod.refl)
    · exact is_within_ok rfl (by rw [w1 _ r.s0 r.s1]; exact hq _ Mod.refl)
  · exact ⟨_, [true, true], w_lst e2, rfl, h G2 (m1.trans m2)⟩
theorem need_late_ok {k : Nat} {m s : Int} {G : Gh} {Q : QE} {E : XQ} (r : OkR m s) (h : ∀ G', Mod [] G G' → Q .non G') : C (k + 4) F_late_need_late [lateR m s] G Q E := by
  refine ⟨_, rfl, rfl, ?_⟩
  unfold c_late_need_late
  walk_at "wm"
  exact is_late_ok r fun G' m' => ⟨true, rfl, h G' m'⟩
theorem is_late_memory_ok {k : Nat} {m s c : Int} {age left : Option Int} {G : Gh} {Q : QE} {E : XQ} (r : OkR m s) (o : OkM s age left c) (h : ∀ G', Mod [] G G' → Q (.bl true) G') : C (k + 5) F_late_is_late_memory [lateR m s, memD age left c] G Q E := by
  refine ⟨_, rfl, rfl, ?_⟩
  unfold c_late_is_late_memory
  walk_at "wm"
  refine need_late_ok r fun G1 m1 => ?_
  unfold memD lateR
  walk_at "wm"
  refine ⟨_, isi_T (d := .tup _) rfl rfl, ?_⟩
  rw [isT_tup (n := 1) (by cases age <;> cases left <;> rfl)]
  unfold isTp
  walk_at "wm"
  rw [if_neg (by decide)]
  have ss : s * s ≤ 99 * 99 := Int.mul_le_mul r.s1 r.s1 (by have := r.s0; omega) (by omega)
  have w1 : within (.int c) 0 (s * s) = true := by simp [within, o.c0, o.c1]
  refine ⟨by rw [sizeLine_eq]; omega, ?_⟩
  refine ⟨mul_l (by have := r.s0; omega) (by have := r.s1; omega), is_within_ok rfl ?_⟩
  rw [w1]
  refine ⟨true, rfl, ?_⟩
  have wi : ∀ i : Int, 0 ≤ i → i ≤ s → within (.int i) 0 s = true := fun i a b => by simp [within, a, b]
  rw [if_neg (by decide)]
  cases age with
  | none =>
    cases left with
    | none => exact h G1 m1
    | some l => exact absurd (o.l l rfl).1 (by simp)
  | some a =>
    obtain ⟨a0, a1⟩ := o.a a rfl
    cases left with
    | none =>
      unfold optD
      walk_at "wm"
      refine is_within_ok rfl ?_
      rw [wi a a0 a1]
      exact ⟨true, rfl, h G1 m1⟩
    | some l =>
      obtain ⟨ea, l0, l1⟩ := o.l l rfl
      cases ea
      unfold optD
      walk_at "wm"
      refine is_within_ok rfl ?_
      rw [wi s a0 a1]
      refine ⟨true, rfl, ?_⟩
      rw [if_neg (by decide), if_pos (by simp)]
      refine is_within_ok rfl ?_
      rw [wi l l0 l1]
      exact h G1 m1
theorem late_first_ok {k : Nat} {m s : Int} {G : Gh} {Q : QE} {E : XQ} (r : OkR m s) (h : ∀ G', Mod [] G G' → Q (memD none none 0) G') : C (k + 5) F_late_late_first [lateR m s] G Q E := by
  refine ⟨_, rfl, rfl, ?_⟩
  unfold c_late_late_first
  walk_at "wm"
  exact need_late_ok r fun G' m' => ⟨by rw [sizeLine_eq]; omega, h G' m'⟩
theorem late_share : (("late" : Str) == ("share" : Str)) = false := by decide
theorem law_late_rule_ok {k p c : Nat} {G : Gh} {Q : QE} {E : XQ} (h : Pot G p c) (hc : c ≤ 2 ^ 39) (hq : ∀ m s G', OkR m s → Mod [p] G G' → Pot G' p (c + 7) → Q (lateR m s) G') : C (k + 2) F_law_late_rule [.ref p] G Q E := by
  have hp := h.lt
  refine ⟨_, rfl, rfl, ?_⟩
  unfold c_law_late_rule
  walk_at "wm"
  refine take_ok h (by omega) (by omega) (by decide) fun r1 G1 a1 b1 m1 p1 => ?_
  walk_at "wm"
  refine take_ok p1 (by omega) (by omega) (by decide) fun r2 G2 a2 b2 m2 p2 => ?_
  walk_at "wm"
  refine ⟨u_sz3, ?_⟩
  have m3 : Mod [p] G (G2 ++ [.lst [.int (1 + r1), .int (1 + r2), .int 99]]) := (m1.trans m2).trans Mod.app
  have e3 : (G2 ++ [.lst [.int (1 + r1), .int (1 + r2), .int 99]])[G2.length]? = some (.lst [.int (1 + r1), .int (1 + r2), .int 99]) := at_len
  have p3 : Pot (G2 ++ [.lst [.int (1 + r1), .int (1 + r2), .int 99]]) p (c + 2) := p2.mv (S := []) Mod.app (by simp)
  have l2 := p2.lt
  generalize G2 ++ [.lst [.int (1 + r1), .int (1 + r2), .int 99]] = G3 at m3 e3 p3 ⊢
  refine take_ok p3 (by omega) (by omega) (by decide) fun r4 G4 a4 b4 m4 p4 => ?_
  have e4 := m4.at e3 (by simp; omega)
  walk_at "wm"
  have hd4 : ∀ i : Int, CDivW i 4 := fun i => div_x (by omega) (Int.lt_of_lt_of_le (show (4 : Int) < 2 ^ 20 by decide) (p2_le (by omega)))
  obtain ⟨d, hd, ed⟩ := at_in (xs := [.int (1 + r1), .int (1 + r2), .int 99]) (i := r4 / 4) (by omega) (by simp; omega)
  obtain ⟨mk, rfl, hm0, hm1⟩ : ∃ mk, d = .int mk ∧ 1 ≤ mk ∧ mk ≤ 99 := by
    simp at hd
    rcases hd with rfl | rfl | rfl
    · exact ⟨_, rfl, by omega, by omega⟩
    · exact ⟨_, rfl, by omega, by omega⟩
    · exact ⟨_, rfl, by omega, by omega⟩
  refine ⟨hd4 _, _, _, w_lst e4, ed, ?_⟩
  refine take_ok p4 (by omega) (by omega) (by decide) fun r5 G5 a5 b5 m5 p5 => ?_
  walk_at "wm"
  refine take_ok p5 (by omega) (by omega) (by decide) fun r6 G6 a6 b6 m6 p6 => ?_
  walk_at "wm"
  refine take_ok p6 (by omega) (by omega) (by decide) fun r7 G7 a7 b7 m7 p7 => ?_
  walk_at "wm"
  refine ⟨u_sz3, ?_⟩
  have m8 : Mod [p] G (G7 ++ [.lst [.int (1 + r5), .int (1 + r6), .int (1 + r7)]]) := (m3.trans (m4.trans (m5.trans (m6.trans m7)))).trans Mod.app
  have e8 : (G7 ++ [.lst [.int (1 + r5), .int (1 + r6), .int (1 + r7)]])[G7.length]? = some (.lst [.int (1 + r5), .int (1 + r6), .int (1 + r7)]) := at_len
  have p8 : Pot (G7 ++ [.lst [.int (1 + r5), .int (1 + r6), .int (1 + r7)]]) p (c + 6) := p7.mv (S := []) Mod.app (by simp)
  have l7 := p7.lt
  generalize G7 ++ [.lst [.int (1 + r5), .int (1 + r6), .int (1 + r7)]] = G8 at m8 e8 p8 ⊢
  refine take_ok p8 (by omega) (by omega) (by decide) fun r9 G9 a9 b9 m9 p9 => ?_
  have e9 := m9.at e8 (by simp; omega)
  walk_at "wm"
  obtain ⟨d, hd, ed⟩ := at_in (xs := [.int (1 + r5), .int (1 + r6), .int (1 + r7)]) (i := r9 / 4) (by omega) (by simp; omega)
  obtain ⟨sp, rfl, hs0, hs1⟩ : ∃ mk, d = .int mk ∧ 1 ≤ mk ∧ mk ≤ 99 := by
    simp at hd
    rcases hd with rfl | rfl | rfl
    · exact ⟨_, rfl, by omega, by omega⟩
    · exact ⟨_, rfl, by omega, by omega⟩
    · exact ⟨_, rfl, by omega, by omega⟩
  refine ⟨hd4 _, _, _, w_lst e9, ed, ?_⟩
  exact ⟨u_sz3, hq mk sp G9 ⟨hm0, hm1, hs0, hs1⟩ (m8.trans m9) p9⟩
local macro_rules | `(tactic| walk_at "wm") => `(tactic| try simp only [sem, env0, kwF, w_add, w_addT, w_sub, w_mul, w_mulT, w_mulL, w_addL, w_addF, w_fdiv, w_mod, w_pow, w_bor, w_shl, w_shr, w_aadd, w_aaddT, w_asub, w_abor, w_ashl, w_ashr, w_lt, w_le, w_gt, w_ge, w_is, w_isnot, w_eqI, w_neI, w_eqB, w_neB, w_eqS, w_neS, w_inT, w_ixT, w_ixL, w_at0, w_at1, w_at2, w_at3, w_at4, w_at5, w_at6, w_truB, w_truI, w_truT, w_len, w_abs, w_min, w_max, w_max3, w_sum, w_all, w_any, w_intI, w_intB, w_tuple, w_list, w_divmod, w_seqT, w_seqL, w_append, w_extend, w_extendT, w_popAt, w_index, w_store, w_slT, w_slL, isNonD, List.map_cons, List.map_nil, List.length_cons, List.length_nil, List.replicate, List.cons_append, List.nil_append, List.append_nil, List.getElem?_cons_zero, List.getElem?_cons_succ, List.set_cons_zero, List.set_cons_succ, Option.some.injEq, exists_eq_left', exists_eq_left, exists_eq', exists_eq, Nat.zero_add, Nat.reduceAdd, Nat.reduceSub, Dt.bl.injEq, Dt.int.injEq, Dt.tup.injEq, Dt.ref.injEq, if_true, if_false, Bool.false_eq_true, Bool.not_true, Bool.not_false, true_and, and_true, lenA, w_wR, w_wT, List.take_succ_cons, List.take_zero, List.drop_succ_cons, List.drop_zero, w_ex2, and_self, exists_const, reduceCtorEq, decide_eq_true_eq, wipeD])
local macro_rules | `(tactic| walk_at "wh") => `(tactic| try simp only [sem, env0, kwF, w_add, w_addT, w_sub, w_mul, w_mulT, w_mulL, w_addL, w_addF, w_fdiv, w_mod, w_pow, w_bor, w_shl, w_shr, w_aadd, w_aaddT, w_asub, w_abor, w_ashl, w_ashr, w_lt, w_le, w_gt, w_ge, w_is, w_isnot, w_eqI, w_neI, w_eqB, w_neB, w_eqS, w_neS, w_inT, w_ixT, u_ixL, w_at0, w_at1, w_at2, w_at3, w_truB, w_truI, w_truT, w_len, w_abs, w_min, w_max, w_max3, w_sum, w_all, w_any, w_intI, w_intB, w_tuple, w_list, w_divmod, w_seqT, w_seqL, w_append, w_extend, w_extendT, w_popAt, w_index, u_store, u_ixD, u_storeD, w_slT, w_slL, isNonD, List.map_cons, List.map_nil, List.length_cons, List.length_nil, List.replicate, List.cons_append, List.nil_append, List.append_nil, List.getElem?_cons_zero, List.getElem?_cons_succ, List.set_cons_zero, List.set_cons_succ, Option.some.injEq, exists_eq_left', exists_eq_left, exists_eq', exists_eq, Nat.zero_add, Nat.reduceAdd, Nat.reduceSub, Dt.bl.injEq, Dt.int.injEq, Dt.tup.injEq, Dt.ref.injEq, if_true, if_false, Bool.false_eq_true, Bool.not_true, Bool.not_false, true_and, and_true, lenA, w_wR, w_wT, List.take_succ_cons, List.take_zero, List.drop_succ_cons, List.drop_zero, w_ex2, and_self, exists_const, reduceCtorEq, decide_eq_true_eq, wipeD, u_self, u_selfG, List.set_set, List.length_set, u_ix10, u_ix20, u_ix21, u_ix30, u_ix31, u_ix32, u_ix40, u_ix41, u_ix42, u_ix43, w_at4, w_at5, w_at6, w_truN, u_sz0, u_sz1, u_sz2, u_sz3, u_sz4, u_sz5, u_sz6, u_sz7, u_sz8, Ob.lst.injEq, Ob.dct.injEq, Dt.str.injEq, not_true_eq_false, not_false_eq_true, Bool.or_false, Bool.and_true, decide_true, decide_false, ge_iff_le, gt_iff_lt, *])
local macro_rules | `(tactic| walk_at "ws") => `(tactic| simp only [q_full_full, q_full_drop, q_full_mark, q_full_come, q_full_send, q_full_bell, q_drop_full, q_drop_drop, q_drop_mark, q_drop_come, q_drop_send, q_drop_bell, q_mark_full, q_mark_drop, q_mark_mark, q_mark_come, q_mark_send, q_mark_bell, q_come_full, q_come_drop, q_come_mark, q_come_come, q_come_send, q_come_bell, q_send_full, q_send_drop, q_send_mark, q_send_come, q_send_send, q_send_bell, q_bell_full, q_bell_drop, q_bell_mark, q_bell_come, q_bell_send, q_bell_bell, q_late_late, q_late_share, q_late_none, q_share_late, q_share_share, q_share_none, q_none_late, q_none_share, q_none_none, Bool.not_true, Bool.not_false, Bool.false_eq_true, if_true, if_false])
local macro_rules | `(tactic| walk_at "tk") => `(tactic| (refine take_ok (by assumption) (by omega) (by omega) (by first | omega | (refine Int.lt_of_lt_of_le (b := 2 ^ 40) (by omega) (p2_le (by omega)))) fun _ _ _ _ _ _ => ?_; walk_at "wm"))
local macro_rules | `(tactic| walk_at "pk") => `(tactic| (refine pick (by assumption) (by omega) (by omega) (by simp) (by omega) fun _ _ hd _ _ => ?_; walk_at "wm"))
local macro_rules | `(tactic| walk_at "md") => `(tactic| first | assumption | exact Mod.refl | (refine Mod.trans (by assumption) ?_; walk_at "md"))
local macro_rules | `(tactic| walk_at "pt") => `(tactic| first | assumption | exact Pot.le (by assumption) (by omega))
local macro_rules | `(tactic| walk_at "sz") => `(tactic| (refine ⟨by first | omega | (rw [sizeLine_eq]; omega) | (rw [sizeLine_eq]; simp; omega), ?_⟩))
local macro_rules | `(tactic| walk_at "ex") => `(tactic| ((first | refine ⟨false, (isi_exc (by first | assumption | exact exc_app (by assumption) | exact exc_app (exc_app (by assumption))) _).trans (by decide), ?_⟩ | refine ⟨true, (isi_exc (by first | assumption | exact exc_app (by assumption) | exact exc_app (exc_app (by assumption))) _).trans (by decide), ?_⟩ | refine ⟨u_sz3, ?_⟩ | refine ⟨u_sz2, ?_⟩ | refine ⟨u_sz1, ?_⟩ | refine ⟨u_sz4, ?_⟩ | refine ⟨u_sz5, ?_⟩); walk_at "wm"))
local macro_rules | `(tactic| walk_at "nw") => `(tactic| simp only [new1, new2a, new1L, new2L, Option.some.injEq, Ob.lst.injEq, exists_eq_left', exists_eq_left, exists_eq', exists_eq, List.cons_append, List.nil_append, List.length_cons, List.length_nil, Nat.reduceAdd, Nat.zero_add, true_and])

def shareR (m p u t : Int) : Dt := .tup [.str "share", .int m, .int p, .int u, .int t]
def shM (ph sh od tt : Int) : Dt := .tup [.int ph, .int sh, .int od, .int tt]
structure OkS (m p u t : Int) : Prop where
  m0 : 1 ≤ m
  m1 : m ≤ 99
  p0 : 1 ≤ p
  p1 : p ≤ 99
  u0 : 0 ≤ u
  u1 : u ≤ 999
  t0 : 0 ≤ t
  t1 : t ≤ 999
structure OkSM (p ph sh od tt : Int) : Prop where
  h0 : 0 ≤ ph
  h1 : ph ≤ p - 1
  s0 : 0 ≤ sh
  s1 : sh ≤ 1000
  o0 : 0 ≤ od
  o1 : od ≤ 99
  t0 : 0 ≤ tt
  t1 : tt ≤ 999
theorem isT_strS {G : Gh} {x : Str} : isAny G isaF (.str x) [.ty "str"] = some true := by
  have k6 : kitB "str" "str" = some true := by decide +kernel
  exact isi1 (t := "str") rfl k6
theorem share_share : (("share" : Str) == ("share" : Str)) = true := by decide
theorem win {i lo hi : Int} (a : lo ≤ i) (b : i ≤ hi) : within (.int i) lo hi = true := by simp [within, a, b]
theorem is_share_ok {k : Nat} {m p u t : Int} {G : Gh} {Q : QE} {E : XQ} (r : OkS m p u t) (h : ∀ G', Mod [] G G' → Q (.bl true) G') : C (k + 3) F_share_is_share [shareR m p u t] G Q E := by
  refine ⟨_, rfl, rfl, ?_⟩
  unfold c_share_is_share shareR
  walk_at "wm"
  refine ⟨_, isi_T (d := .tup _) rfl rfl, ?_⟩
  rw [isT_tup (n := 1) rfl]
  unfold isTp
  walk_at "wm"
  rw [if_neg (by decide)]
  refine ⟨by omega, _, rfl, true, isT_strS, ?_⟩
  walk_at "wm"
  rw [share_share]
  walk_at "wm"
  refine is_within_ok rfl ?_
  rw [win r.m0 r.m1]
  refine ⟨true, rfl, ?_⟩
  walk_at "wm"
  refine is_within_ok rfl ?_
  rw [win r.p0 r.p1]
  refine ⟨true, rfl, ?_⟩
  walk_at "wm"
  have m1 : Mod [] G (G ++ [.lst [.int u, .int t]]) := Mod.app
  have e1 : (G ++ [.lst [Dt.int u, .int t]])[G.length]? = some (.lst [.int u, .int t]) := at_len
  generalize G ++ [.lst [Dt.int u, .int t]] = G1 at m1 e1 ⊢
  refine ⟨_, w_lst e1, ?_⟩
  refine comp_map (f := fun _ => .bl true) (G0 := G1) (Nat.le_refl _) (fun G' m' => stands_one (m'.lst (w_lst e1) (by simp))) [.int u, .int t] [] _ (by rw [sizeLine_eq]; simp) Mod.app at_len (fun x hx G' Q' m' hq => ?_) fun G2 m2 e2 => ?_
  · unfold c_share_is_share_1
    walk_at "wm"
    simp at hx
    rcases hx with rfl | rfl
    · exact is_within_ok rfl (by rw [win r.u0 r.u1]; exact hq _ Mod.refl)
    · exact is_within_ok rfl (by rw [win r.t0 r.t1]; exact hq _ Mod.refl)
  · exact ⟨_, [true, true], w_lst e2, rfl, h G2 (m1.trans m2)⟩
theorem need_share_ok {k : Nat} {m p u t : Int} {G : Gh} {Q : QE} {E : XQ} (r : OkS m p u t) (h : ∀ G', Mod [] G G' → Q .non G') : C (k + 4) F_share_need_share [shareR m p u t] G Q E := by
  refine ⟨_, rfl, rfl, ?_⟩
  unfold c_share_need_share
  walk_at "wm"
  exact is_share_ok r fun G' m' => ⟨true, rfl, h G' m'⟩
theorem is_share_memory_ok {k : Nat} {m p u t ph sh od tt : Int} {G : Gh} {Q : QE} {E : XQ} (r : OkS m p u t) (o : OkSM p ph sh od tt) (h : ∀ G', Mod [] G G' → Q (.bl true) G') : C (k + 5) F_share_is_share_memory [shareR m p u t, shM ph sh od tt] G Q E := by
  refine ⟨_, rfl, rfl, ?_⟩
  unfold c_share_is_share_memory
  walk_at "wm"
  refine need_share_ok r fun G1 m1 => ?_
  unfold shM shareR
  walk_at "wm"
  refine ⟨_, isi_T (d := .tup _) rfl rfl, ?_⟩
  rw [isT_tup (n := 1) rfl]
  unfold isTp
  walk_at "wm"
  rw [if_neg (by decide)]
  refine ⟨u_sz4, _, _, rfl, rfl, rfl, ?_⟩
  simp only [zipD]
  refine comp_filt (f := fun _ => some (.bl true)) (G0 := G1) (Nat.le_refl _) (fun G' m' => stands_nil) [.tup [.int ph, .int (p - 1)], .tup [.int sh, .int 1000], .tup [.int od, .int 99], .tup [.int tt, .int (1000 - 1)]] [] _ (by rw [sizeLine_eq]; simp) Mod.app at_len (fun x hx G' Y N m' hy hn => ?_) fun G2 m2 e2 => ?_
  · unfold Turn c_share_is_share_memory_1
    have fin : ∀ a b : Int, 0 ≤ a → a ≤ b → (sem (C (k + 4)) (kwF kwd) isaF (.gt (.cons (.gn 3) (.cons (.gn 4) .nil)))).g (.tup [.int a, .int b]) (wipeD [some (.tup [.str "share", .int m, .int p, .int u, .int t]), some (.tup [.int ph, .int sh, .int od, .int tt]), some (.tup [.int (p - 1), .int 1000, .int 99, .int (1000 - 1)]), none, none] [3, 4]) G' (fun env1 G1 => (sem (C (k + 4)) (kwF kwd) isaF .ttrue).t env1 G1 (fun b G2 => if b = true then (sem (C (k + 4)) (kwF kwd) isaF (.call 1 (.cons (.var 3) (.cons (.kint 0) (.cons (.var 4) .nil))))).e env1 G2 Y (fun _ _ => False) else N G2) fun _ _ => False) fun _ _ => False := fun a b h1 h2 => by
      walk_at "wm"
      exact is_within_ok rfl (by rw [win h1 h2]; exact hy _ _ rfl Mod.refl)
    simp at hx
    rcases hx with rfl | rfl | rfl | rfl
    · exact fin _ _ o.h0 o.h1
    · exact fin _ _ o.s0 o.s1
    · exact fin _ _ o.o0 o.o1
    · exact fin _ _ o.t0 o.t1
  · exact ⟨_, [true, true, true, true], w_lst e2, rfl, h G2 (m1.trans m2)⟩
theorem share_first_ok {k : Nat} {m p u t : Int} {G : Gh} {Q : QE} {E : XQ} (r : OkS m p u t) (h : ∀ G', Mod [] G G' → Q (shM 0 0 0 0) G') : C (k + 5) F_share_share_first [shareR m p u t] G Q E := by
  refine ⟨_, rfl, rfl, ?_⟩
  unfold c_share_share_first
  walk_at "wm"
  exact need_share_ok r fun G' m' => ⟨u_sz4, h G' m'⟩
theorem law_share_rule_ok {k p c : Nat} {G : Gh} {Q : QE} {E : XQ} (h : Pot G p c) (hc : c ≤ 2 ^ 39) (hq : ∀ m pe u t G', OkS m pe u t → Mod [p] G G' → Pot G' p (c + 11) → Q (shareR m pe u t) G') : C (k + 2) F_law_share_rule [.ref p] G Q E := by
  refine ⟨_, rfl, rfl, ?_⟩
  unfold c_law_share_rule
  walk_at "wm"
  refine take_ok h (by omega) (by omega) (by decide) fun r1 G1 a1 b1 m1 p1 => ?_
  walk_at "wm"
  refine take_ok p1 (by omega) (by omega) (by decide) fun r2 G2 a2 b2 m2 p2 => ?_
  walk_at "wm"
  refine ⟨u_sz2, pickdiv p2 (by omega) (by omega) (by decide) (by omega) (by omega) (by simp) fun d G3 hd m3 p3 => ?_⟩
  obtain ⟨mk, rfl, hm0, hm1⟩ : ∃ mk, d = .int mk ∧ 1 ≤ mk ∧ mk ≤ 99 := by
    simp at hd
    rcases hd with rfl | rfl <;> exact ⟨_, rfl, by omega, by omega⟩
  walk_at "wm"
  refine take_ok p3 (by omega) (by omega) (by decide) fun r4 G4 a4 b4 m4 p4 => ?_
  walk_at "wm"
  refine take_ok p4 (by omega) (by omega) (by decide) fun r5 G5 a5 b5 m5 p5 => ?_
  walk_at "wm"
  refine ⟨u_sz2, pickdiv p5 (by omega) (by omega) (by decide) (by omega) (by omega) (by simp) fun d G6 hd m6 p6 => ?_⟩
  obtain ⟨pe, rfl, hp0, hp1⟩ : ∃ mk, d = .int mk ∧ 1 ≤ mk ∧ mk ≤ 99 := by
    simp at hd
    rcases hd with rfl | rfl <;> exact ⟨_, rfl, by omega, by omega⟩
  walk_at "wm"
  refine take_ok p6 (by omega) (by omega) (by decide) fun r7 G7 a7 b7 m7 p7 => ?_
  walk_at "wm"
  refine take_ok p7 (by omega) (by omega) (by decide) fun r8 G8 a8 b8 m8 p8 => ?_
  walk_at "wm"
  refine ⟨u_sz4, pick p8 (by omega) (by omega) (by simp) (by decide) fun d G9 hd m9 p9 => ?_⟩
  obtain ⟨u, rfl, hu0, hu1⟩ : ∃ mk, d = .int mk ∧ 0 ≤ mk ∧ mk ≤ 999 := by
    simp at hd
    rcases hd with rfl | rfl | rfl | rfl <;> exact ⟨_, rfl, by omega, by omega⟩
  walk_at "wm"
  refine take_ok p9 (by omega) (by omega) (by decide) fun ra Ga aa ba ma pa => ?_
  walk_at "wm"
  refine ⟨u_sz3, pick pa (by omega) (by omega) (by simp) (by decide) fun d Gb hd mb pb => ?_⟩
  obtain ⟨t, rfl, ht0, ht1⟩ : ∃ mk, d = .int mk ∧ 0 ≤ mk ∧ mk ≤ 999 := by
    simp at hd
    rcases hd with rfl | rfl | rfl <;> exact ⟨_, rfl, by omega, by omega⟩
  exact ⟨u_sz5, hq mk pe u t Gb ⟨hm0, hm1, hp0, hp1, hu0, hu1, ht0, ht1⟩ (m1.trans (m2.trans (m3.trans (m4.trans (m5.trans (m6.trans (m7.trans (m8.trans (m9.trans (ma.trans mb)))))))))) pb⟩
theorem late_ne_share : (("share" : Str) == ("late" : Str)) = false := by decide
local macro_rules | `(tactic| walk_at "wm") => `(tactic| try simp only [sem, env0, kwF, w_add, w_addT, w_sub, w_mul, w_mulT, w_mulL, w_addL, w_addF, w_fdiv, w_mod, w_pow, w_bor, w_shl, w_shr, w_aadd, w_aaddT, w_asub, w_abor, w_ashl, w_ashr, w_lt, w_le, w_gt, w_ge, w_is, w_isnot, w_eqI, w_neI, w_eqB, w_neB, w_eqS, w_neS, w_inT, w_ixT, w_ixL, w_at0, w_at1, w_at2, w_at3, w_at4, w_at5, w_at6, w_truB, w_truI, w_truT, w_len, w_abs, w_min, w_max, w_max3, w_sum, w_all, w_any, w_intI, w_intB, w_tuple, w_list, w_divmod, w_seqT, w_seqL, w_append, w_extend, w_extendT, w_popAt, w_index, w_store, w_slT, w_slL, isNonD, List.map_cons, List.map_nil, List.length_cons, List.length_nil, List.replicate, List.cons_append, List.nil_append, List.append_nil, List.getElem?_cons_zero, List.getElem?_cons_succ, List.set_cons_zero, List.set_cons_succ, Option.some.injEq, exists_eq_left', exists_eq_left, exists_eq', exists_eq, Nat.zero_add, Nat.reduceAdd, Nat.reduceSub, Dt.bl.injEq, Dt.int.injEq, Dt.tup.injEq, Dt.ref.injEq, if_true, if_false, Bool.false_eq_true, Bool.not_true, Bool.not_false, true_and, and_true, lenA, w_wR, w_wT, List.take_succ_cons, List.take_zero, List.drop_succ_cons, List.drop_zero, w_ex2, and_self, exists_const, reduceCtorEq, decide_eq_true_eq, wipeD])
local macro_rules | `(tactic| walk_at "wh") => `(tactic| try simp only [sem, env0, kwF, w_add, w_addT, w_sub, w_mul, w_mulT, w_mulL, w_addL, w_addF, w_fdiv, w_mod, w_pow, w_bor, w_shl, w_shr, w_aadd, w_aaddT, w_asub, w_abor, w_ashl, w_ashr, w_lt, w_le, w_gt, w_ge, w_is, w_isnot, w_eqI, w_neI, w_eqB, w_neB, w_eqS, w_neS, w_inT, w_ixT, u_ixL, w_at0, w_at1, w_at2, w_at3, w_truB, w_truI, w_truT, w_len, w_abs, w_min, w_max, w_max3, w_sum, w_all, w_any, w_intI, w_intB, w_tuple, w_list, w_divmod, w_seqT, w_seqL, w_append, w_extend, w_extendT, w_popAt, w_index, u_store, u_ixD, u_storeD, w_slT, w_slL, isNonD, List.map_cons, List.map_nil, List.length_cons, List.length_nil, List.replicate, List.cons_append, List.nil_append, List.append_nil, List.getElem?_cons_zero, List.getElem?_cons_succ, List.set_cons_zero, List.set_cons_succ, Option.some.injEq, exists_eq_left', exists_eq_left, exists_eq', exists_eq, Nat.zero_add, Nat.reduceAdd, Nat.reduceSub, Dt.bl.injEq, Dt.int.injEq, Dt.tup.injEq, Dt.ref.injEq, if_true, if_false, Bool.false_eq_true, Bool.not_true, Bool.not_false, true_and, and_true, lenA, w_wR, w_wT, List.take_succ_cons, List.take_zero, List.drop_succ_cons, List.drop_zero, w_ex2, and_self, exists_const, reduceCtorEq, decide_eq_true_eq, wipeD, u_self, u_selfG, List.set_set, List.length_set, u_ix10, u_ix20, u_ix21, u_ix30, u_ix31, u_ix32, u_ix40, u_ix41, u_ix42, u_ix43, w_at4, w_at5, w_at6, w_truN, u_sz0, u_sz1, u_sz2, u_sz3, u_sz4, u_sz5, u_sz6, u_sz7, u_sz8, Ob.lst.injEq, Ob.dct.injEq, Dt.str.injEq, not_true_eq_false, not_false_eq_true, Bool.or_false, Bool.and_true, decide_true, decide_false, ge_iff_le, gt_iff_lt, *])
local macro_rules | `(tactic| walk_at "ws") => `(tactic| simp only [q_full_full, q_full_drop, q_full_mark, q_full_come, q_full_send, q_full_bell, q_drop_full, q_drop_drop, q_drop_mark, q_drop_come, q_drop_send, q_drop_bell, q_mark_full, q_mark_drop, q_mark_mark, q_mark_come, q_mark_send, q_mark_bell, q_come_full, q_come_drop, q_come_mark, q_come_come, q_come_send, q_come_bell, q_send_full, q_send_drop, q_send_mark, q_send_come, q_send_send, q_send_bell, q_bell_full, q_bell_drop, q_bell_mark, q_bell_come, q_bell_send, q_bell_bell, q_late_late, q_late_share, q_late_none, q_share_late, q_share_share, q_share_none, q_none_late, q_none_share, q_none_none, Bool.not_true, Bool.not_false, Bool.false_eq_true, if_true, if_false])
local macro_rules | `(tactic| walk_at "tk") => `(tactic| (refine take_ok (by assumption) (by omega) (by omega) (by first | omega | (refine Int.lt_of_lt_of_le (b := 2 ^ 40) (by omega) (p2_le (by omega)))) fun _ _ _ _ _ _ => ?_; walk_at "wm"))
local macro_rules | `(tactic| walk_at "pk") => `(tactic| (refine pick (by assumption) (by omega) (by omega) (by simp) (by omega) fun _ _ hd _ _ => ?_; walk_at "wm"))
local macro_rules | `(tactic| walk_at "md") => `(tactic| first | assumption | exact Mod.refl | (refine Mod.trans (by assumption) ?_; walk_at "md"))
local macro_rules | `(tactic| walk_at "pt") => `(tactic| first | assumption | exact Pot.le (by assumption) (by omega))
local macro_rules | `(tactic| walk_at "sz") => `(tactic| (refine ⟨by first | omega | (rw [sizeLine_eq]; omega) | (rw [sizeLine_eq]; simp; omega), ?_⟩))
local macro_rules | `(tactic| walk_at "ex") => `(tactic| ((first | refine ⟨false, (isi_exc (by first | assumption | exact exc_app (by assumption) | exact exc_app (exc_app (by assumption))) _).trans (by decide), ?_⟩ | refine ⟨true, (isi_exc (by first | assumption | exact exc_app (by assumption) | exact exc_app (exc_app (by assumption))) _).trans (by decide), ?_⟩ | refine ⟨u_sz3, ?_⟩ | refine ⟨u_sz2, ?_⟩ | refine ⟨u_sz1, ?_⟩ | refine ⟨u_sz4, ?_⟩ | refine ⟨u_sz5, ?_⟩); walk_at "wm"))
local macro_rules | `(tactic| walk_at "nw") => `(tactic| simp only [new1, new2a, new1L, new2L, Option.some.injEq, Ob.lst.injEq, exists_eq_left', exists_eq_left, exists_eq', exists_eq, List.cons_append, List.nil_append, List.length_cons, List.length_nil, Nat.reduceAdd, Nat.zero_add, true_and])

inductive Rl
  | non
  | lat (m s : Int)
  | shr (m p u t : Int)
inductive Mm
  | non
  | lat (a l : Option Int) (c : Int)
  | shr (ph sh od tt : Int)
def Rl.D : Rl → Dt
  | .non => .tup [.str "none"]
  | .lat m s => lateR m s
  | .shr m p u t => shareR m p u t
def Mm.L : Mm → List Dt
  | .non => []
  | .lat a l c => [optD a, optD l, .int c]
  | .shr ph sh od tt => [.int ph, .int sh, .int od, .int tt]
abbrev Mm.D (x : Mm) : Dt := .tup x.L
def OkRl : Rl → Prop
  | .non => True
  | .lat m s => OkR m s
  | .shr m p u t => OkS m p u t
def OkMm : Rl → Mm → Prop
  | .non, .non => True
  | .lat _ s, .lat a l c => OkM s a l c
  | .shr _ p _ _, .shr ph sh od tt => OkSM p ph sh od tt
  | _, _ => False
theorem s_nn : (("none" : Str) == ("none" : Str)) = true := by decide
theorem s_ln : (("late" : Str) == ("none" : Str)) = false := by decide
theorem s_sn : (("share" : Str) == ("none" : Str)) = false := by decide
theorem ty_tup {G : Gh} {xs : List Dt} : isAny G isaF (.tup xs) [.ty "tuple"] = some true := isi1 (t := "tuple") rfl (by decide +kernel)
theorem shw_none : shw 1 (.tup [.str "none"]) = true := by
  rw [shw_tup, shws_cons, shws_nil]
  unfold shw
  decide +kernel
theorem is_none_ok {k : Nat} {r : Rl} {G : Gh} {Q : QE} {E : XQ} (h : Q (.bl (match r with | .non => true | _ => false)) G) : C (k + 1) F_rules_is_none [r.D] G Q E := by
  refine ⟨_, rfl, rfl, ?_⟩
  unfold c_rules_is_none
  cases r with
  | non =>
    unfold Rl.D
    walk_at "wm"
    refine ⟨_, ty_tup, ?_⟩
    walk_at "wm"
    rw [if_pos (by decide)]
    refine ⟨_, isT_str, ?_⟩
    walk_at "wm"
    exact eq_same shw_none (by omega) h
  | lat m s =>
    unfold Rl.D lateR
    walk_at "wm"
    exact ⟨_, ty_tup, h⟩
  | shr m p u t =>
    unfold Rl.D shareR
    walk_at "wm"
    exact ⟨_, ty_tup, h⟩
theorem is_late_shr {k : Nat} {m p u t : Int} {G : Gh} {Q : QE} {E : XQ} (h : Q (.bl false) G) : C (k + 1) F_late_is_late [shareR m p u t] G Q E := by
  refine ⟨_, rfl, rfl, ?_⟩
  unfold c_late_is_late shareR
  walk_at "wm"
  exact ⟨_, ty_tup, h⟩
theorem is_rule_ok {k : Nat} {r : Rl} {G : Gh} {Q : QE} {E : XQ} (o : OkRl r) (h : ∀ G', Mod [] G G' → Q (.bl true) G') : C (k + 4) F_rules_is_rule [r.D] G Q E := by
  refine ⟨_, rfl, rfl, ?_⟩
  unfold c_rules_is_rule
  walk_at "wm"
  refine is_none_ok ?_
  cases r with
  | non => exact ⟨true, rfl, h G Mod.refl⟩
  | lat m s =>
    refine ⟨false, rfl, ?_⟩
    rw [if_neg (by decide)]
    exact is_late_ok (m := m) (s := s) o fun G1 m1 => ⟨true, rfl, h G1 m1⟩
  | shr m p u t =>
    refine ⟨false, rfl, ?_⟩
    rw [if_neg (by decide)]
    refine is_late_shr (m := m) (p := p) (u := u) (t := t) ⟨false, rfl, ?_⟩
    rw [if_neg (by decide)]
    exact is_share_ok o h
theorem need_rule_ok {k : Nat} {r : Rl} {G : Gh} {Q : QE} {E : XQ} (o : OkRl r) (h : ∀ G', Mod [] G G' → Q .non G') : C (k + 5) F_rules_need_rule [r.D] G Q E := by
  refine ⟨_, rfl, rfl, ?_⟩
  unfold c_rules_need_rule
  walk_at "wm"
  exact is_rule_ok o fun G1 m1 => ⟨true, rfl, h G1 m1⟩
theorem is_memory_of_ok {k : Nat} {r : Rl} {x : Mm} {G : Gh} {Q : QE} {E : XQ} (o : OkRl r) (ox : OkMm r x) (h : ∀ G', Mod [] G G' → Q (.bl true) G') : C (k + 6) F_rules_is_memory_of [r.D, x.D] G Q E := by
  refine ⟨_, rfl, rfl, ?_⟩
  unfold c_rules_is_memory_of
  cases r with
  | non =>
    cases x with
    | non =>
      unfold Rl.D Mm.D Mm.L
      walk_at "wm"
      rw [s_nn]
      walk_at "wm"
      exact ⟨true, ty_tup, u_sz0, eq_same (n := 1) (by rw [shw_tup, shws_nil]) (by omega) (h G Mod.refl)⟩
    | _ => cases ox
  | lat m s =>
    cases x with
    | lat a l c =>
      have hh := is_late_memory_ok (k := k) (Q := Q) (E := E) (G := G) o ox h
      unfold lateR memD at hh
      unfold Rl.D lateR Mm.D Mm.L
      walk_at "wm"
      rw [s_ln, late_late]
      walk_at "wm"
      exact hh
    | _ => cases ox
  | shr m p u t =>
    cases x with
    | shr ph sh od tt =>
      have hh := is_share_memory_ok (k := k) (Q := Q) (E := E) (G := G) o ox h
      unfold shareR shM at hh
      unfold Rl.D shareR Mm.D Mm.L
      walk_at "wm"
      rw [s_sn, late_ne_share]
      walk_at "wm"
      exact hh
    | _ => cases ox
def fmR : Rl → Mm
  | .non => .non
  | .lat _ _ => .lat none none 0
  | .shr _ _ _ _ => .shr 0 0 0 0
theorem fm_ok {r : Rl} (o : OkRl r) : OkMm r (fmR r) := by
  cases r with
  | non => trivial
  | lat m s => exact ⟨by omega, Int.mul_nonneg (by have := o.s0; omega) (by have := o.s0; omega), fun i e => by (cases e), fun i e => by cases e⟩
  | shr m p u t => exact ⟨by omega, by have := o.p0; omega, by omega, by omega, by omega, by omega, by omega, by omega⟩
theorem first_memory_ok {k : Nat} {r : Rl} {G : Gh} {Q : QE} {E : XQ} (o : OkRl r) (h : ∀ G', Mod [] G G' → Q (fmR r).D G') : C (k + 6) F_rules_first_memory [r.D] G Q E := by
  refine ⟨_, rfl, rfl, ?_⟩
  unfold c_rules_first_memory
  walk_at "wm"
  refine need_rule_ok o fun G1 m1 => ?_
  cases r with
  | non =>
    unfold Rl.D
    walk_at "wm"
    rw [s_nn]
    exact ⟨u_sz0, h G1 m1⟩
  | lat m s =>
    have hh := late_first_ok (k := k) (Q := Q) (E := E) (G := G1) o fun G2 m2 => h G2 (m1.trans m2)
    unfold lateR at hh
    unfold Rl.D lateR
    walk_at "wm"
    rw [s_ln, late_late]
    walk_at "wm"
    exact hh
  | shr m p u t =>
    have hh := share_first_ok (k := k) (Q := Q) (E := E) (G := G1) o fun G2 m2 => h G2 (m1.trans m2)
    unfold shareR at hh
    unfold Rl.D shareR
    walk_at "wm"
    rw [s_sn, late_ne_share]
    walk_at "wm"
    exact hh
theorem is_memory_ok {k : Nat} {r : Rl} {x : Mm} {G : Gh} {Q : QE} {E : XQ} (o : OkRl r) (ox : OkMm r x) (h : ∀ G', Mod [] G G' → Q (.bl true) G') : C (k + 7) F_rules_is_memory [r.D, x.D] G Q E := by
  refine ⟨_, rfl, rfl, ?_⟩
  unfold c_rules_is_memory
  walk_at "wm"
  exact need_rule_ok o fun G1 m1 => is_memory_of_ok o ox fun G2 m2 => h G2 (m1.trans m2)
theorem law_rule_ok {k p c : Nat} {G : Gh} {Q : QE} {E : XQ} (h : Pot G p c) (hc : c ≤ 2 ^ 38) (hq : ∀ r G', OkRl r → Mod [p] G G' → Pot G' p (c + 12) → Q r.D G') : C (k + 3) F_law_rule [.ref p] G Q E := by
  refine ⟨_, rfl, rfl, ?_⟩
  unfold c_law_rule
  walk_at "wm"
  refine take_ok h (by omega) (by omega) (by decide) fun w G1 a1 b1 m1 q1 => ?_
  walk_at "wm"
  by_cases h0 : w = 0
  · rw [if_pos (by simp [h0])]
    exact ⟨by rw [sizeLine_eq]; omega, hq .non G1 trivial m1 (q1.le (by omega))⟩
  · rw [if_neg (by simp [h0])]
    by_cases h4 : w < 4
    · rw [if_pos h4]
      exact law_late_rule_ok q1 (by omega) fun m s G2 o m2 q2 => hq (.lat m s) G2 o (m1.trans m2) (q2.le (by omega))
    · rw [if_neg h4]
      exact law_share_rule_ok q1 (by omega) fun m pe u t G2 o m2 q2 => hq (.shr m pe u t) G2 o (m1.trans m2) (q2.le (by omega))
theorem eq_non {i : Int} {G : Gh} {R : Bool → Prop} (i0 : 0 ≤ i) (i1 : i ≤ 99) (r : R false) : cmpD .eq .non (.int i) G R :=
  eq_flat (n := 1) shw_non (shw_int (by omega) (by omega)) (by omega) (by unfold toP; exact r)
theorem law_memory_ok {k p c : Nat} {r : Rl} {G : Gh} {Q : QE} {E : XQ} (o : OkRl r) (h : Pot G p c) (hc : c ≤ 2 ^ 37) (hq : ∀ x G', OkMm r x → Mod [p] G G' → Pot G' p (c + 6) → Q x.D G') : C (k + 2) F_law_memory [.ref p, r.D] G Q E := by
  refine ⟨_, rfl, rfl, ?_⟩
  unfold c_law_memory
  have hp := h.lt
  cases r with
  | non =>
    unfold Rl.D
    walk_at "wm"
    rw [s_nn]
    exact ⟨u_sz0, hq .non G trivial Mod.refl (h.le (by omega))⟩
  | shr m pe u t =>
    have pe0 := o.p0
    have pe1 := o.p1
    unfold Rl.D shareR
    walk_at "wm"
    rw [s_sn, share_share]
    walk_at "wm"
    refine take_ok h (by omega) (by omega) (by decide) fun d1 G1 a1 b1 m1 q1 => ?_
    walk_at "wm"
    have e1 : (G1 ++ [Ob.lst [.int d1, .int 1000, .int 0, .int 500]])[G1.length]? = some (.lst [.int d1, .int 1000, .int 0, .int 500]) := at_len
    have q1' := q1.mv (S := []) (Mod.app (g := [Ob.lst [.int d1, .int 1000, .int 0, .int 500]])) (by simp)
    have hm1 : Mod [p] G1 (G1 ++ [Ob.lst [.int d1, .int 1000, .int 0, .int 500]]) := Mod.app
    have hp1 := q1.lt
    have pbig : pe < 2 ^ 200 := by
      have : pe < 2 ^ 20 := by omega
      exact Int.lt_of_lt_of_le this (p2_le (by omega))
    refine ⟨u_sz4, take_ok q1' (by omega) (by omega) pbig fun d2 G2 a2 b2 m2 q2 => ?_⟩
    walk_at "wm"
    refine ⟨u_sz2, pick q2 (by omega) (by omega) (by simp) (by decide) fun d G3 hd m3 q3 => ?_⟩
    obtain ⟨ph, rfl, h0, h1⟩ : ∃ z, d = .int z ∧ 0 ≤ z ∧ z ≤ pe - 1 := by
      simp at hd
      rcases hd with rfl | rfl <;> exact ⟨_, rfl, by omega, by omega⟩
    walk_at "wm"
    have e3 := (m2.trans m3).at e1 (by simp; omega)
    refine take_ok q3 (by omega) (by omega) (by decide) fun d4 G4 a4 b4 m4 q4 => ?_
    have e4 := m4.at e3 (by simp; omega)
    obtain ⟨y, hy, ey⟩ := at_in (xs := [.int d1, .int 1000, .int 0, .int 500]) (i := d4) a4 (by simp; omega)
    obtain ⟨sh, rfl, s0, s1⟩ : ∃ w, y = .int w ∧ 0 ≤ w ∧ w ≤ 1000 := by
      simp at hy
      rcases hy with rfl | rfl | rfl | rfl <;> exact ⟨_, rfl, by omega, by omega⟩
    walk_at "wm"
    refine ⟨_, _, w_lst e4, ey, ?_⟩
    refine take_ok q4 (by omega) (by omega) (by decide) fun d5 G5 a5 b5 m5 q5 => ?_
    walk_at "wm"
    refine take_ok q5 (by omega) (by omega) (by decide) fun d6 G6 a6 b6 m6 q6 => ?_
    exact ⟨u_sz4, hq (.shr ph sh d5 d6) G6 ⟨h0, h1, s0, s1, a5, by omega, a6, by omega⟩ (m1.trans (hm1.trans (m2.trans (m3.trans (m4.trans (m5.trans m6)))))) q6⟩
  | lat m s =>
    have s0 := o.s0
    have s1 := o.s1
    have ss : s * s ≤ 99 * 99 := Int.mul_le_mul s1 s1 (by omega) (by omega)
    have ss0 : s ≤ s * s := by
      have := Int.mul_le_mul (show 1 ≤ s by omega) (Int.le_refl s) (by omega) (by omega)
      omega
    have hms : MulOk s s := mul_l (by omega) (by omega)
    have sbig : s + 1 < 2 ^ 200 := by
      have : s + 1 < 2 ^ 20 := by omega
      exact Int.lt_of_lt_of_le this (p2_le (by omega))
    have ssbig : s * s + 1 < 2 ^ 200 := by
      have : s * s + 1 < 2 ^ 20 := by omega
      exact Int.lt_of_lt_of_le this (p2_le (by omega))
    unfold Rl.D lateR
    walk_at "wm"
    rw [s_ln, late_share]
    walk_at "wm"
    refine take_ok h (by omega) (by omega) sbig fun d1 G1 a1 b1 m1 q1 => ?_
    walk_at "wm"
    refine ⟨u_sz4, pick q1 (by omega) (by omega) (by simp) (by decide) fun d G2 hd m2 q2 => ?_⟩
    have fin : ∀ (a l : Option Int) (G3 : Gh), (∀ i, a = some i → 0 ≤ i ∧ i ≤ s) → (∀ i, l = some i → a = some s ∧ 0 ≤ i ∧ i ≤ s) → Mod [p] G G3 → Pot G3 p (c + 4) →
        MulOk s s ∧ MulOk s s ∧ C (k + 1) F_law_take [.ref p, .int (s * s + 1)] G3 (fun x G4 => 3 ≤ sizeLine ∧ C (k + 1) F_law_take [.ref p, .int 3] (G4 ++ [Ob.lst [.int 0, .int (s * s), x]]) (fun y G5 => ixD (.ref G4.length) y G5 fun z G6 => 3 ≤ sizeLine ∧ Q (.tup [optD a, optD l, z]) G6) E) E := fun a l G3 ha hl m3 q3 => by
      refine ⟨hms, hms, take_ok q3 (by omega) (by omega) ssbig fun d5 G5 a5 b5 m5 q5 => ⟨u_sz3, ?_⟩⟩
      refine pick q5 (by omega) (by omega) (by simp) (by decide) fun d G6 hd m6 q6 => ?_
      obtain ⟨n, rfl, n0, n1⟩ : ∃ z, d = .int z ∧ 0 ≤ z ∧ z ≤ s * s := by
        simp at hd
        rcases hd with rfl | rfl | rfl <;> exact ⟨_, rfl, by omega, by omega⟩
      exact ⟨u_sz3, hq (.lat a l n) G6 ⟨n0, n1, ha, hl⟩ (m3.trans (m5.trans m6)) q6⟩
    have m12 := m1.trans m2
    walk_at "wm"
    simp at hd
    rcases hd with rfl | rfl | rfl
    · refine eq_non (by omega) (by omega) ?_
      walk_at "wm"
      exact fin none none G2 (fun i e => by cases e) (fun i e => by cases e) m12 (q2.le (by omega))
    · walk_at "wm"
      rw [beq_self_eq_true]
      walk_at "wm"
      refine take_ok q2 (by omega) (by omega) sbig fun d3 G3 a3 b3 m3 q3 => ?_
      walk_at "wm"
      refine ⟨u_sz3, pick q3 (by omega) (by omega) (by simp) (by decide) fun d G4 hd m4 q4 => ?_⟩
      have m14 := m12.trans (m3.trans m4)
      simp at hd
      rcases hd with rfl | rfl | rfl
      · walk_at "wm"
        exact fin (some s) none G4 (fun i e => by (cases e; omega)) (fun i e => by cases e) m14 q4
      · walk_at "wm"
        exact fin (some s) (some 0) G4 (fun i e => by (cases e; omega)) (fun i e => by (cases e; exact ⟨rfl, by omega, by omega⟩)) m14 q4
      · walk_at "wm"
        exact fin (some s) (some d3) G4 (fun i e => by (cases e; omega)) (fun i e => by (cases e; exact ⟨rfl, by omega, by omega⟩)) m14 q4
    · walk_at "wm"
      by_cases hs : d1 = s
      · rw [hs, beq_self_eq_true]
        walk_at "wm"
        refine take_ok q2 (by omega) (by omega) sbig fun d3 G3 a3 b3 m3 q3 => ?_
        walk_at "wm"
        refine ⟨u_sz3, pick q3 (by omega) (by omega) (by simp) (by decide) fun d G4 hd m4 q4 => ?_⟩
        have m14 := m12.trans (m3.trans m4)
        simp at hd
        rcases hd with rfl | rfl | rfl
        · walk_at "wm"
          exact fin (some s) none G4 (fun i e => by (cases e; omega)) (fun i e => by cases e) m14 q4
        · walk_at "wm"
          exact fin (some s) (some 0) G4 (fun i e => by (cases e; omega)) (fun i e => by (cases e; exact ⟨rfl, by omega, by omega⟩)) m14 q4
        · walk_at "wm"
          exact fin (some s) (some d3) G4 (fun i e => by (cases e; omega)) (fun i e => by (cases e; exact ⟨rfl, by omega, by omega⟩)) m14 q4
      · rw [show (d1 == s) = false by simp [hs]]
        walk_at "wm"
        exact fin (some d1) none G2 (fun i e => by (cases e; omega)) (fun i e => by cases e) m12 (q2.le (by omega))
local macro_rules | `(tactic| walk_at "wm") => `(tactic| try simp only [sem, env0, kwF, w_add, w_addT, w_sub, w_mul, w_mulT, w_mulL, w_addL, w_addF, w_fdiv, w_mod, w_pow, w_bor, w_shl, w_shr, w_aadd, w_aaddT, w_asub, w_abor, w_ashl, w_ashr, w_lt, w_le, w_gt, w_ge, w_is, w_isnot, w_eqI, w_neI, w_eqB, w_neB, w_eqS, w_neS, w_inT, w_ixT, w_ixL, w_at0, w_at1, w_at2, w_at3, w_at4, w_at5, w_at6, w_truB, w_truI, w_truT, w_len, w_abs, w_min, w_max, w_max3, w_sum, w_all, w_any, w_intI, w_intB, w_tuple, w_list, w_divmod, w_seqT, w_seqL, w_append, w_extend, w_extendT, w_popAt, w_index, w_store, w_slT, w_slL, isNonD, List.map_cons, List.map_nil, List.length_cons, List.length_nil, List.replicate, List.cons_append, List.nil_append, List.append_nil, List.getElem?_cons_zero, List.getElem?_cons_succ, List.set_cons_zero, List.set_cons_succ, Option.some.injEq, exists_eq_left', exists_eq_left, exists_eq', exists_eq, Nat.zero_add, Nat.reduceAdd, Nat.reduceSub, Dt.bl.injEq, Dt.int.injEq, Dt.tup.injEq, Dt.ref.injEq, if_true, if_false, Bool.false_eq_true, Bool.not_true, Bool.not_false, true_and, and_true, lenA, w_wR, w_wT, List.take_succ_cons, List.take_zero, List.drop_succ_cons, List.drop_zero, w_ex2, and_self, exists_const, reduceCtorEq, decide_eq_true_eq, wipeD])
local macro_rules | `(tactic| walk_at "wh") => `(tactic| try simp only [sem, env0, kwF, w_add, w_addT, w_sub, w_mul, w_mulT, w_mulL, w_addL, w_addF, w_fdiv, w_mod, w_pow, w_bor, w_shl, w_shr, w_aadd, w_aaddT, w_asub, w_abor, w_ashl, w_ashr, w_lt, w_le, w_gt, w_ge, w_is, w_isnot, w_eqI, w_neI, w_eqB, w_neB, w_eqS, w_neS, w_inT, w_ixT, u_ixL, w_at0, w_at1, w_at2, w_at3, w_truB, w_truI, w_truT, w_len, w_abs, w_min, w_max, w_max3, w_sum, w_all, w_any, w_intI, w_intB, w_tuple, w_list, w_divmod, w_seqT, w_seqL, w_append, w_extend, w_extendT, w_popAt, w_index, u_store, u_ixD, u_storeD, w_slT, w_slL, isNonD, List.map_cons, List.map_nil, List.length_cons, List.length_nil, List.replicate, List.cons_append, List.nil_append, List.append_nil, List.getElem?_cons_zero, List.getElem?_cons_succ, List.set_cons_zero, List.set_cons_succ, Option.some.injEq, exists_eq_left', exists_eq_left, exists_eq', exists_eq, Nat.zero_add, Nat.reduceAdd, Nat.reduceSub, Dt.bl.injEq, Dt.int.injEq, Dt.tup.injEq, Dt.ref.injEq, if_true, if_false, Bool.false_eq_true, Bool.not_true, Bool.not_false, true_and, and_true, lenA, w_wR, w_wT, List.take_succ_cons, List.take_zero, List.drop_succ_cons, List.drop_zero, w_ex2, and_self, exists_const, reduceCtorEq, decide_eq_true_eq, wipeD, u_self, u_selfG, List.set_set, List.length_set, u_ix10, u_ix20, u_ix21, u_ix30, u_ix31, u_ix32, u_ix40, u_ix41, u_ix42, u_ix43, w_at4, w_at5, w_at6, w_truN, u_sz0, u_sz1, u_sz2, u_sz3, u_sz4, u_sz5, u_sz6, u_sz7, u_sz8, Ob.lst.injEq, Ob.dct.injEq, Dt.str.injEq, not_true_eq_false, not_false_eq_true, Bool.or_false, Bool.and_true, decide_true, decide_false, ge_iff_le, gt_iff_lt, *])
local macro_rules | `(tactic| walk_at "ws") => `(tactic| simp only [q_full_full, q_full_drop, q_full_mark, q_full_come, q_full_send, q_full_bell, q_drop_full, q_drop_drop, q_drop_mark, q_drop_come, q_drop_send, q_drop_bell, q_mark_full, q_mark_drop, q_mark_mark, q_mark_come, q_mark_send, q_mark_bell, q_come_full, q_come_drop, q_come_mark, q_come_come, q_come_send, q_come_bell, q_send_full, q_send_drop, q_send_mark, q_send_come, q_send_send, q_send_bell, q_bell_full, q_bell_drop, q_bell_mark, q_bell_come, q_bell_send, q_bell_bell, q_late_late, q_late_share, q_late_none, q_share_late, q_share_share, q_share_none, q_none_late, q_none_share, q_none_none, Bool.not_true, Bool.not_false, Bool.false_eq_true, if_true, if_false])
local macro_rules | `(tactic| walk_at "tk") => `(tactic| (refine take_ok (by assumption) (by omega) (by omega) (by first | omega | (refine Int.lt_of_lt_of_le (b := 2 ^ 40) (by omega) (p2_le (by omega)))) fun _ _ _ _ _ _ => ?_; walk_at "wm"))
local macro_rules | `(tactic| walk_at "pk") => `(tactic| (refine pick (by assumption) (by omega) (by omega) (by simp) (by omega) fun _ _ hd _ _ => ?_; walk_at "wm"))
local macro_rules | `(tactic| walk_at "md") => `(tactic| first | assumption | exact Mod.refl | (refine Mod.trans (by assumption) ?_; walk_at "md"))
local macro_rules | `(tactic| walk_at "pt") => `(tactic| first | assumption | exact Pot.le (by assumption) (by omega))
local macro_rules | `(tactic| walk_at "sz") => `(tactic| (refine ⟨by first | omega | (rw [sizeLine_eq]; omega) | (rw [sizeLine_eq]; simp; omega), ?_⟩))
local macro_rules | `(tactic| walk_at "ex") => `(tactic| ((first | refine ⟨false, (isi_exc (by first | assumption | exact exc_app (by assumption) | exact exc_app (exc_app (by assumption))) _).trans (by decide), ?_⟩ | refine ⟨true, (isi_exc (by first | assumption | exact exc_app (by assumption) | exact exc_app (exc_app (by assumption))) _).trans (by decide), ?_⟩ | refine ⟨u_sz3, ?_⟩ | refine ⟨u_sz2, ?_⟩ | refine ⟨u_sz1, ?_⟩ | refine ⟨u_sz4, ?_⟩ | refine ⟨u_sz5, ?_⟩); walk_at "wm"))
local macro_rules | `(tactic| walk_at "nw") => `(tactic| simp only [new1, new2a, new1L, new2L, Option.some.injEq, Ob.lst.injEq, exists_eq_left', exists_eq_left, exists_eq', exists_eq, List.cons_append, List.nil_append, List.length_cons, List.length_nil, Nat.reduceAdd, Nat.zero_add, true_and])

structure Pc where
  z : Int
  can : Bool
  mrk : Bool
  w : Int
def Pc.D (p : Pc) : Dt := .tup [.int p.z, .bl p.can, .bl p.mrk, .int p.w]
structure OkP (p : Pc) : Prop where
  z0 : 1 ≤ p.z
  z1 : p.z ≤ 9
  c : p.mrk = true → p.can = true
  w0 : 0 ≤ p.w
  w1 : p.w ≤ 1000000
structure St where
  wt : Int
  r : Rl
  lim : Int
def St.D (s : St) : Dt := .tup [.int s.wt, s.r.D, .int s.lim]
def dsc : List Pc → Prop
  | a :: b :: r => b.w ≤ a.w ∧ dsc (b :: r)
  | _ => True
abbrev psD (ps : List Pc) : Dt := .tup (ps.map Pc.D)
abbrev lnD (cr : Int) (ps : List Pc) (x : Mm) : Dt := .tup [.int cr, psD ps, x.D]
structure OkLn (s : St) (cr : Int) (ps : List Pc) (x : Mm) : Prop where
  len : (ps.length : Int) ≤ s.lim
  all : ∀ p ∈ ps, OkP p
  d : dsc ps
  m : OkMm s.r x
  c0 : 0 ≤ cr
  c1 : cr ≤ 9 * s.wt + 8
  c2 : ps = [] → cr = 0
theorem ty_bl {G : Gh} {b : Bool} : isAny G isaF (.bl b) [.ty "bool"] = some true := isi1 (t := "bool") rfl (by decide +kernel)
theorem eq_nilL {n : Nat} {xs : List Dt} {G : Gh} {R : Bool → Prop} (hn : G[n]? = some (.lst xs)) (h : shws 2 xs = true) (r : R xs.isEmpty) : cmpD .eq (.ref n) (.ref G.length) (G ++ [.lst []]) R := by
  refine eq_list (n := 2) (w_lst (Mod.at (S := []) (Mod.app) hn (by simp))) (w_lst at_len) h shws_nil (by omega) ?_
  cases xs with
  | nil => simpa [toPs, PyData.eqvAll] using r
  | cons p ps => simpa [toPs, PyData.eqvAll] using r
def old (p : Pc) : Pc := { p with w := if p.w + 1 < 1000000 then p.w + 1 else 1000000 }
/-- a rule's word -/
def Rl.wd : Rl → Str
  | .non => "none"
  | .lat _ _ => "late"
  | .shr _ _ _ _ => "share"
theorem rlD (r : Rl) : ∃ L, r.D = .tup (.str r.wd :: L) := by
  cases r with
  | non => exact ⟨_, rfl⟩
  | lat m s => exact ⟨_, rfl⟩
  | shr m p u t => exact ⟨_, rfl⟩
local macro_rules | `(tactic| walk_at "wm") => `(tactic| try simp only [sem, env0, kwF, w_add, w_addT, w_sub, w_mul, w_mulT, w_mulL, w_addL, w_addF, w_fdiv, w_mod, w_pow, w_bor, w_shl, w_shr, w_aadd, w_aaddT, w_asub, w_abor, w_ashl, w_ashr, w_lt, w_le, w_gt, w_ge, w_is, w_isnot, w_eqI, w_neI, w_eqB, w_neB, w_eqS, w_neS, w_inT, w_ixT, w_ixL, w_at0, w_at1, w_at2, w_at3, w_at4, w_at5, w_at6, w_truB, w_truI, w_truT, w_len, w_abs, w_min, w_max, w_max3, w_sum, w_all, w_any, w_intI, w_intB, w_tuple, w_list, w_divmod, w_seqT, w_seqL, w_append, w_extend, w_extendT, w_popAt, w_index, w_store, w_slT, w_slL, isNonD, List.map_cons, List.map_nil, List.length_cons, List.length_nil, List.replicate, List.cons_append, List.nil_append, List.append_nil, List.getElem?_cons_zero, List.getElem?_cons_succ, List.set_cons_zero, List.set_cons_succ, Option.some.injEq, exists_eq_left', exists_eq_left, exists_eq', exists_eq, Nat.zero_add, Nat.reduceAdd, Nat.reduceSub, Dt.bl.injEq, Dt.int.injEq, Dt.tup.injEq, Dt.ref.injEq, if_true, if_false, Bool.false_eq_true, Bool.not_true, Bool.not_false, true_and, and_true, lenA, w_wR, w_wT, List.take_succ_cons, List.take_zero, List.drop_succ_cons, List.drop_zero, w_ex2, and_self, exists_const, reduceCtorEq, decide_eq_true_eq, wipeD])
local macro_rules | `(tactic| walk_at "wh") => `(tactic| try simp only [sem, env0, kwF, w_add, w_addT, w_sub, w_mul, w_mulT, w_mulL, w_addL, w_addF, w_fdiv, w_mod, w_pow, w_bor, w_shl, w_shr, w_aadd, w_aaddT, w_asub, w_abor, w_ashl, w_ashr, w_lt, w_le, w_gt, w_ge, w_is, w_isnot, w_eqI, w_neI, w_eqB, w_neB, w_eqS, w_neS, w_inT, w_ixT, u_ixL, w_at0, w_at1, w_at2, w_at3, w_truB, w_truI, w_truT, w_len, w_abs, w_min, w_max, w_max3, w_sum, w_all, w_any, w_intI, w_intB, w_tuple, w_list, w_divmod, w_seqT, w_seqL, w_append, w_extend, w_extendT, w_popAt, w_index, u_store, u_ixD, u_storeD, w_slT, w_slL, isNonD, List.map_cons, List.map_nil, List.length_cons, List.length_nil, List.replicate, List.cons_append, List.nil_append, List.append_nil, List.getElem?_cons_zero, List.getElem?_cons_succ, List.set_cons_zero, List.set_cons_succ, Option.some.injEq, exists_eq_left', exists_eq_left, exists_eq', exists_eq, Nat.zero_add, Nat.reduceAdd, Nat.reduceSub, Dt.bl.injEq, Dt.int.injEq, Dt.tup.injEq, Dt.ref.injEq, if_true, if_false, Bool.false_eq_true, Bool.not_true, Bool.not_false, true_and, and_true, lenA, w_wR, w_wT, List.take_succ_cons, List.take_zero, List.drop_succ_cons, List.drop_zero, w_ex2, and_self, exists_const, reduceCtorEq, decide_eq_true_eq, wipeD, u_self, u_selfG, List.set_set, List.length_set, u_ix10, u_ix20, u_ix21, u_ix30, u_ix31, u_ix32, u_ix40, u_ix41, u_ix42, u_ix43, w_at4, w_at5, w_at6, w_truN, u_sz0, u_sz1, u_sz2, u_sz3, u_sz4, u_sz5, u_sz6, u_sz7, u_sz8, Ob.lst.injEq, Ob.dct.injEq, Dt.str.injEq, not_true_eq_false, not_false_eq_true, Bool.or_false, Bool.and_true, decide_true, decide_false, ge_iff_le, gt_iff_lt, *])
local macro_rules | `(tactic| walk_at "ws") => `(tactic| simp only [q_full_full, q_full_drop, q_full_mark, q_full_come, q_full_send, q_full_bell, q_drop_full, q_drop_drop, q_drop_mark, q_drop_come, q_drop_send, q_drop_bell, q_mark_full, q_mark_drop, q_mark_mark, q_mark_come, q_mark_send, q_mark_bell, q_come_full, q_come_drop, q_come_mark, q_come_come, q_come_send, q_come_bell, q_send_full, q_send_drop, q_send_mark, q_send_come, q_send_send, q_send_bell, q_bell_full, q_bell_drop, q_bell_mark, q_bell_come, q_bell_send, q_bell_bell, q_late_late, q_late_share, q_late_none, q_share_late, q_share_share, q_share_none, q_none_late, q_none_share, q_none_none, Bool.not_true, Bool.not_false, Bool.false_eq_true, if_true, if_false])
local macro_rules | `(tactic| walk_at "tk") => `(tactic| (refine take_ok (by assumption) (by omega) (by omega) (by first | omega | (refine Int.lt_of_lt_of_le (b := 2 ^ 40) (by omega) (p2_le (by omega)))) fun _ _ _ _ _ _ => ?_; walk_at "wm"))
local macro_rules | `(tactic| walk_at "pk") => `(tactic| (refine pick (by assumption) (by omega) (by omega) (by simp) (by omega) fun _ _ hd _ _ => ?_; walk_at "wm"))
local macro_rules | `(tactic| walk_at "md") => `(tactic| first | assumption | exact Mod.refl | (refine Mod.trans (by assumption) ?_; walk_at "md"))
local macro_rules | `(tactic| walk_at "pt") => `(tactic| first | assumption | exact Pot.le (by assumption) (by omega))
local macro_rules | `(tactic| walk_at "sz") => `(tactic| (refine ⟨by first | omega | (rw [sizeLine_eq]; omega) | (rw [sizeLine_eq]; simp; omega), ?_⟩))
local macro_rules | `(tactic| walk_at "ex") => `(tactic| ((first | refine ⟨false, (isi_exc (by first | assumption | exact exc_app (by assumption) | exact exc_app (exc_app (by assumption))) _).trans (by decide), ?_⟩ | refine ⟨true, (isi_exc (by first | assumption | exact exc_app (by assumption) | exact exc_app (exc_app (by assumption))) _).trans (by decide), ?_⟩ | refine ⟨u_sz3, ?_⟩ | refine ⟨u_sz2, ?_⟩ | refine ⟨u_sz1, ?_⟩ | refine ⟨u_sz4, ?_⟩ | refine ⟨u_sz5, ?_⟩); walk_at "wm"))
local macro_rules | `(tactic| walk_at "nw") => `(tactic| simp only [new1, new2a, new1L, new2L, Option.some.injEq, Ob.lst.injEq, exists_eq_left', exists_eq_left, exists_eq', exists_eq, List.cons_append, List.nil_append, List.length_cons, List.length_nil, Nat.reduceAdd, Nat.zero_add, true_and])

def sm (a : Int) : Pc := ⟨1, false, false, a⟩
def smS (r : Rl) (lim : Int) : St := ⟨1, r, lim⟩
structure OkA (r : Rl) (lim : Int) (as : List Int) (x : Mm) : Prop where
  len : (as.length : Int) ≤ lim
  all : ∀ a ∈ as, 0 ≤ a ∧ a ≤ 1000000
  d : as.Pairwise (fun a b => b ≤ a)
  m : OkMm r x
theorem dsc_sm : ∀ {as : List Int}, as.Pairwise (fun a b => b ≤ a) → dsc (as.map sm)
  | [], _ => trivial
  | [a], _ => trivial
  | a :: b :: r, h => ⟨(List.pairwise_cons.mp h).1 b List.mem_cons_self, dsc_sm (List.pairwise_cons.mp h).2⟩
theorem OkA.ln {r : Rl} {lim : Int} {as : List Int} {x : Mm} (h : OkA r lim as x) : OkLn (smS r lim) 0 (as.map sm) x := by
  refine ⟨by rw [List.length_map]; exact h.len, fun p hp => ?_, dsc_sm h.d, h.m, Int.le_refl _, by show (0 : Int) ≤ 9 * 1 + 8; decide, fun _ => rfl⟩
  obtain ⟨a, ha, rfl⟩ := List.mem_map.mp hp
  exact ⟨Int.le_refl _, by show (1 : Int) ≤ 9; decide, fun z => by (cases z), (h.all a ha).1, (h.all a ha).2⟩
local macro_rules | `(tactic| walk_at "wm") => `(tactic| try simp only [sem, env0, kwF, w_add, w_addT, w_sub, w_mul, w_mulT, w_mulL, w_addL, w_addF, w_fdiv, w_mod, w_pow, w_bor, w_shl, w_shr, w_aadd, w_aaddT, w_asub, w_abor, w_ashl, w_ashr, w_lt, w_le, w_gt, w_ge, w_is, w_isnot, w_eqI, w_neI, w_eqB, w_neB, w_eqS, w_neS, w_inT, w_ixT, w_ixL, w_at0, w_at1, w_at2, w_at3, w_at4, w_at5, w_at6, w_truB, w_truI, w_truT, w_len, w_abs, w_min, w_max, w_max3, w_sum, w_all, w_any, w_intI, w_intB, w_tuple, w_list, w_divmod, w_seqT, w_seqL, w_append, w_extend, w_extendT, w_popAt, w_index, w_store, w_slT, w_slL, isNonD, List.map_cons, List.map_nil, List.length_cons, List.length_nil, List.replicate, List.cons_append, List.nil_append, List.append_nil, List.getElem?_cons_zero, List.getElem?_cons_succ, List.set_cons_zero, List.set_cons_succ, Option.some.injEq, exists_eq_left', exists_eq_left, exists_eq', exists_eq, Nat.zero_add, Nat.reduceAdd, Nat.reduceSub, Dt.bl.injEq, Dt.int.injEq, Dt.tup.injEq, Dt.ref.injEq, if_true, if_false, Bool.false_eq_true, Bool.not_true, Bool.not_false, true_and, and_true, lenA, w_wR, w_wT, List.take_succ_cons, List.take_zero, List.drop_succ_cons, List.drop_zero, w_ex2, and_self, exists_const, reduceCtorEq, decide_eq_true_eq, wipeD])
local macro_rules | `(tactic| walk_at "wh") => `(tactic| try simp only [sem, env0, kwF, w_add, w_addT, w_sub, w_mul, w_mulT, w_mulL, w_addL, w_addF, w_fdiv, w_mod, w_pow, w_bor, w_shl, w_shr, w_aadd, w_aaddT, w_asub, w_abor, w_ashl, w_ashr, w_lt, w_le, w_gt, w_ge, w_is, w_isnot, w_eqI, w_neI, w_eqB, w_neB, w_eqS, w_neS, w_inT, w_ixT, u_ixL, w_at0, w_at1, w_at2, w_at3, w_truB, w_truI, w_truT, w_len, w_abs, w_min, w_max, w_max3, w_sum, w_all, w_any, w_intI, w_intB, w_tuple, w_list, w_divmod, w_seqT, w_seqL, w_append, w_extend, w_extendT, w_popAt, w_index, u_store, u_ixD, u_storeD, w_slT, w_slL, isNonD, List.map_cons, List.map_nil, List.length_cons, List.length_nil, List.replicate, List.cons_append, List.nil_append, List.append_nil, List.getElem?_cons_zero, List.getElem?_cons_succ, List.set_cons_zero, List.set_cons_succ, Option.some.injEq, exists_eq_left', exists_eq_left, exists_eq', exists_eq, Nat.zero_add, Nat.reduceAdd, Nat.reduceSub, Dt.bl.injEq, Dt.int.injEq, Dt.tup.injEq, Dt.ref.injEq, if_true, if_false, Bool.false_eq_true, Bool.not_true, Bool.not_false, true_and, and_true, lenA, w_wR, w_wT, List.take_succ_cons, List.take_zero, List.drop_succ_cons, List.drop_zero, w_ex2, and_self, exists_const, reduceCtorEq, decide_eq_true_eq, wipeD, u_self, u_selfG, List.set_set, List.length_set, u_ix10, u_ix20, u_ix21, u_ix30, u_ix31, u_ix32, u_ix40, u_ix41, u_ix42, u_ix43, w_at4, w_at5, w_at6, w_truN, u_sz0, u_sz1, u_sz2, u_sz3, u_sz4, u_sz5, u_sz6, u_sz7, u_sz8, Ob.lst.injEq, Ob.dct.injEq, Dt.str.injEq, not_true_eq_false, not_false_eq_true, Bool.or_false, Bool.and_true, decide_true, decide_false, ge_iff_le, gt_iff_lt, *])
local macro_rules | `(tactic| walk_at "ws") => `(tactic| simp only [q_full_full, q_full_drop, q_full_mark, q_full_come, q_full_send, q_full_bell, q_drop_full, q_drop_drop, q_drop_mark, q_drop_come, q_drop_send, q_drop_bell, q_mark_full, q_mark_drop, q_mark_mark, q_mark_come, q_mark_send, q_mark_bell, q_come_full, q_come_drop, q_come_mark, q_come_come, q_come_send, q_come_bell, q_send_full, q_send_drop, q_send_mark, q_send_come, q_send_send, q_send_bell, q_bell_full, q_bell_drop, q_bell_mark, q_bell_come, q_bell_send, q_bell_bell, q_late_late, q_late_share, q_late_none, q_share_late, q_share_share, q_share_none, q_none_late, q_none_share, q_none_none, Bool.not_true, Bool.not_false, Bool.false_eq_true, if_true, if_false])
local macro_rules | `(tactic| walk_at "tk") => `(tactic| (refine take_ok (by assumption) (by omega) (by omega) (by first | omega | (refine Int.lt_of_lt_of_le (b := 2 ^ 40) (by omega) (p2_le (by omega)))) fun _ _ _ _ _ _ => ?_; walk_at "wm"))
local macro_rules | `(tactic| walk_at "pk") => `(tactic| (refine pick (by assumption) (by omega) (by omega) (by simp) (by omega) fun _ _ hd _ _ => ?_; walk_at "wm"))
local macro_rules | `(tactic| walk_at "md") => `(tactic| first | assumption | exact Mod.refl | (refine Mod.trans (by assumption) ?_; walk_at "md"))
local macro_rules | `(tactic| walk_at "pt") => `(tactic| first | assumption | exact Pot.le (by assumption) (by omega))
local macro_rules | `(tactic| walk_at "sz") => `(tactic| (refine ⟨by first | omega | (rw [sizeLine_eq]; omega) | (rw [sizeLine_eq]; simp; omega), ?_⟩))
local macro_rules | `(tactic| walk_at "ex") => `(tactic| ((first | refine ⟨false, (isi_exc (by first | assumption | exact exc_app (by assumption) | exact exc_app (exc_app (by assumption))) _).trans (by decide), ?_⟩ | refine ⟨true, (isi_exc (by first | assumption | exact exc_app (by assumption) | exact exc_app (exc_app (by assumption))) _).trans (by decide), ?_⟩ | refine ⟨u_sz3, ?_⟩ | refine ⟨u_sz2, ?_⟩ | refine ⟨u_sz1, ?_⟩ | refine ⟨u_sz4, ?_⟩ | refine ⟨u_sz5, ?_⟩); walk_at "wm"))
local macro_rules | `(tactic| walk_at "nw") => `(tactic| simp only [new1, new2a, new1L, new2L, Option.some.injEq, Ob.lst.injEq, exists_eq_left', exists_eq_left, exists_eq', exists_eq, List.cons_append, List.nil_append, List.length_cons, List.length_nil, Nat.reduceAdd, Nat.zero_add, true_and])

theorem law_first_ok {k : Nat} {r : Rl} {G : Gh} {Q : QE} {E : XQ} (h : ∀ G' q, G.length ≤ q → Mod [] G G' → G'[q]? = some (.lst (fmR r).L) → Q (.ref q) G') : C (k + 1) F_law_first [r.D] G Q E := by
  refine ⟨_, rfl, rfl, ?_⟩
  unfold c_law_first
  walk_at "wm"
  have e0 : (G ++ [Ob.dct []] ++ [Ob.lst []] ++ [Ob.lst [.non, .non, .int 0]] ++ [Ob.lst [.int 0, .int 0, .int 0, .int 0]])[G.length]? = some (.dct []) := by simp
  have e1 : (G ++ [Ob.dct []] ++ [Ob.lst []] ++ [Ob.lst [.non, .non, .int 0]] ++ [Ob.lst [.int 0, .int 0, .int 0, .int 0]])[(G ++ [Ob.dct []]).length]? = some (.lst []) := by simp
  have e2 : (G ++ [Ob.dct []] ++ [Ob.lst []] ++ [Ob.lst [.non, .non, .int 0]] ++ [Ob.lst [.int 0, .int 0, .int 0, .int 0]])[(G ++ [Ob.dct []] ++ [Ob.lst []]).length]? = some (.lst [.non, .non, .int 0]) := by simp
  have e3 : (G ++ [Ob.dct []] ++ [Ob.lst []] ++ [Ob.lst [.non, .non, .int 0]] ++ [Ob.lst [.int 0, .int 0, .int 0, .int 0]])[(G ++ [Ob.dct []] ++ [Ob.lst []] ++ [Ob.lst [.non, .non, .int 0]]).length]? = some (.lst [.int 0, .int 0, .int 0, .int 0]) := by simp
  have m : Mod [] G (G ++ [Ob.dct []] ++ [Ob.lst []] ++ [Ob.lst [.non, .non, .int 0]] ++ [Ob.lst [.int 0, .int 0, .int 0, .int 0]]) := Mod.app.trans (Mod.app.trans (Mod.app.trans Mod.app))
  have l1 : (G ++ [Ob.dct []]).length = G.length + 1 := by simp
  have l2 : (G ++ [Ob.dct []] ++ [Ob.lst []]).length = G.length + 2 := by simp
  have l3 : (G ++ [Ob.dct []] ++ [Ob.lst []] ++ [Ob.lst [.non, .non, .int 0]]).length = G.length + 3 := by simp
  rw [l1] at e1 ⊢
  rw [l2] at e2 ⊢
  rw [l3] at e3 ⊢
  generalize (G ++ [Ob.dct []] ++ [Ob.lst []] ++ [Ob.lst [.non, .non, .int 0]] ++ [Ob.lst [.int 0, .int 0, .int 0, .int 0]]) = G1 at *
  have hl := (List.getElem?_eq_some_iff.mp e0).1
  refine ⟨u_sz0, u_sz3, u_sz4, e0, by decide, ?_⟩
  have m1 : ∀ o, Mod [] G (G1.set G.length o) := fun o => m.setNew (Nat.le_refl _)
  have get : ∀ (o : Ob) (j : Nat) (u : Ob), G1[G.length + (j + 1)]? = some u → (G1.set G.length o)[G.length + (j + 1)]? = some u := fun o j u e => by rw [List.getElem?_set_ne (by omega)]; exact e
  cases r with
  | non =>
    unfold Rl.D
    walk_at "wm"
    exact ⟨_, _, List.getElem?_set_self hl, rfl, h _ _ (by omega) (m1 _) (get _ 0 _ e1)⟩
  | lat m s =>
    unfold Rl.D lateR
    walk_at "wm"
    exact ⟨_, _, List.getElem?_set_self hl, rfl, h _ _ (by omega) (m1 _) (get _ 1 _ e2)⟩
  | shr m p u t =>
    unfold Rl.D shareR
    walk_at "wm"
    exact ⟨_, _, List.getElem?_set_self hl, rfl, h _ _ (by omega) (m1 _) (get _ 2 _ e3)⟩
/-- the first thing that is drawn by the late rule -/
def Rl.late : Rl → Bool
  | .lat _ _ => true
  | _ => false
theorem _root_.Wm.Mod.own {S : List Nat} {G G1 G2 : Gh} (a : Mod [] G G1) (b : Mod S G1 G2) (h : ∀ i ∈ S, G.length ≤ i) : Mod [] G G2 := ⟨Nat.le_trans a.len b.len, fun i hi hn => (b.get i (Nat.lt_of_lt_of_le hi a.len) fun z => by have := h i z; omega).trans (a.get i hi hn)⟩
local macro_rules | `(tactic| walk_at "wm") => `(tactic| try simp only [sem, env0, kwF, w_add, w_addT, w_sub, w_mul, w_mulT, w_mulL, w_addL, w_addF, w_fdiv, w_mod, w_pow, w_bor, w_shl, w_shr, w_aadd, w_aaddT, w_asub, w_abor, w_ashl, w_ashr, w_lt, w_le, w_gt, w_ge, w_is, w_isnot, w_eqI, w_neI, w_eqB, w_neB, w_eqS, w_neS, w_inT, w_ixT, w_ixL, w_at0, w_at1, w_at2, w_at3, w_at4, w_at5, w_at6, w_truB, w_truI, w_truT, w_len, w_abs, w_min, w_max, w_max3, w_sum, w_all, w_any, w_intI, w_intB, w_tuple, w_list, w_divmod, w_seqT, w_seqL, w_append, w_extend, w_extendT, w_popAt, w_index, w_store, w_slT, w_slL, isNonD, List.map_cons, List.map_nil, List.length_cons, List.length_nil, List.replicate, List.cons_append, List.nil_append, List.append_nil, List.getElem?_cons_zero, List.getElem?_cons_succ, List.set_cons_zero, List.set_cons_succ, Option.some.injEq, exists_eq_left', exists_eq_left, exists_eq', exists_eq, Nat.zero_add, Nat.reduceAdd, Nat.reduceSub, Dt.bl.injEq, Dt.int.injEq, Dt.tup.injEq, Dt.ref.injEq, if_true, if_false, Bool.false_eq_true, Bool.not_true, Bool.not_false, true_and, and_true, lenA, w_wR, w_wT, List.take_succ_cons, List.take_zero, List.drop_succ_cons, List.drop_zero, w_ex2, and_self, exists_const, reduceCtorEq, decide_eq_true_eq, wipeD])
local macro_rules | `(tactic| walk_at "wh") => `(tactic| try simp only [sem, env0, kwF, w_add, w_addT, w_sub, w_mul, w_mulT, w_mulL, w_addL, w_addF, w_fdiv, w_mod, w_pow, w_bor, w_shl, w_shr, w_aadd, w_aaddT, w_asub, w_abor, w_ashl, w_ashr, w_lt, w_le, w_gt, w_ge, w_is, w_isnot, w_eqI, w_neI, w_eqB, w_neB, w_eqS, w_neS, w_inT, w_ixT, u_ixL, w_at0, w_at1, w_at2, w_at3, w_truB, w_truI, w_truT, w_len, w_abs, w_min, w_max, w_max3, w_sum, w_all, w_any, w_intI, w_intB, w_tuple, w_list, w_divmod, w_seqT, w_seqL, w_append, w_extend, w_extendT, w_popAt, w_index, u_store, u_ixD, u_storeD, w_slT, w_slL, isNonD, List.map_cons, List.map_nil, List.length_cons, List.length_nil, List.replicate, List.cons_append, List.nil_append, List.append_nil, List.getElem?_cons_zero, List.getElem?_cons_succ, List.set_cons_zero, List.set_cons_succ, Option.some.injEq, exists_eq_left', exists_eq_left, exists_eq', exists_eq, Nat.zero_add, Nat.reduceAdd, Nat.reduceSub, Dt.bl.injEq, Dt.int.injEq, Dt.tup.injEq, Dt.ref.injEq, if_true, if_false, Bool.false_eq_true, Bool.not_true, Bool.not_false, true_and, and_true, lenA, w_wR, w_wT, List.take_succ_cons, List.take_zero, List.drop_succ_cons, List.drop_zero, w_ex2, and_self, exists_const, reduceCtorEq, decide_eq_true_eq, wipeD, u_self, u_selfG, List.set_set, List.length_set, u_ix10, u_ix20, u_ix21, u_ix30, u_ix31, u_ix32, u_ix40, u_ix41, u_ix42, u_ix43, w_at4, w_at5, w_at6, w_truN, u_sz0, u_sz1, u_sz2, u_sz3, u_sz4, u_sz5, u_sz6, u_sz7, u_sz8, Ob.lst.injEq, Ob.dct.injEq, Dt.str.injEq, not_true_eq_false, not_false_eq_true, Bool.or_false, Bool.and_true, decide_true, decide_false, ge_iff_le, gt_iff_lt, *])
local macro_rules | `(tactic| walk_at "ws") => `(tactic| simp only [q_full_full, q_full_drop, q_full_mark, q_full_come, q_full_send, q_full_bell, q_drop_full, q_drop_drop, q_drop_mark, q_drop_come, q_drop_send, q_drop_bell, q_mark_full, q_mark_drop, q_mark_mark, q_mark_come, q_mark_send, q_mark_bell, q_come_full, q_come_drop, q_come_mark, q_come_come, q_come_send, q_come_bell, q_send_full, q_send_drop, q_send_mark, q_send_come, q_send_send, q_send_bell, q_bell_full, q_bell_drop, q_bell_mark, q_bell_come, q_bell_send, q_bell_bell, q_late_late, q_late_share, q_late_none, q_share_late, q_share_share, q_share_none, q_none_late, q_none_share, q_none_none, Bool.not_true, Bool.not_false, Bool.false_eq_true, if_true, if_false])
local macro_rules | `(tactic| walk_at "tk") => `(tactic| (refine take_ok (by assumption) (by omega) (by omega) (by first | omega | (refine Int.lt_of_lt_of_le (b := 2 ^ 40) (by omega) (p2_le (by omega)))) fun _ _ _ _ _ _ => ?_; walk_at "wm"))
local macro_rules | `(tactic| walk_at "pk") => `(tactic| (refine pick (by assumption) (by omega) (by omega) (by simp) (by omega) fun _ _ hd _ _ => ?_; walk_at "wm"))
local macro_rules | `(tactic| walk_at "md") => `(tactic| first | assumption | exact Mod.refl | (refine Mod.trans (by assumption) ?_; walk_at "md"))
local macro_rules | `(tactic| walk_at "pt") => `(tactic| first | assumption | exact Pot.le (by assumption) (by omega))
local macro_rules | `(tactic| walk_at "sz") => `(tactic| (refine ⟨by first | omega | (rw [sizeLine_eq]; omega) | (rw [sizeLine_eq]; simp; omega), ?_⟩))
local macro_rules | `(tactic| walk_at "ex") => `(tactic| ((first | refine ⟨false, (isi_exc (by first | assumption | exact exc_app (by assumption) | exact exc_app (exc_app (by assumption))) _).trans (by decide), ?_⟩ | refine ⟨true, (isi_exc (by first | assumption | exact exc_app (by assumption) | exact exc_app (exc_app (by assumption))) _).trans (by decide), ?_⟩ | refine ⟨u_sz3, ?_⟩ | refine ⟨u_sz2, ?_⟩ | refine ⟨u_sz1, ?_⟩ | refine ⟨u_sz4, ?_⟩ | refine ⟨u_sz5, ?_⟩); walk_at "wm"))
local macro_rules | `(tactic| walk_at "nw") => `(tactic| simp only [new1, new2a, new1L, new2L, Option.some.injEq, Ob.lst.injEq, exists_eq_left', exists_eq_left, exists_eq', exists_eq, List.cons_append, List.nil_append, List.length_cons, List.length_nil, Nat.reduceAdd, Nat.zero_add, true_and])

structure Ln where
  cr : Int
  ps : List Pc
  x : Mm
def Ln.D (l : Ln) : Dt := lnD l.cr l.ps l.x
structure Sd where
  bud : Int
  beg : Bool
  ring : List Nat
  lanes : List Ln
abbrev nats (r : List Nat) : List Dt := r.map fun (i : Nat) => Dt.int (i : Int)
def Sd.D (s : Sd) : Dt := .tup [.int s.bud, .bl s.beg, .tup (nats s.ring), .tup (s.lanes.map Ln.D)]
def ln (L : List Ln) (i : Nat) : Ln := (L[i]?).getD ⟨0, [], .non⟩
abbrev ssD (ss : List St) : Dt := .tup (ss.map St.D)
local macro_rules | `(tactic| walk_at "wm") => `(tactic| try simp only [sem, env0, kwF, w_add, w_addT, w_sub, w_mul, w_mulT, w_mulL, w_addL, w_addF, w_fdiv, w_mod, w_pow, w_bor, w_shl, w_shr, w_aadd, w_aaddT, w_asub, w_abor, w_ashl, w_ashr, w_lt, w_le, w_gt, w_ge, w_is, w_isnot, w_eqI, w_neI, w_eqB, w_neB, w_eqS, w_neS, w_inT, w_ixT, w_ixL, w_at0, w_at1, w_at2, w_at3, w_at4, w_at5, w_at6, w_truB, w_truI, w_truT, w_len, w_abs, w_min, w_max, w_max3, w_sum, w_all, w_any, w_intI, w_intB, w_tuple, w_list, w_divmod, w_seqT, w_seqL, w_append, w_extend, w_extendT, w_popAt, w_index, w_store, w_slT, w_slL, isNonD, List.map_cons, List.map_nil, List.length_cons, List.length_nil, List.replicate, List.cons_append, List.nil_append, List.append_nil, List.getElem?_cons_zero, List.getElem?_cons_succ, List.set_cons_zero, List.set_cons_succ, Option.some.injEq, exists_eq_left', exists_eq_left, exists_eq', exists_eq, Nat.zero_add, Nat.reduceAdd, Nat.reduceSub, Dt.bl.injEq, Dt.int.injEq, Dt.tup.injEq, Dt.ref.injEq, if_true, if_false, Bool.false_eq_true, Bool.not_true, Bool.not_false, true_and, and_true, lenA, w_wR, w_wT, List.take_succ_cons, List.take_zero, List.drop_succ_cons, List.drop_zero, w_ex2, and_self, exists_const, reduceCtorEq, decide_eq_true_eq, wipeD])
local macro_rules | `(tactic| walk_at "wh") => `(tactic| try simp only [sem, env0, kwF, w_add, w_addT, w_sub, w_mul, w_mulT, w_mulL, w_addL, w_addF, w_fdiv, w_mod, w_pow, w_bor, w_shl, w_shr, w_aadd, w_aaddT, w_asub, w_abor, w_ashl, w_ashr, w_lt, w_le, w_gt, w_ge, w_is, w_isnot, w_eqI, w_neI, w_eqB, w_neB, w_eqS, w_neS, w_inT, w_ixT, u_ixL, w_at0, w_at1, w_at2, w_at3, w_truB, w_truI, w_truT, w_len, w_abs, w_min, w_max, w_max3, w_sum, w_all, w_any, w_intI, w_intB, w_tuple, w_list, w_divmod, w_seqT, w_seqL, w_append, w_extend, w_extendT, w_popAt, w_index, u_store, u_ixD, u_storeD, w_slT, w_slL, isNonD, List.map_cons, List.map_nil, List.length_cons, List.length_nil, List.replicate, List.cons_append, List.nil_append, List.append_nil, List.getElem?_cons_zero, List.getElem?_cons_succ, List.set_cons_zero, List.set_cons_succ, Option.some.injEq, exists_eq_left', exists_eq_left, exists_eq', exists_eq, Nat.zero_add, Nat.reduceAdd, Nat.reduceSub, Dt.bl.injEq, Dt.int.injEq, Dt.tup.injEq, Dt.ref.injEq, if_true, if_false, Bool.false_eq_true, Bool.not_true, Bool.not_false, true_and, and_true, lenA, w_wR, w_wT, List.take_succ_cons, List.take_zero, List.drop_succ_cons, List.drop_zero, w_ex2, and_self, exists_const, reduceCtorEq, decide_eq_true_eq, wipeD, u_self, u_selfG, List.set_set, List.length_set, u_ix10, u_ix20, u_ix21, u_ix30, u_ix31, u_ix32, u_ix40, u_ix41, u_ix42, u_ix43, w_at4, w_at5, w_at6, w_truN, u_sz0, u_sz1, u_sz2, u_sz3, u_sz4, u_sz5, u_sz6, u_sz7, u_sz8, Ob.lst.injEq, Ob.dct.injEq, Dt.str.injEq, not_true_eq_false, not_false_eq_true, Bool.or_false, Bool.and_true, decide_true, decide_false, ge_iff_le, gt_iff_lt, *])
local macro_rules | `(tactic| walk_at "ws") => `(tactic| simp only [q_full_full, q_full_drop, q_full_mark, q_full_come, q_full_send, q_full_bell, q_drop_full, q_drop_drop, q_drop_mark, q_drop_come, q_drop_send, q_drop_bell, q_mark_full, q_mark_drop, q_mark_mark, q_mark_come, q_mark_send, q_mark_bell, q_come_full, q_come_drop, q_come_mark, q_come_come, q_come_send, q_come_bell, q_send_full, q_send_drop, q_send_mark, q_send_come, q_send_send, q_send_bell, q_bell_full, q_bell_drop, q_bell_mark, q_bell_come, q_bell_send, q_bell_bell, q_late_late, q_late_share, q_late_none, q_share_late, q_share_share, q_share_none, q_none_late, q_none_share, q_none_none, Bool.not_true, Bool.not_false, Bool.false_eq_true, if_true, if_false])
local macro_rules | `(tactic| walk_at "tk") => `(tactic| (refine take_ok (by assumption) (by omega) (by omega) (by first | omega | (refine Int.lt_of_lt_of_le (b := 2 ^ 40) (by omega) (p2_le (by omega)))) fun _ _ _ _ _ _ => ?_; walk_at "wm"))
local macro_rules | `(tactic| walk_at "pk") => `(tactic| (refine pick (by assumption) (by omega) (by omega) (by simp) (by omega) fun _ _ hd _ _ => ?_; walk_at "wm"))
local macro_rules | `(tactic| walk_at "md") => `(tactic| first | assumption | exact Mod.refl | (refine Mod.trans (by assumption) ?_; walk_at "md"))
local macro_rules | `(tactic| walk_at "pt") => `(tactic| first | assumption | exact Pot.le (by assumption) (by omega))
local macro_rules | `(tactic| walk_at "sz") => `(tactic| (refine ⟨by first | omega | (rw [sizeLine_eq]; omega) | (rw [sizeLine_eq]; simp; omega), ?_⟩))
local macro_rules | `(tactic| walk_at "ex") => `(tactic| ((first | refine ⟨false, (isi_exc (by first | assumption | exact exc_app (by assumption) | exact exc_app (exc_app (by assumption))) _).trans (by decide), ?_⟩ | refine ⟨true, (isi_exc (by first | assumption | exact exc_app (by assumption) | exact exc_app (exc_app (by assumption))) _).trans (by decide), ?_⟩ | refine ⟨u_sz3, ?_⟩ | refine ⟨u_sz2, ?_⟩ | refine ⟨u_sz1, ?_⟩ | refine ⟨u_sz4, ?_⟩ | refine ⟨u_sz5, ?_⟩); walk_at "wm"))
local macro_rules | `(tactic| walk_at "nw") => `(tactic| simp only [new1, new2a, new1L, new2L, Option.some.injEq, Ob.lst.injEq, exists_eq_left', exists_eq_left, exists_eq', exists_eq, List.cons_append, List.nil_append, List.length_cons, List.length_nil, Nat.reduceAdd, Nat.zero_add, true_and])

structure Rw where
  w : Str
  at_ : Nat
  z : Int
  wt : Int
def Rw.D (r : Rw) : Dt := .tup [.str r.w, .int r.at_, .int r.z, .int r.wt]
structure Sv where
  bud : Int
  beg : Bool
  ring : List Nat
  lanes : List Ln
  rows : List Rw
theorem ln_set {L : List Ln} {i j : Nat} {l : Ln} (h : i < L.length) : ln (L.set i l) j = if i = j then l else ln L j := by
  unfold ln
  by_cases e : i = j
  · subst e
    rw [List.getElem?_set_self h, if_pos rfl]
    rfl
  · rw [List.getElem?_set_ne e, if_neg e]
local macro_rules | `(tactic| walk_at "wm") => `(tactic| try simp only [sem, env0, kwF, w_add, w_addT, w_sub, w_mul, w_mulT, w_mulL, w_addL, w_addF, w_fdiv, w_mod, w_pow, w_bor, w_shl, w_shr, w_aadd, w_aaddT, w_asub, w_abor, w_ashl, w_ashr, w_lt, w_le, w_gt, w_ge, w_is, w_isnot, w_eqI, w_neI, w_eqB, w_neB, w_eqS, w_neS, w_inT, w_ixT, w_ixL, w_at0, w_at1, w_at2, w_at3, w_at4, w_at5, w_at6, w_truB, w_truI, w_truT, w_len, w_abs, w_min, w_max, w_max3, w_sum, w_all, w_any, w_intI, w_intB, w_tuple, w_list, w_divmod, w_seqT, w_seqL, w_append, w_extend, w_extendT, w_popAt, w_index, w_store, w_slT, w_slL, isNonD, List.map_cons, List.map_nil, List.length_cons, List.length_nil, List.replicate, List.cons_append, List.nil_append, List.append_nil, List.getElem?_cons_zero, List.getElem?_cons_succ, List.set_cons_zero, List.set_cons_succ, Option.some.injEq, exists_eq_left', exists_eq_left, exists_eq', exists_eq, Nat.zero_add, Nat.reduceAdd, Nat.reduceSub, Dt.bl.injEq, Dt.int.injEq, Dt.tup.injEq, Dt.ref.injEq, if_true, if_false, Bool.false_eq_true, Bool.not_true, Bool.not_false, true_and, and_true, lenA, w_wR, w_wT, List.take_succ_cons, List.take_zero, List.drop_succ_cons, List.drop_zero, w_ex2, and_self, exists_const, reduceCtorEq, decide_eq_true_eq, wipeD])
local macro_rules | `(tactic| walk_at "wh") => `(tactic| try simp only [sem, env0, kwF, w_add, w_addT, w_sub, w_mul, w_mulT, w_mulL, w_addL, w_addF, w_fdiv, w_mod, w_pow, w_bor, w_shl, w_shr, w_aadd, w_aaddT, w_asub, w_abor, w_ashl, w_ashr, w_lt, w_le, w_gt, w_ge, w_is, w_isnot, w_eqI, w_neI, w_eqB, w_neB, w_eqS, w_neS, w_inT, w_ixT, u_ixL, w_at0, w_at1, w_at2, w_at3, w_truB, w_truI, w_truT, w_len, w_abs, w_min, w_max, w_max3, w_sum, w_all, w_any, w_intI, w_intB, w_tuple, w_list, w_divmod, w_seqT, w_seqL, w_append, w_extend, w_extendT, w_popAt, w_index, u_store, u_ixD, u_storeD, w_slT, w_slL, isNonD, List.map_cons, List.map_nil, List.length_cons, List.length_nil, List.replicate, List.cons_append, List.nil_append, List.append_nil, List.getElem?_cons_zero, List.getElem?_cons_succ, List.set_cons_zero, List.set_cons_succ, Option.some.injEq, exists_eq_left', exists_eq_left, exists_eq', exists_eq, Nat.zero_add, Nat.reduceAdd, Nat.reduceSub, Dt.bl.injEq, Dt.int.injEq, Dt.tup.injEq, Dt.ref.injEq, if_true, if_false, Bool.false_eq_true, Bool.not_true, Bool.not_false, true_and, and_true, lenA, w_wR, w_wT, List.take_succ_cons, List.take_zero, List.drop_succ_cons, List.drop_zero, w_ex2, and_self, exists_const, reduceCtorEq, decide_eq_true_eq, wipeD, u_self, u_selfG, List.set_set, List.length_set, u_ix10, u_ix20, u_ix21, u_ix30, u_ix31, u_ix32, u_ix40, u_ix41, u_ix42, u_ix43, w_at4, w_at5, w_at6, w_truN, u_sz0, u_sz1, u_sz2, u_sz3, u_sz4, u_sz5, u_sz6, u_sz7, u_sz8, Ob.lst.injEq, Ob.dct.injEq, Dt.str.injEq, not_true_eq_false, not_false_eq_true, Bool.or_false, Bool.and_true, decide_true, decide_false, ge_iff_le, gt_iff_lt, *])
local macro_rules | `(tactic| walk_at "ws") => `(tactic| simp only [q_full_full, q_full_drop, q_full_mark, q_full_come, q_full_send, q_full_bell, q_drop_full, q_drop_drop, q_drop_mark, q_drop_come, q_drop_send, q_drop_bell, q_mark_full, q_mark_drop, q_mark_mark, q_mark_come, q_mark_send, q_mark_bell, q_come_full, q_come_drop, q_come_mark, q_come_come, q_come_send, q_come_bell, q_send_full, q_send_drop, q_send_mark, q_send_come, q_send_send, q_send_bell, q_bell_full, q_bell_drop, q_bell_mark, q_bell_come, q_bell_send, q_bell_bell, q_late_late, q_late_share, q_late_none, q_share_late, q_share_share, q_share_none, q_none_late, q_none_share, q_none_none, Bool.not_true, Bool.not_false, Bool.false_eq_true, if_true, if_false])
local macro_rules | `(tactic| walk_at "tk") => `(tactic| (refine take_ok (by assumption) (by omega) (by omega) (by first | omega | (refine Int.lt_of_lt_of_le (b := 2 ^ 40) (by omega) (p2_le (by omega)))) fun _ _ _ _ _ _ => ?_; walk_at "wm"))
local macro_rules | `(tactic| walk_at "pk") => `(tactic| (refine pick (by assumption) (by omega) (by omega) (by simp) (by omega) fun _ _ hd _ _ => ?_; walk_at "wm"))
local macro_rules | `(tactic| walk_at "md") => `(tactic| first | assumption | exact Mod.refl | (refine Mod.trans (by assumption) ?_; walk_at "md"))
local macro_rules | `(tactic| walk_at "pt") => `(tactic| first | assumption | exact Pot.le (by assumption) (by omega))
local macro_rules | `(tactic| walk_at "sz") => `(tactic| (refine ⟨by first | omega | (rw [sizeLine_eq]; omega) | (rw [sizeLine_eq]; simp; omega), ?_⟩))
local macro_rules | `(tactic| walk_at "ex") => `(tactic| ((first | refine ⟨false, (isi_exc (by first | assumption | exact exc_app (by assumption) | exact exc_app (exc_app (by assumption))) _).trans (by decide), ?_⟩ | refine ⟨true, (isi_exc (by first | assumption | exact exc_app (by assumption) | exact exc_app (exc_app (by assumption))) _).trans (by decide), ?_⟩ | refine ⟨u_sz3, ?_⟩ | refine ⟨u_sz2, ?_⟩ | refine ⟨u_sz1, ?_⟩ | refine ⟨u_sz4, ?_⟩ | refine ⟨u_sz5, ?_⟩); walk_at "wm"))
local macro_rules | `(tactic| walk_at "nw") => `(tactic| simp only [new1, new2a, new1L, new2L, Option.some.injEq, Ob.lst.injEq, exists_eq_left', exists_eq_left, exists_eq', exists_eq, List.cons_append, List.nil_append, List.length_cons, List.length_nil, Nat.reduceAdd, Nat.zero_add, true_and])

abbrev svI (ss : List St) (b : Int) (g : Bool) (qr ql qw : Nat) : Ob := .ins 21 [("own_streams", ssD ss), ("own_budget", .int b), ("own_begun", .bl g), ("own_ring", .ref qr), ("own_lanes", .ref ql), ("own_rows", .ref qw)]
structure SvR (G0 G : Gh) (q qr ql qw : Nat) (ss : List St) (v : Sv) : Prop where
  m : Mod [] G0 G
  n0 : G0.length ≤ q
  n1 : G0.length ≤ qr
  n2 : G0.length ≤ ql
  n3 : G0.length ≤ qw
  d1 : q ≠ qr
  d2 : q ≠ ql
  d3 : q ≠ qw
  d4 : qr ≠ ql
  d5 : qr ≠ qw
  d6 : ql ≠ qw
  o : G[q]? = some (svI ss v.bud v.beg qr ql qw)
  r : G[qr]? = some (.lst (nats v.ring))
  l : G[ql]? = some (.lst (v.lanes.map Ln.D))
  w : G[qw]? = some (.lst (v.rows.map Rw.D))
section
variable {G0 G G' : Gh} {q qr ql qw : Nat} {ss : List St} {v : Sv}
theorem SvR.mv (h : SvR G0 G q qr ql qw ss v) (m : Mod [] G G') : SvR G0 G' q qr ql qw ss v := ⟨h.m.trans m, h.n0, h.n1, h.n2, h.n3, h.d1, h.d2, h.d3, h.d4, h.d5, h.d6, m.at h.o (by simp), m.at h.r (by simp), m.at h.l (by simp), m.at h.w (by simp)⟩
theorem SvR.setO (h : SvR G0 G q qr ql qw ss v) (b : Int) (g : Bool) : SvR G0 (G.set q (svI ss b g qr ql qw)) q qr ql qw ss { v with bud := b, beg := g } :=
  ⟨h.m.setNew h.n0, h.n0, h.n1, h.n2, h.n3, h.d1, h.d2, h.d3, h.d4, h.d5, h.d6, List.getElem?_set_self (List.getElem?_eq_some_iff.mp h.o).1, by rw [List.getElem?_set_ne h.d1]; exact h.r, by rw [List.getElem?_set_ne h.d2]; exact h.l, by rw [List.getElem?_set_ne h.d3]; exact h.w⟩
theorem SvR.setL (h : SvR G0 G q qr ql qw ss v) (L : List Ln) : SvR G0 (G.set ql (.lst (L.map Ln.D))) q qr ql qw ss { v with lanes := L } :=
  ⟨h.m.setNew h.n2, h.n0, h.n1, h.n2, h.n3, h.d1, h.d2, h.d3, h.d4, h.d5, h.d6, by rw [List.getElem?_set_ne (Ne.symm h.d2)]; exact h.o, by rw [List.getElem?_set_ne (Ne.symm h.d4)]; exact h.r, List.getElem?_set_self (List.getElem?_eq_some_iff.mp h.l).1, by rw [List.getElem?_set_ne h.d6]; exact h.w⟩
theorem SvR.setW (h : SvR G0 G q qr ql qw ss v) (R : List Rw) : SvR G0 (G.set qw (.lst (R.map Rw.D))) q qr ql qw ss { v with rows := R } :=
  ⟨h.m.setNew h.n3, h.n0, h.n1, h.n2, h.n3, h.d1, h.d2, h.d3, h.d4, h.d5, h.d6, by rw [List.getElem?_set_ne (Ne.symm h.d3)]; exact h.o, by rw [List.getElem?_set_ne (Ne.symm h.d5)]; exact h.r, by rw [List.getElem?_set_ne (Ne.symm h.d6)]; exact h.l, List.getElem?_set_self (List.getElem?_eq_some_iff.mp h.w).1⟩
/-- the ring in a new list -/
theorem SvR.newR (h : SvR G0 G q qr ql qw ss v) (p : Nat) (R : List Nat) (g : Bool) (n1 : G0.length ≤ p) (d1 : q ≠ p) (d4 : p ≠ ql) (d5 : p ≠ qw) (hp : G[p]? = some (.lst (nats R))) : SvR G0 (G.set q (svI ss v.bud g p ql qw)) q p ql qw ss { v with ring := R, beg := g } :=
  ⟨h.m.setNew h.n0, h.n0, n1, h.n2, h.n3, d1, h.d2, h.d3, d4, d5, h.d6, List.getElem?_set_self (List.getElem?_eq_some_iff.mp h.o).1, by rw [List.getElem?_set_ne d1]; exact hp, by rw [List.getElem?_set_ne h.d2]; exact h.l, by rw [List.getElem?_set_ne h.d3]; exact h.w⟩
end
local macro_rules | `(tactic| walk_at "wm") => `(tactic| try simp only [sem, env0, kwF, w_add, w_addT, w_sub, w_mul, w_mulT, w_mulL, w_addL, w_addF, w_fdiv, w_mod, w_pow, w_bor, w_shl, w_shr, w_aadd, w_aaddT, w_asub, w_abor, w_ashl, w_ashr, w_lt, w_le, w_gt, w_ge, w_is, w_isnot, w_eqI, w_neI, w_eqB, w_neB, w_eqS, w_neS, w_inT, w_ixT, w_ixL, w_at0, w_at1, w_at2, w_at3, w_at4, w_at5, w_at6, w_truB, w_truI, w_truT, w_len, w_abs, w_min, w_max, w_max3, w_sum, w_all, w_any, w_intI, w_intB, w_tuple, w_list, w_divmod, w_seqT, w_seqL, w_append, w_extend, w_extendT, w_popAt, w_index, w_store, w_slT, w_slL, isNonD, List.map_cons, List.map_nil, List.length_cons, List.length_nil, List.replicate, List.cons_append, List.nil_append, List.append_nil, List.getElem?_cons_zero, List.getElem?_cons_succ, List.set_cons_zero, List.set_cons_succ, Option.some.injEq, exists_eq_left', exists_eq_left, exists_eq', exists_eq, Nat.zero_add, Nat.reduceAdd, Nat.reduceSub, Dt.bl.injEq, Dt.int.injEq, Dt.tup.injEq, Dt.ref.injEq, if_true, if_false, Bool.false_eq_true, Bool.not_true, Bool.not_false, true_and, and_true, lenA, w_wR, w_wT, List.take_succ_cons, List.take_zero, List.drop_succ_cons, List.drop_zero, w_ex2, and_self, exists_const, reduceCtorEq, decide_eq_true_eq, wipeD])
local macro_rules | `(tactic| walk_at "wh") => `(tactic| try simp only [sem, env0, kwF, w_add, w_addT, w_sub, w_mul, w_mulT, w_mulL, w_addL, w_addF, w_fdiv, w_mod, w_pow, w_bor, w_shl, w_shr, w_aadd, w_aaddT, w_asub, w_abor, w_ashl, w_ashr, w_lt, w_le, w_gt, w_ge, w_is, w_isnot, w_eqI, w_neI, w_eqB, w_neB, w_eqS, w_neS, w_inT, w_ixT, u_ixL, w_at0, w_at1, w_at2, w_at3, w_truB, w_truI, w_truT, w_len, w_abs, w_min, w_max, w_max3, w_sum, w_all, w_any, w_intI, w_intB, w_tuple, w_list, w_divmod, w_seqT, w_seqL, w_append, w_extend, w_extendT, w_popAt, w_index, u_store, u_ixD, u_storeD, w_slT, w_slL, isNonD, List.map_cons, List.map_nil, List.length_cons, List.length_nil, List.replicate, List.cons_append, List.nil_append, List.append_nil, List.getElem?_cons_zero, List.getElem?_cons_succ, List.set_cons_zero, List.set_cons_succ, Option.some.injEq, exists_eq_left', exists_eq_left, exists_eq', exists_eq, Nat.zero_add, Nat.reduceAdd, Nat.reduceSub, Dt.bl.injEq, Dt.int.injEq, Dt.tup.injEq, Dt.ref.injEq, if_true, if_false, Bool.false_eq_true, Bool.not_true, Bool.not_false, true_and, and_true, lenA, w_wR, w_wT, List.take_succ_cons, List.take_zero, List.drop_succ_cons, List.drop_zero, w_ex2, and_self, exists_const, reduceCtorEq, decide_eq_true_eq, wipeD, u_self, u_selfG, List.set_set, List.length_set, u_ix10, u_ix20, u_ix21, u_ix30, u_ix31, u_ix32, u_ix40, u_ix41, u_ix42, u_ix43, w_at4, w_at5, w_at6, w_truN, u_sz0, u_sz1, u_sz2, u_sz3, u_sz4, u_sz5, u_sz6, u_sz7, u_sz8, Ob.lst.injEq, Ob.dct.injEq, Dt.str.injEq, not_true_eq_false, not_false_eq_true, Bool.or_false, Bool.and_true, decide_true, decide_false, ge_iff_le, gt_iff_lt, *])
local macro_rules | `(tactic| walk_at "ws") => `(tactic| simp only [q_full_full, q_full_drop, q_full_mark, q_full_come, q_full_send, q_full_bell, q_drop_full, q_drop_drop, q_drop_mark, q_drop_come, q_drop_send, q_drop_bell, q_mark_full, q_mark_drop, q_mark_mark, q_mark_come, q_mark_send, q_mark_bell, q_come_full, q_come_drop, q_come_mark, q_come_come, q_come_send, q_come_bell, q_send_full, q_send_drop, q_send_mark, q_send_come, q_send_send, q_send_bell, q_bell_full, q_bell_drop, q_bell_mark, q_bell_come, q_bell_send, q_bell_bell, q_late_late, q_late_share, q_late_none, q_share_late, q_share_share, q_share_none, q_none_late, q_none_share, q_none_none, Bool.not_true, Bool.not_false, Bool.false_eq_true, if_true, if_false])
local macro_rules | `(tactic| walk_at "tk") => `(tactic| (refine take_ok (by assumption) (by omega) (by omega) (by first | omega | (refine Int.lt_of_lt_of_le (b := 2 ^ 40) (by omega) (p2_le (by omega)))) fun _ _ _ _ _ _ => ?_; walk_at "wm"))
local macro_rules | `(tactic| walk_at "pk") => `(tactic| (refine pick (by assumption) (by omega) (by omega) (by simp) (by omega) fun _ _ hd _ _ => ?_; walk_at "wm"))
local macro_rules | `(tactic| walk_at "md") => `(tactic| first | assumption | exact Mod.refl | (refine Mod.trans (by assumption) ?_; walk_at "md"))
local macro_rules | `(tactic| walk_at "pt") => `(tactic| first | assumption | exact Pot.le (by assumption) (by omega))
local macro_rules | `(tactic| walk_at "sz") => `(tactic| (refine ⟨by first | omega | (rw [sizeLine_eq]; omega) | (rw [sizeLine_eq]; simp; omega), ?_⟩))
local macro_rules | `(tactic| walk_at "ex") => `(tactic| ((first | refine ⟨false, (isi_exc (by first | assumption | exact exc_app (by assumption) | exact exc_app (exc_app (by assumption))) _).trans (by decide), ?_⟩ | refine ⟨true, (isi_exc (by first | assumption | exact exc_app (by assumption) | exact exc_app (exc_app (by assumption))) _).trans (by decide), ?_⟩ | refine ⟨u_sz3, ?_⟩ | refine ⟨u_sz2, ?_⟩ | refine ⟨u_sz1, ?_⟩ | refine ⟨u_sz4, ?_⟩ | refine ⟨u_sz5, ?_⟩); walk_at "wm"))
local macro_rules | `(tactic| walk_at "nw") => `(tactic| simp only [new1, new2a, new1L, new2L, Option.some.injEq, Ob.lst.injEq, exists_eq_left', exists_eq_left, exists_eq', exists_eq, List.cons_append, List.nil_append, List.length_cons, List.length_nil, Nat.reduceAdd, Nat.zero_add, true_and])

def Pc.L (p : Pc) : List Dt := [.int p.z, .bl p.can, .bl p.mrk, .int p.w]
structure La where
  d : Nat
  p : Nat
  m : Nat
  qs : List Nat
def La.fp (a : La) : List Nat := a.d :: a.p :: a.m :: a.qs
def la (as : List La) (i : Nat) : La := (as[i]?).getD ⟨0, 0, 0, []⟩
abbrev lineO (rate b : Int) (g : Bool) (qr ql : Nat) : Ob := .dct [(.inr "often", .int rate), (.inr "budget", .int b), (.inr "begun", .bl g), (.inr "ring", .ref qr), (.inr "lanes", .ref ql)]
abbrev laneO (cr : Int) (p m : Nat) : Ob := .dct [(.inr "credit", .int cr), (.inr "pieces", .ref p), (.inr "memory", .ref m)]
structure LaR (G : Gh) (a : La) (l : Ln) : Prop where
  d : G[a.d]? = some (laneO l.cr a.p a.m)
  p : G[a.p]? = some (.lst (a.qs.map .ref))
  m : G[a.m]? = some (.lst l.x.L)
  n : a.qs.length = l.ps.length
  q : ∀ (j x : Nat) (c : Pc), a.qs[j]? = some x → l.ps[j]? = some c → G[x]? = some (.lst c.L)
theorem LaR.mv {G G' : Gh} {S : List Nat} {a : La} {l : Ln} (h : LaR G a l) (m : Mod S G G') (hS : ∀ x ∈ a.fp, x ∉ S) : LaR G' a l :=
  ⟨m.at h.d (hS _ (by simp [La.fp])), m.at h.p (hS _ (by simp [La.fp])), m.at h.m (hS _ (by simp [La.fp])), h.n, fun j x c e1 e2 => m.at (h.q j x c e1 e2) (hS _ (by simp [La.fp, List.mem_of_getElem? e1]))⟩
theorem LaR.lt {G : Gh} {a : La} {l : Ln} (h : LaR G a l) : ∀ x ∈ a.fp, x < G.length := fun x hx => by
  have key : ∀ {o : Ob} {n : Nat}, G[n]? = some o → n < G.length := fun e => (List.getElem?_eq_some_iff.mp e).1
  simp only [La.fp, List.mem_cons] at hx
  rcases hx with rfl | rfl | rfl | hx
  · exact key h.d
  · exact key h.p
  · exact key h.m
  · obtain ⟨j, hj⟩ := List.mem_iff_getElem?.mp hx
    have hl := (List.getElem?_eq_some_iff.mp hj).1
    exact key (h.q j x _ hj (List.getElem?_eq_getElem (by rw [← h.n]; exact hl)))
/-- which cells a line has -/
def InL (q qr ql : Nat) (as : List La) (x : Nat) : Prop := x = q ∨ x = qr ∨ x = ql ∨ ∃ i, i < as.length ∧ x ∈ (la as i).fp
structure LnR (G : Gh) (L0 q qr ql : Nat) (rate : Int) (as : List La) (s : Sd) : Prop where
  o : G[q]? = some (lineO rate s.bud s.beg qr ql)
  r : G[qr]? = some (.lst (nats s.ring))
  l : G[ql]? = some (.lst (as.map fun a => .ref a.d))
  n : as.length = s.lanes.length
  la : ∀ i, i < as.length → LaR G (la as i) (ln s.lanes i)
  t1 : q ≠ qr
  t2 : q ≠ ql
  t3 : qr ≠ ql
  tt : ∀ i, i < as.length → q ∉ (Wm.la as i).fp ∧ qr ∉ (Wm.la as i).fp ∧ ql ∉ (Wm.la as i).fp
  own : ∀ i, i < as.length → (Wm.la as i).fp.Nodup
  dis : ∀ i j, i < as.length → j < as.length → i ≠ j → ∀ x ∈ (Wm.la as i).fp, x ∉ (Wm.la as j).fp
  new : ∀ x, InL q qr ql as x → L0 ≤ x
theorem LnR.lt {G : Gh} {L0 q qr ql : Nat} {rate : Int} {as : List La} {s : Sd} (h : LnR G L0 q qr ql rate as s) : ∀ x, InL q qr ql as x → x < G.length := fun x hx => by
  rcases hx with rfl | rfl | rfl | ⟨i, hi, hx⟩
  · exact (List.getElem?_eq_some_iff.mp h.o).1
  · exact (List.getElem?_eq_some_iff.mp h.r).1
  · exact (List.getElem?_eq_some_iff.mp h.l).1
  · exact (h.la i hi).lt x hx
theorem LnR.mv {G G' : Gh} {S : List Nat} {L0 q qr ql : Nat} {rate : Int} {as : List La} {s : Sd} (h : LnR G L0 q qr ql rate as s) (m : Mod S G G') (hS : ∀ x, InL q qr ql as x → x ∉ S) : LnR G' L0 q qr ql rate as s :=
  ⟨m.at h.o (hS _ (.inl rfl)), m.at h.r (hS _ (.inr (.inl rfl))), m.at h.l (hS _ (.inr (.inr (.inl rfl)))), h.n, fun i hi => (h.la i hi).mv m fun x hx => hS x (.inr (.inr (.inr ⟨i, hi, hx⟩))), h.t1, h.t2, h.t3, h.tt, h.own, h.dis, h.new⟩
/-- a line under way: what it has changed since G0 -/
structure LnI (G0 G : Gh) (P : Nat → Prop) (L0 q qr ql : Nat) (rate : Int) (as : List La) (s : Sd) : Prop where
  R : LnR G L0 q qr ql rate as s
  len : G0.length ≤ G.length
  keep : ∀ i, i < G0.length → ¬ P i → G[i]? = G0[i]?
  sub : ∀ x, InL q qr ql as x → P x ∨ G0.length ≤ x
  l0 : L0 ≤ G0.length
section
variable {G0 G G' : Gh} {P : Nat → Prop} {L0 q qr ql : Nat} {rate : Int} {as : List La} {s : Sd}
theorem la_at (hi : i < as.length) : as[i]? = some (la as i) := by
  unfold la
  rw [List.getElem?_eq_getElem hi]
  rfl
theorem la_set {a : La} {i j : Nat} (h : i < as.length) : la (as.set i a) j = if i = j then a else la as j := by
  unfold la
  by_cases e : i = j
  · subst e
    rw [List.getElem?_set_self h, if_pos rfl]
    rfl
  · rw [List.getElem?_set_ne e, if_neg e]
/-- nothing of the line is touched -/
theorem LnI.mv (h : LnI G0 G P L0 q qr ql rate as s) (m : Mod [] G G') : LnI G0 G' P L0 q qr ql rate as s :=
  ⟨h.R.mv m (fun x _ => by simp), Nat.le_trans h.len m.len, fun i hi hp => (m.get i (Nat.lt_of_lt_of_le hi h.len) (by simp)).trans (h.keep i hi hp), h.sub, h.l0⟩
/-- one lane is changed -/
theorem LnI.lane (h : LnI G0 G P L0 q qr ql rate as s) {S : List Nat} {i : Nat} {a : La} {l : Ln} (hi : i < as.length) (m : Mod S G G') (hS : ∀ x ∈ S, x ∈ (la as i).fp) (hd : a.d = (la as i).d) (hf : ∀ x ∈ a.fp, x ∈ (la as i).fp ∨ G.length ≤ x) (hn : a.fp.Nodup) (hr : LaR G' a l) :
    LnI G0 G' P L0 q qr ql rate (as.set i a) { s with lanes := s.lanes.set i l } := by
  have R := h.R
  have hil : i < s.lanes.length := by rw [← R.n]; exact hi
  have l0 := h.l0
  have hlen := h.len
  have inS : ∀ x ∈ S, InL q qr ql as x := fun x hx => .inr (.inr (.inr ⟨i, hi, hS x hx⟩))
  have top : q ∉ S ∧ qr ∉ S ∧ ql ∉ S := ⟨fun z => (R.tt i hi).1 (hS _ z), fun z => (R.tt i hi).2.1 (hS _ z), fun z => (R.tt i hi).2.2 (hS _ z)⟩
  have inN : ∀ x, InL q qr ql (as.set i a) x → InL q qr ql as x ∨ G.length ≤ x := fun x hx => by
    rcases hx with rfl | rfl | rfl | ⟨j, hj, hx⟩
    · exact .inl (.inl rfl)
    · exact .inl (.inr (.inl rfl))
    · exact .inl (.inr (.inr (.inl rfl)))
    · rw [List.length_set] at hj
      rw [la_set hi] at hx
      by_cases e : i = j
      · subst e
        rw [if_pos rfl] at hx
        rcases hf x hx with z | z
        · exact .inl (.inr (.inr (.inr ⟨i, hi, z⟩)))
        · exact .inr z
      · rw [if_neg e] at hx
        exact .inl (.inr (.inr (.inr ⟨j, hj, hx⟩)))
  have ltop : q < G.length ∧ qr < G.length ∧ ql < G.length := ⟨R.lt _ (.inl rfl), R.lt _ (.inr (.inl rfl)), R.lt _ (.inr (.inr (.inl rfl)))⟩
  have anew : ∀ x ∈ a.fp, x ≠ q ∧ x ≠ qr ∧ x ≠ ql := fun x hx => by
    rcases hf x hx with z | z
    · exact ⟨fun e => (R.tt i hi).1 (e ▸ z), fun e => (R.tt i hi).2.1 (e ▸ z), fun e => (R.tt i hi).2.2 (e ▸ z)⟩
    · exact ⟨by omega, by omega, by omega⟩
  refine ⟨⟨m.at R.o top.1, m.at R.r top.2.1, ?_, ?_, fun j hj => ?_, R.t1, R.t2, R.t3, fun j hj => ?_, fun j hj => ?_, fun j k hj hk hjk x hx => ?_, fun x hx => ?_⟩, Nat.le_trans h.len m.len, fun j hj hp => ?_, fun x hx => ?_, h.l0⟩
  · have : (as.set i a).map (fun a => Dt.ref a.d) = as.map fun a => Dt.ref a.d := by
      rw [List.map_set, hd]
      apply List.ext_getElem?
      intro j
      by_cases e : i = j
      · subst e
        rw [List.getElem?_set_self (by simpa using hi), List.getElem?_map, la_at hi]
        rfl
      · rw [List.getElem?_set_ne e]
    rw [this]
    exact m.at R.l top.2.2
  · rw [List.length_set, R.n]
    show _ = (s.lanes.set i l).length
    rw [List.length_set]
  · rw [List.length_set] at hj
    show LaR G' (la (as.set i a) j) (ln (s.lanes.set i l) j)
    rw [la_set hi, ln_set hil]
    by_cases e : i = j
    · subst e
      rw [if_pos rfl, if_pos rfl]
      exact hr
    · rw [if_neg e, if_neg e]
      exact (R.la j hj).mv m fun x hx hx2 => R.dis i j hi hj e x (hS x hx2) hx
  · rw [List.length_set] at hj
    rw [la_set hi]
    by_cases e : i = j
    · subst e
      rw [if_pos rfl]
      exact ⟨fun z => (anew _ z).1 rfl, fun z => (anew _ z).2.1 rfl, fun z => (anew _ z).2.2 rfl⟩
    · rw [if_neg e]
      exact R.tt j hj
  · rw [List.length_set] at hj
    rw [la_set hi]
    by_cases e : i = j
    · subst e
      rw [if_pos rfl]
      exact hn
    · rw [if_neg e]
      exact R.own j hj
  · rw [List.length_set] at hj hk
    rw [la_set hi] at hx ⊢
    by_cases e : i = j
    · subst e
      rw [if_pos rfl] at hx
      rw [if_neg hjk]
      rcases hf x hx with z | z
      · exact R.dis i k hi hk hjk x z
      · intro y
        have := (R.la k hk).lt x y
        omega
    · rw [if_neg e] at hx
      by_cases e2 : i = k
      · subst e2
        rw [if_pos rfl]
        intro y
        rcases hf x y with z | z
        · exact R.dis i j hi hj e x z hx
        · have := (R.la j hj).lt x hx
          omega
      · rw [if_neg e2]
        exact R.dis j k hj hk hjk x hx
  · rcases inN x hx with z | z
    · exact R.new x z
    · omega
  · have hnS : j ∉ S := fun z => by
      rcases h.sub j (inS j z) with y | y
      · exact hp y
      · omega
    exact (m.get j (Nat.lt_of_lt_of_le hj h.len) hnS).trans (h.keep j hj hp)
  · rcases inN x hx with z | z
    · exact h.sub x z
    · exact .inr (by omega)
/-- the line's own cell is written -/
theorem LnI.top (h : LnI G0 G P L0 q qr ql rate as s) (b : Int) (g : Bool) : LnI G0 (G.set q (lineO rate b g qr ql)) P L0 q qr ql rate as { s with bud := b, beg := g } := by
  have R := h.R
  have hq := R.lt _ (.inl rfl)
  have m : Mod [q] G (G.set q (lineO rate b g qr ql)) := Mod.set (by simp)
  refine ⟨⟨List.getElem?_set_self hq, m.at R.r (by simp [Ne.symm R.t1]), m.at R.l (by simp [Ne.symm R.t2]), R.n, fun i hi => (R.la i hi).mv m fun x hx z => ?_, R.t1, R.t2, R.t3, R.tt, R.own, R.dis, R.new⟩, by rw [List.length_set]; exact h.len, fun j hj hp => ?_, h.sub, h.l0⟩
  · rw [List.mem_singleton.mp z] at hx
    exact (R.tt i hi).1 hx
  · have : q ≠ j := fun e => by
      rcases h.sub q (.inl rfl) with y | y
      · exact hp (e ▸ y)
      · omega
    rw [List.getElem?_set_ne this]
    exact h.keep j hj hp
/-- the ring is written where it stands -/
theorem LnI.ring (h : LnI G0 G P L0 q qr ql rate as s) (R' : List Nat) : LnI G0 (G.set qr (.lst (nats R'))) P L0 q qr ql rate as { s with ring := R' } := by
  have R := h.R
  have hq := R.lt _ (.inr (.inl rfl))
  have m : Mod [qr] G (G.set qr (.lst (nats R'))) := Mod.set (by simp)
  refine ⟨⟨m.at R.o (by simp [R.t1]), List.getElem?_set_self hq, m.at R.l (by simp [Ne.symm R.t3]), R.n, fun i hi => (R.la i hi).mv m fun x hx z => ?_, R.t1, R.t2, R.t3, R.tt, R.own, R.dis, R.new⟩, by rw [List.length_set]; exact h.len, fun j hj hp => ?_, h.sub, h.l0⟩
  · rw [List.mem_singleton.mp z] at hx
    exact (R.tt i hi).2.1 hx
  · have : qr ≠ j := fun e => by
      rcases h.sub qr (.inr (.inl rfl)) with y | y
      · exact hp (e ▸ y)
      · omega
    rw [List.getElem?_set_ne this]
    exact h.keep j hj hp
/-- the ring in a new list -/
theorem LnI.ring2 (h : LnI G0 G P L0 q qr ql rate as s) {R' : List Nat} {p : Nat} {b : Int} {g : Bool} (hp : G[p]? = some (.lst (nats R'))) (h0 : G0.length ≤ p) (hni : ¬ InL q qr ql as p) : LnI G0 (G.set q (lineO rate b g p ql)) P L0 q p ql rate as { s with bud := b, beg := g, ring := R' } := by
  have R := h.R
  have hq := R.lt _ (.inl rfl)
  have l0 := h.l0
  have m : Mod [q] G (G.set q (lineO rate b g p ql)) := Mod.set (by simp)
  have np : p ≠ q ∧ p ≠ ql ∧ ∀ i, i < as.length → p ∉ (la as i).fp := ⟨fun e => hni (.inl e), fun e => hni (.inr (.inr (.inl e))), fun i hi z => hni (.inr (.inr (.inr ⟨i, hi, z⟩)))⟩
  have inN : ∀ x, InL q p ql as x → InL q qr ql as x ∨ x = p := fun x hx => by
    rcases hx with rfl | rfl | rfl | z
    · exact .inl (.inl rfl)
    · exact .inr rfl
    · exact .inl (.inr (.inr (.inl rfl)))
    · exact .inl (.inr (.inr (.inr z)))
  refine ⟨⟨List.getElem?_set_self hq, m.at hp (by simp [np.1]), m.at R.l (by simp [Ne.symm R.t2]), R.n, fun i hi => (R.la i hi).mv m fun x hx z => ?_, Ne.symm np.1, R.t2, np.2.1, fun i hi => ⟨(R.tt i hi).1, np.2.2 i hi, (R.tt i hi).2.2⟩, R.own, R.dis, fun x hx => ?_⟩, by rw [List.length_set]; exact h.len, fun j hj hpj => ?_, fun x hx => ?_, h.l0⟩
  · rw [List.mem_singleton.mp z] at hx
    exact (R.tt i hi).1 hx
  · rcases inN x hx with z | rfl
    · exact R.new x z
    · omega
  · have : q ≠ j := fun e => by
      rcases h.sub q (.inl rfl) with y | y
      · exact hpj (e ▸ y)
      · omega
    rw [List.getElem?_set_ne this]
    exact h.keep j hj hpj
  · rcases inN x hx with z | rfl
    · exact h.sub x z
    · exact .inr h0
/-- another cell, none of the line's, is written -/
theorem LnI.oth (h : LnI G0 G P L0 q qr ql rate as s) {S : List Nat} (m : Mod S G G') (hS : ∀ x ∈ S, G0.length ≤ x ∧ ¬ InL q qr ql as x) : LnI G0 G' P L0 q qr ql rate as s :=
  ⟨h.R.mv m (fun x hx z => (hS x z).2 hx), Nat.le_trans h.len m.len, fun i hi hp => (m.get i (Nat.lt_of_lt_of_le hi h.len) fun z => by have := (hS i z).1; omega).trans (h.keep i hi hp), h.sub, h.l0⟩
end
local macro_rules | `(tactic| walk_at "wm") => `(tactic| try simp only [sem, env0, kwF, w_add, w_addT, w_sub, w_mul, w_mulT, w_mulL, w_addL, w_addF, w_fdiv, w_mod, w_pow, w_bor, w_shl, w_shr, w_aadd, w_aaddT, w_asub, w_abor, w_ashl, w_ashr, w_lt, w_le, w_gt, w_ge, w_is, w_isnot, w_eqI, w_neI, w_eqB, w_neB, w_eqS, w_neS, w_inT, w_ixT, w_ixL, w_at0, w_at1, w_at2, w_at3, w_at4, w_at5, w_at6, w_truB, w_truI, w_truT, w_len, w_abs, w_min, w_max, w_max3, w_sum, w_all, w_any, w_intI, w_intB, w_tuple, w_list, w_divmod, w_seqT, w_seqL, w_append, w_extend, w_extendT, w_popAt, w_index, w_store, w_slT, w_slL, isNonD, List.map_cons, List.map_nil, List.length_cons, List.length_nil, List.replicate, List.cons_append, List.nil_append, List.append_nil, List.getElem?_cons_zero, List.getElem?_cons_succ, List.set_cons_zero, List.set_cons_succ, Option.some.injEq, exists_eq_left', exists_eq_left, exists_eq', exists_eq, Nat.zero_add, Nat.reduceAdd, Nat.reduceSub, Dt.bl.injEq, Dt.int.injEq, Dt.tup.injEq, Dt.ref.injEq, if_true, if_false, Bool.false_eq_true, Bool.not_true, Bool.not_false, true_and, and_true, lenA, w_wR, w_wT, List.take_succ_cons, List.take_zero, List.drop_succ_cons, List.drop_zero, w_ex2, and_self, exists_const, reduceCtorEq, decide_eq_true_eq, wipeD])
local macro_rules | `(tactic| walk_at "wh") => `(tactic| try simp only [sem, env0, kwF, w_add, w_addT, w_sub, w_mul, w_mulT, w_mulL, w_addL, w_addF, w_fdiv, w_mod, w_pow, w_bor, w_shl, w_shr, w_aadd, w_aaddT, w_asub, w_abor, w_ashl, w_ashr, w_lt, w_le, w_gt, w_ge, w_is, w_isnot, w_eqI, w_neI, w_eqB, w_neB, w_eqS, w_neS, w_inT, w_ixT, u_ixL, w_at0, w_at1, w_at2, w_at3, w_truB, w_truI, w_truT, w_len, w_abs, w_min, w_max, w_max3, w_sum, w_all, w_any, w_intI, w_intB, w_tuple, w_list, w_divmod, w_seqT, w_seqL, w_append, w_extend, w_extendT, w_popAt, w_index, u_store, u_ixD, u_storeD, w_slT, w_slL, isNonD, List.map_cons, List.map_nil, List.length_cons, List.length_nil, List.replicate, List.cons_append, List.nil_append, List.append_nil, List.getElem?_cons_zero, List.getElem?_cons_succ, List.set_cons_zero, List.set_cons_succ, Option.some.injEq, exists_eq_left', exists_eq_left, exists_eq', exists_eq, Nat.zero_add, Nat.reduceAdd, Nat.reduceSub, Dt.bl.injEq, Dt.int.injEq, Dt.tup.injEq, Dt.ref.injEq, if_true, if_false, Bool.false_eq_true, Bool.not_true, Bool.not_false, true_and, and_true, lenA, w_wR, w_wT, List.take_succ_cons, List.take_zero, List.drop_succ_cons, List.drop_zero, w_ex2, and_self, exists_const, reduceCtorEq, decide_eq_true_eq, wipeD, u_self, u_selfG, List.set_set, List.length_set, u_ix10, u_ix20, u_ix21, u_ix30, u_ix31, u_ix32, u_ix40, u_ix41, u_ix42, u_ix43, w_at4, w_at5, w_at6, w_truN, u_sz0, u_sz1, u_sz2, u_sz3, u_sz4, u_sz5, u_sz6, u_sz7, u_sz8, Ob.lst.injEq, Ob.dct.injEq, Dt.str.injEq, not_true_eq_false, not_false_eq_true, Bool.or_false, Bool.and_true, decide_true, decide_false, ge_iff_le, gt_iff_lt, *])
local macro_rules | `(tactic| walk_at "ws") => `(tactic| simp only [q_full_full, q_full_drop, q_full_mark, q_full_come, q_full_send, q_full_bell, q_drop_full, q_drop_drop, q_drop_mark, q_drop_come, q_drop_send, q_drop_bell, q_mark_full, q_mark_drop, q_mark_mark, q_mark_come, q_mark_send, q_mark_bell, q_come_full, q_come_drop, q_come_mark, q_come_come, q_come_send, q_come_bell, q_send_full, q_send_drop, q_send_mark, q_send_come, q_send_send, q_send_bell, q_bell_full, q_bell_drop, q_bell_mark, q_bell_come, q_bell_send, q_bell_bell, q_late_late, q_late_share, q_late_none, q_share_late, q_share_share, q_share_none, q_none_late, q_none_share, q_none_none, Bool.not_true, Bool.not_false, Bool.false_eq_true, if_true, if_false])
local macro_rules | `(tactic| walk_at "tk") => `(tactic| (refine take_ok (by assumption) (by omega) (by omega) (by first | omega | (refine Int.lt_of_lt_of_le (b := 2 ^ 40) (by omega) (p2_le (by omega)))) fun _ _ _ _ _ _ => ?_; walk_at "wm"))
local macro_rules | `(tactic| walk_at "pk") => `(tactic| (refine pick (by assumption) (by omega) (by omega) (by simp) (by omega) fun _ _ hd _ _ => ?_; walk_at "wm"))
local macro_rules | `(tactic| walk_at "md") => `(tactic| first | assumption | exact Mod.refl | (refine Mod.trans (by assumption) ?_; walk_at "md"))
local macro_rules | `(tactic| walk_at "pt") => `(tactic| first | assumption | exact Pot.le (by assumption) (by omega))
local macro_rules | `(tactic| walk_at "sz") => `(tactic| (refine ⟨by first | omega | (rw [sizeLine_eq]; omega) | (rw [sizeLine_eq]; simp; omega), ?_⟩))
local macro_rules | `(tactic| walk_at "ex") => `(tactic| ((first | refine ⟨false, (isi_exc (by first | assumption | exact exc_app (by assumption) | exact exc_app (exc_app (by assumption))) _).trans (by decide), ?_⟩ | refine ⟨true, (isi_exc (by first | assumption | exact exc_app (by assumption) | exact exc_app (exc_app (by assumption))) _).trans (by decide), ?_⟩ | refine ⟨u_sz3, ?_⟩ | refine ⟨u_sz2, ?_⟩ | refine ⟨u_sz1, ?_⟩ | refine ⟨u_sz4, ?_⟩ | refine ⟨u_sz5, ?_⟩); walk_at "wm"))
local macro_rules | `(tactic| walk_at "nw") => `(tactic| simp only [new1, new2a, new1L, new2L, Option.some.injEq, Ob.lst.injEq, exists_eq_left', exists_eq_left, exists_eq', exists_eq, List.cons_append, List.nil_append, List.length_cons, List.length_nil, Nat.reduceAdd, Nat.zero_add, true_and])

def po (ps : List Pc) (j : Nat) : List Pc := (ps.take j).map old ++ ps.drop j
local macro_rules | `(tactic| walk_at "wm") => `(tactic| try simp only [sem, env0, kwF, w_add, w_addT, w_sub, w_mul, w_mulT, w_mulL, w_addL, w_addF, w_fdiv, w_mod, w_pow, w_bor, w_shl, w_shr, w_aadd, w_aaddT, w_asub, w_abor, w_ashl, w_ashr, w_lt, w_le, w_gt, w_ge, w_is, w_isnot, w_eqI, w_neI, w_eqB, w_neB, w_eqS, w_neS, w_inT, w_ixT, w_ixL, w_at0, w_at1, w_at2, w_at3, w_at4, w_at5, w_at6, w_truB, w_truI, w_truT, w_len, w_abs, w_min, w_max, w_max3, w_sum, w_all, w_any, w_intI, w_intB, w_tuple, w_list, w_divmod, w_seqT, w_seqL, w_append, w_extend, w_extendT, w_popAt, w_index, w_store, w_slT, w_slL, isNonD, List.map_cons, List.map_nil, List.length_cons, List.length_nil, List.replicate, List.cons_append, List.nil_append, List.append_nil, List.getElem?_cons_zero, List.getElem?_cons_succ, List.set_cons_zero, List.set_cons_succ, Option.some.injEq, exists_eq_left', exists_eq_left, exists_eq', exists_eq, Nat.zero_add, Nat.reduceAdd, Nat.reduceSub, Dt.bl.injEq, Dt.int.injEq, Dt.tup.injEq, Dt.ref.injEq, if_true, if_false, Bool.false_eq_true, Bool.not_true, Bool.not_false, true_and, and_true, lenA, w_wR, w_wT, List.take_succ_cons, List.take_zero, List.drop_succ_cons, List.drop_zero, w_ex2, and_self, exists_const, reduceCtorEq, decide_eq_true_eq, wipeD])
local macro_rules | `(tactic| walk_at "wh") => `(tactic| try simp only [sem, env0, kwF, w_add, w_addT, w_sub, w_mul, w_mulT, w_mulL, w_addL, w_addF, w_fdiv, w_mod, w_pow, w_bor, w_shl, w_shr, w_aadd, w_aaddT, w_asub, w_abor, w_ashl, w_ashr, w_lt, w_le, w_gt, w_ge, w_is, w_isnot, w_eqI, w_neI, w_eqB, w_neB, w_eqS, w_neS, w_inT, w_ixT, u_ixL, w_at0, w_at1, w_at2, w_at3, w_truB, w_truI, w_truT, w_len, w_abs, w_min, w_max, w_max3, w_sum, w_all, w_any, w_intI, w_intB, w_tuple, w_list, w_divmod, w_seqT, w_seqL, w_append, w_extend, w_extendT, w_popAt, w_index, u_store, u_ixD, u_storeD, w_slT, w_slL, isNonD, List.map_cons, List.map_nil, List.length_cons, List.length_nil, List.replicate, List.cons_append, List.nil_append, List.append_nil, List.getElem?_cons_zero, List.getElem?_cons_succ, List.set_cons_zero, List.set_cons_succ, Option.some.injEq, exists_eq_left', exists_eq_left, exists_eq', exists_eq, Nat.zero_add, Nat.reduceAdd, Nat.reduceSub, Dt.bl.injEq, Dt.int.injEq, Dt.tup.injEq, Dt.ref.injEq, if_true, if_false, Bool.false_eq_true, Bool.not_true, Bool.not_false, true_and, and_true, lenA, w_wR, w_wT, List.take_succ_cons, List.take_zero, List.drop_succ_cons, List.drop_zero, w_ex2, and_self, exists_const, reduceCtorEq, decide_eq_true_eq, wipeD, u_self, u_selfG, List.set_set, List.length_set, u_ix10, u_ix20, u_ix21, u_ix30, u_ix31, u_ix32, u_ix40, u_ix41, u_ix42, u_ix43, w_at4, w_at5, w_at6, w_truN, u_sz0, u_sz1, u_sz2, u_sz3, u_sz4, u_sz5, u_sz6, u_sz7, u_sz8, Ob.lst.injEq, Ob.dct.injEq, Dt.str.injEq, not_true_eq_false, not_false_eq_true, Bool.or_false, Bool.and_true, decide_true, decide_false, ge_iff_le, gt_iff_lt, *])
local macro_rules | `(tactic| walk_at "ws") => `(tactic| simp only [q_full_full, q_full_drop, q_full_mark, q_full_come, q_full_send, q_full_bell, q_drop_full, q_drop_drop, q_drop_mark, q_drop_come, q_drop_send, q_drop_bell, q_mark_full, q_mark_drop, q_mark_mark, q_mark_come, q_mark_send, q_mark_bell, q_come_full, q_come_drop, q_come_mark, q_come_come, q_come_send, q_come_bell, q_send_full, q_send_drop, q_send_mark, q_send_come, q_send_send, q_send_bell, q_bell_full, q_bell_drop, q_bell_mark, q_bell_come, q_bell_send, q_bell_bell, q_late_late, q_late_share, q_late_none, q_share_late, q_share_share, q_share_none, q_none_late, q_none_share, q_none_none, Bool.not_true, Bool.not_false, Bool.false_eq_true, if_true, if_false])
local macro_rules | `(tactic| walk_at "tk") => `(tactic| (refine take_ok (by assumption) (by omega) (by omega) (by first | omega | (refine Int.lt_of_lt_of_le (b := 2 ^ 40) (by omega) (p2_le (by omega)))) fun _ _ _ _ _ _ => ?_; walk_at "wm"))
local macro_rules | `(tactic| walk_at "pk") => `(tactic| (refine pick (by assumption) (by omega) (by omega) (by simp) (by omega) fun _ _ hd _ _ => ?_; walk_at "wm"))
local macro_rules | `(tactic| walk_at "md") => `(tactic| first | assumption | exact Mod.refl | (refine Mod.trans (by assumption) ?_; walk_at "md"))
local macro_rules | `(tactic| walk_at "pt") => `(tactic| first | assumption | exact Pot.le (by assumption) (by omega))
local macro_rules | `(tactic| walk_at "sz") => `(tactic| (refine ⟨by first | omega | (rw [sizeLine_eq]; omega) | (rw [sizeLine_eq]; simp; omega), ?_⟩))
local macro_rules | `(tactic| walk_at "ex") => `(tactic| ((first | refine ⟨false, (isi_exc (by first | assumption | exact exc_app (by assumption) | exact exc_app (exc_app (by assumption))) _).trans (by decide), ?_⟩ | refine ⟨true, (isi_exc (by first | assumption | exact exc_app (by assumption) | exact exc_app (exc_app (by assumption))) _).trans (by decide), ?_⟩ | refine ⟨u_sz3, ?_⟩ | refine ⟨u_sz2, ?_⟩ | refine ⟨u_sz1, ?_⟩ | refine ⟨u_sz4, ?_⟩ | refine ⟨u_sz5, ?_⟩); walk_at "wm"))
local macro_rules | `(tactic| walk_at "nw") => `(tactic| simp only [new1, new2a, new1L, new2L, Option.some.injEq, Ob.lst.injEq, exists_eq_left', exists_eq_left, exists_eq', exists_eq, List.cons_append, List.nil_append, List.length_cons, List.length_nil, Nat.reduceAdd, Nat.zero_add, true_and])

def thg (G : Gh) (S : List Nat) : Nat → Dt → Prop
  | _, .non => True
  | _, .bl _ => True
  | _, .int i => i.natAbs < 2 ^ 600
  | _, .str s => (PyData.strOk s && s.cps.toList.all fun c => decide (c < 16 ^ 8)) = true
  | 0, .tup _ => False
  | n + 1, .tup xs => ∀ x ∈ xs, thg G S n x
  | 0, .ref _ => False
  | n + 1, .ref k => k ∉ S ∧ ((∃ xs, G[k]? = some (.lst xs) ∧ ∀ x ∈ xs, thg G S n x) ∨ G[k]? = some (.dct []))
def dat (G : Gh) : Nat → Dt → PyData
  | _, .non => .none
  | _, .bl b => .bool b
  | _, .int i => .int i
  | _, .str s => .str s
  | 0, .tup _ => .none
  | n + 1, .tup xs => .tuple (xs.map (dat G n))
  | 0, .ref _ => .none
  | n + 1, .ref k => match G[k]? with
    | some (.lst xs) => .list (xs.map (dat G n))
    | _ => .dict []
def lenT (G : Gh) : Nat → Dt → Nat
  | _, .non => 4
  | _, .bl _ => 5
  | _, .int _ => 601
  | _, .str s => 10 * s.length + 2
  | 0, .tup _ => 0
  | n + 1, .tup xs => (xs.map fun x => lenT G n x + 2).sum + 3
  | 0, .ref _ => 0
  | n + 1, .ref k => match G[k]? with
    | some (.lst xs) => (xs.map fun x => lenT G n x + 2).sum + 3
    | _ => 3
section
variable {G G' : Gh} {S : List Nat} {n : Nat}
theorem thg_int {i : Int} : thg G S n (.int i) = (i.natAbs < 2 ^ 600) := by cases n <;> (unfold thg; rfl)
theorem thg_non : thg G S n .non = True := by cases n <;> (unfold thg; rfl)
theorem thg_bl {b : Bool} : thg G S n (.bl b) = True := by cases n <;> (unfold thg; rfl)
theorem thg_str {s : Str} : thg G S n (.str s) = ((PyData.strOk s && s.cps.toList.all fun c => decide (c < 16 ^ 8)) = true) := by cases n <;> (unfold thg; rfl)
theorem thg_tup {xs : List Dt} : thg G S (n + 1) (.tup xs) = ∀ x ∈ xs, thg G S n x := by conv => lhs; unfold thg
theorem thg_ref {k : Nat} : thg G S (n + 1) (.ref k) = (k ∉ S ∧ ((∃ xs, G[k]? = some (.lst xs) ∧ ∀ x ∈ xs, thg G S n x) ∨ G[k]? = some (.dct []))) := by conv => lhs; unfold thg
theorem dat_int {i : Int} : dat G n (.int i) = .int i := by cases n <;> (unfold dat; rfl)
theorem dat_non : dat G n .non = .none := by cases n <;> (unfold dat; rfl)
theorem dat_bl {b : Bool} : dat G n (.bl b) = .bool b := by cases n <;> (unfold dat; rfl)
theorem dat_str {s : Str} : dat G n (.str s) = .str s := by cases n <;> (unfold dat; rfl)
theorem dat_tup {xs : List Dt} : dat G (n + 1) (.tup xs) = .tuple (xs.map (dat G n)) := by conv => lhs; unfold dat
theorem dat_lst {k : Nat} {xs : List Dt} (h : G[k]? = some (.lst xs)) : dat G (n + 1) (.ref k) = .list (xs.map (dat G n)) := by conv => lhs; unfold dat; rw [h]
theorem dat_dct {k : Nat} (h : G[k]? = some (.dct [])) : dat G (n + 1) (.ref k) = .dict [] := by conv => lhs; unfold dat; rw [h]
theorem lenT_int {i : Int} : lenT G n (.int i) = 601 := by cases n <;> (unfold lenT; rfl)
theorem lenT_non : lenT G n .non = 4 := by cases n <;> (unfold lenT; rfl)
theorem lenT_bl {b : Bool} : lenT G n (.bl b) = 5 := by cases n <;> (unfold lenT; rfl)
theorem lenT_str {s : Str} : lenT G n (.str s) = 10 * s.length + 2 := by cases n <;> (unfold lenT; rfl)
theorem lenT_tup {xs : List Dt} : lenT G (n + 1) (.tup xs) = (xs.map fun x => lenT G n x + 2).sum + 3 := by conv => lhs; unfold lenT
theorem lenT_lst {k : Nat} {xs : List Dt} (h : G[k]? = some (.lst xs)) : lenT G (n + 1) (.ref k) = (xs.map fun x => lenT G n x + 2).sum + 3 := by conv => lhs; unfold lenT; rw [h]
theorem lenT_dct {k : Nat} (h : G[k]? = some (.dct [])) : lenT G (n + 1) (.ref k) = 3 := by conv => lhs; unfold lenT; rw [h]
theorem thg_ty {d : Dt} (h : thg G S n d) : Ty G d := by
  cases d with
  | ref k =>
    cases n with
    | zero => unfold thg at h; exact h.elim
    | succ n =>
      rw [thg_ref] at h
      rcases h.2 with ⟨xs, e, _⟩ | e <;> (simp only [Ty, tyD, e]; rfl)
  | _ => rfl
/-- deeper is the same -/
theorem thg_up : ∀ {n : Nat} {d : Dt}, thg G S n d → thg G S (n + 1) d ∧ dat G (n + 1) d = dat G n d ∧ lenT G (n + 1) d = lenT G n d
  | n, .non, _ => ⟨by rw [thg_non]; trivial, by rw [dat_non, dat_non], by rw [lenT_non, lenT_non]⟩
  | n, .bl b, _ => ⟨by rw [thg_bl]; trivial, by rw [dat_bl, dat_bl], by rw [lenT_bl, lenT_bl]⟩
  | n, .int i, h => ⟨by rw [thg_int] at h ⊢; exact h, by rw [dat_int, dat_int], by rw [lenT_int, lenT_int]⟩
  | n, .str s, h => ⟨by rw [thg_str] at h ⊢; exact h, by rw [dat_str, dat_str], by rw [lenT_str, lenT_str]⟩
  | 0, .tup xs, h => by unfold thg at h; exact h.elim
  | n + 1, .tup xs, h => by
    rw [thg_tup] at h
    have ih := fun x hx => thg_up (h x hx)
    refine ⟨by rw [thg_tup]; exact fun x hx => (ih x hx).1, ?_, ?_⟩
    · rw [dat_tup, dat_tup]
      exact congrArg _ (List.map_congr_left fun x hx => (ih x hx).2.1)
    · rw [lenT_tup, lenT_tup]
      exact congrArg (fun l : List Nat => l.sum + 3) (List.map_congr_left fun x hx => congrArg (· + 2) (ih x hx).2.2)
  | 0, .ref k, h => by unfold thg at h; exact h.elim
  | n + 1, .ref k, h => by
    rw [thg_ref] at h
    obtain ⟨hk, h⟩ := h
    rcases h with ⟨xs, e, h⟩ | e
    · have ih := fun x hx => thg_up (h x hx)
      refine ⟨by rw [thg_ref]; exact ⟨hk, .inl ⟨xs, e, fun x hx => (ih x hx).1⟩⟩, ?_, ?_⟩
      · rw [dat_lst e, dat_lst e]
        exact congrArg _ (List.map_congr_left fun x hx => (ih x hx).2.1)
      · rw [lenT_lst e, lenT_lst e]
        exact congrArg (fun l : List Nat => l.sum + 3) (List.map_congr_left fun x hx => congrArg (· + 2) (ih x hx).2.2)
    · exact ⟨by rw [thg_ref]; exact ⟨hk, .inr e⟩, by rw [dat_dct e, dat_dct e], by rw [lenT_dct e, lenT_dct e]⟩
theorem thg_le {m : Nat} {d : Dt} (h : thg G S n d) (hm : n ≤ m) : thg G S m d ∧ dat G m d = dat G n d ∧ lenT G m d = lenT G n d := by
  induction hm with
  | refl => exact ⟨h, rfl, rfl⟩
  | step _ ih =>
    obtain ⟨a, b, c⟩ := thg_up ih.1
    exact ⟨a, b.trans ih.2.1, c.trans ih.2.2⟩
/-- other cells may change -/
theorem thg_mv (m : Mod S G G') : ∀ {n : Nat} {d : Dt}, thg G S n d → thg G' S n d ∧ dat G' n d = dat G n d ∧ lenT G' n d = lenT G n d
  | n, .non, _ => ⟨by rw [thg_non]; trivial, by rw [dat_non, dat_non], by rw [lenT_non, lenT_non]⟩
  | n, .bl b, _ => ⟨by rw [thg_bl]; trivial, by rw [dat_bl, dat_bl], by rw [lenT_bl, lenT_bl]⟩
  | n, .int i, h => ⟨by rw [thg_int] at h ⊢; exact h, by rw [dat_int, dat_int], by rw [lenT_int, lenT_int]⟩
  | n, .str s, h => ⟨by rw [thg_str] at h ⊢; exact h, by rw [dat_str, dat_str], by rw [lenT_str, lenT_str]⟩
  | 0, .tup xs, h => by unfold thg at h; exact h.elim
  | n + 1, .tup xs, h => by
    rw [thg_tup] at h
    have ih := fun x hx => thg_mv m (h x hx)
    refine ⟨by rw [thg_tup]; exact fun x hx => (ih x hx).1, ?_, ?_⟩
    · rw [dat_tup, dat_tup]
      exact congrArg _ (List.map_congr_left fun x hx => (ih x hx).2.1)
    · rw [lenT_tup, lenT_tup]
      exact congrArg (fun l : List Nat => l.sum + 3) (List.map_congr_left fun x hx => congrArg (· + 2) (ih x hx).2.2)
  | 0, .ref k, h => by unfold thg at h; exact h.elim
  | n + 1, .ref k, h => by
    rw [thg_ref] at h
    obtain ⟨hk, h⟩ := h
    have eg : ∀ o, G[k]? = some o → G'[k]? = some o := fun o e => (m.get k (List.getElem?_eq_some_iff.mp e).1 hk).trans e
    rcases h with ⟨xs, e, h⟩ | e
    · have e' := eg _ e
      have ih := fun x hx => thg_mv m (h x hx)
      refine ⟨by rw [thg_ref]; exact ⟨hk, .inl ⟨xs, e', fun x hx => (ih x hx).1⟩⟩, ?_, ?_⟩
      · rw [dat_lst e, dat_lst e']
        exact congrArg _ (List.map_congr_left fun x hx => (ih x hx).2.1)
      · rw [lenT_lst e, lenT_lst e']
        exact congrArg (fun l : List Nat => l.sum + 3) (List.map_congr_left fun x hx => congrArg (· + 2) (ih x hx).2.2)
    · have e' := eg _ e
      exact ⟨by rw [thg_ref]; exact ⟨hk, .inr e'⟩, by rw [dat_dct e, dat_dct e'], by rw [lenT_dct e, lenT_dct e']⟩
end
section
variable {G : Gh} {S : List Nat}
theorem pxL_of : ∀ {xs : List Dt} {f : Dt → PyData}, (∀ x ∈ xs, ∃ m, ∀ k, m ≤ k → pxN k G x = some (f x)) → ∃ m, ∀ k, m ≤ k → pxL k G xs = some (xs.map f)
  | [], f, _ => ⟨0, fun k _ => by cases k <;> (unfold pxL; rfl)⟩
  | x :: xs, f, h => by
    obtain ⟨m1, h1⟩ := h x List.mem_cons_self
    obtain ⟨m2, h2⟩ := pxL_of (xs := xs) (f := f) fun y hy => h y (List.mem_cons_of_mem _ hy)
    refine ⟨m1 + m2 + 1, fun k hk => ?_⟩
    obtain ⟨j, rfl⟩ : ∃ j, k = j + 1 := ⟨k - 1, by omega⟩
    unfold pxL
    rw [h1 j (by omega), h2 j (by omega)]
    rfl
theorem px_dat : ∀ {n : Nat} {d : Dt}, thg G S n d → ∃ m, ∀ k, m ≤ k → pxN k G d = some (dat G n d)
  | n, .non, _ => ⟨0, fun k _ => by rw [dat_non]; cases k <;> (unfold pxN; rfl)⟩
  | n, .bl b, _ => ⟨0, fun k _ => by rw [dat_bl]; cases k <;> (unfold pxN; rfl)⟩
  | n, .int i, h => ⟨0, fun k _ => by rw [dat_int]; cases k <;> (unfold pxN; rfl)⟩
  | n, .str s, h => ⟨0, fun k _ => by rw [dat_str]; cases k <;> (unfold pxN; rfl)⟩
  | 0, .tup xs, h => by unfold thg at h; exact h.elim
  | n + 1, .tup xs, h => by
    rw [thg_tup] at h
    obtain ⟨m, hm⟩ := pxL_of (G := G) (xs := xs) (f := dat G n) fun x hx => px_dat (h x hx)
    refine ⟨m + 1, fun k hk => ?_⟩
    obtain ⟨j, rfl⟩ : ∃ j, k = j + 1 := ⟨k - 1, by omega⟩
    rw [dat_tup]
    unfold pxN
    rw [hm j (by omega)]
    rfl
  | 0, .ref k, h => by unfold thg at h; exact h.elim
  | n + 1, .ref k, h => by
    rw [thg_ref] at h
    rcases h.2 with ⟨xs, e, h⟩ | e
    · obtain ⟨m, hm⟩ := pxL_of (G := G) (xs := xs) (f := dat G n) fun x hx => px_dat (h x hx)
      refine ⟨m + 1, fun k hk => ?_⟩
      obtain ⟨j, rfl⟩ : ∃ j, k = j + 1 := ⟨k - 1, by omega⟩
      rw [dat_lst e]
      unfold pxN
      rw [w_lst e]
      show (pxL j G xs).map PyData.list = _
      rw [hm j (by omega)]
      rfl
    · refine ⟨1, fun k hk => ?_⟩
      obtain ⟨j, rfl⟩ : ∃ j, k = j + 1 := ⟨k - 1, by omega⟩
      rw [dat_dct e]
      unfold pxN lstAt
      rw [e]
theorem shA {g : Dt → PyData} {l : Dt → Nat} {n : Nat} : ∀ {xs : List Dt}, (∀ x ∈ xs, (g x).showable = true ∧ (g x).depth ≤ n ∧ (g x).shown.length ≤ l x) → PyData.showableAll (xs.map g) = true ∧ PyData.depthAll (xs.map g) ≤ n ∧ ((PyData.shownAll (xs.map g)).map (·.length)).sum + 2 * (PyData.shownAll (xs.map g)).length ≤ (xs.map fun x => l x + 2).sum
  | [], _ => ⟨rfl, by simp [PyData.depthAll], by simp [PyData.shownAll]⟩
  | x :: xs, h => by
    obtain ⟨a, b, c⟩ := h x List.mem_cons_self
    obtain ⟨a2, b2, c2⟩ := shA (xs := xs) fun y hy => h y (List.mem_cons_of_mem _ hy)
    refine ⟨by simp only [List.map_cons, PyData.showableAll, a, a2, Bool.and_self], by simp only [List.map_cons, PyData.depthAll]; omega, ?_⟩
    simp only [PyData.shownAll, List.map_cons, List.sum_cons, List.length_cons]
    omega
theorem dat_all : ∀ {n : Nat} {d : Dt}, thg G S n d → (dat G n d).showable = true ∧ (dat G n d).depth ≤ n ∧ (dat G n d).shown.length ≤ lenT G n d
  | n, .non, _ => by rw [dat_non, lenT_non]; exact ⟨rfl, by simp [PyData.depth], Nat.le_of_eq rfl⟩
  | n, .bl b, _ => by rw [dat_bl, lenT_bl]; exact ⟨rfl, by simp [PyData.depth], by cases b <;> decide⟩
  | n, .int i, h => by
    rw [thg_int] at h
    have hl := log_600 h
    rw [dat_int, lenT_int]
    refine ⟨by unfold PyData.showable; exact decide_eq_true (by omega), by simp [PyData.depth], ?_⟩
    unfold PyData.shown
    have := int_text_length_le (a := i) (k := 600) (by omega) hl
    exact Nat.le_trans (Nat.le_of_eq (PySem.ofString_length _)) this
  | n, .str s, h => by
    rw [thg_str] at h
    obtain ⟨ho, hx⟩ := b2 h
    rw [dat_str, lenT_str]
    refine ⟨rfl, by simp [PyData.depth], ?_⟩
    unfold PyData.shown
    exact StrLaws.reprText_len s (by simpa only [List.all_eq_true, decide_eq_true_eq] using hx)
  | 0, .tup xs, h => by unfold thg at h; exact h.elim
  | n + 1, .tup xs, h => by
    rw [thg_tup] at h
    obtain ⟨a, b, c⟩ := shA (g := dat G n) (l := lenT G n) (n := n) (xs := xs) fun x hx => dat_all (h x hx)
    rw [dat_tup, lenT_tup]
    refine ⟨by simp only [PyData.showable]; exact a, by simp only [PyData.depth]; omega, ?_⟩
    simp only [PyData.shown]
    have := tupleText_len_le (PyData.shownAll (xs.map (dat G n)))
    omega
  | 0, .ref k, h => by unfold thg at h; exact h.elim
  | n + 1, .ref k, h => by
    rw [thg_ref] at h
    rcases h.2 with ⟨xs, e, h⟩ | e
    · obtain ⟨a, b, c⟩ := shA (g := dat G n) (l := lenT G n) (n := n) (xs := xs) fun x hx => dat_all (h x hx)
      rw [dat_lst e, lenT_lst e]
      refine ⟨by simp only [PyData.showable]; exact a, by simp only [PyData.depth]; omega, ?_⟩
      simp only [PyData.shown]
      have := listText_len_le (PyData.shownAll (xs.map (dat G n)))
      omega
    · rw [dat_dct e, lenT_dct e]
      refine ⟨rfl, by simp [PyData.depth, PyData.depthKv], ?_⟩
      exact (by decide : (PyData.dict []).shown.length ≤ 3)
theorem repr_thg {n : Nat} {d : Dt} {Q : QE} (h : thg G S n d) (hn : n ≤ 59) (hl : lenT G n d ≤ 10000000) (hq : Q (.str (dat G n d).shown) G) : biD .repr [d] G Q := by
  obtain ⟨a, b, c⟩ := dat_all h
  obtain ⟨m, hm⟩ := px_dat h
  exact ⟨m, _, hm m (Nat.le_refl _), a, by omega, by rw [sizeLine_eq]; omega, hq⟩
end
local macro_rules | `(tactic| walk_at "wm") => `(tactic| try simp only [sem, env0, kwF, w_add, w_addT, w_sub, w_mul, w_mulT, w_mulL, w_addL, w_addF, w_fdiv, w_mod, w_pow, w_bor, w_shl, w_shr, w_aadd, w_aaddT, w_asub, w_abor, w_ashl, w_ashr, w_lt, w_le, w_gt, w_ge, w_is, w_isnot, w_eqI, w_neI, w_eqB, w_neB, w_eqS, w_neS, w_inT, w_ixT, w_ixL, w_at0, w_at1, w_at2, w_at3, w_at4, w_at5, w_at6, w_truB, w_truI, w_truT, w_len, w_abs, w_min, w_max, w_max3, w_sum, w_all, w_any, w_intI, w_intB, w_tuple, w_list, w_divmod, w_seqT, w_seqL, w_append, w_extend, w_extendT, w_popAt, w_index, w_store, w_slT, w_slL, isNonD, List.map_cons, List.map_nil, List.length_cons, List.length_nil, List.replicate, List.cons_append, List.nil_append, List.append_nil, List.getElem?_cons_zero, List.getElem?_cons_succ, List.set_cons_zero, List.set_cons_succ, Option.some.injEq, exists_eq_left', exists_eq_left, exists_eq', exists_eq, Nat.zero_add, Nat.reduceAdd, Nat.reduceSub, Dt.bl.injEq, Dt.int.injEq, Dt.tup.injEq, Dt.ref.injEq, if_true, if_false, Bool.false_eq_true, Bool.not_true, Bool.not_false, true_and, and_true, lenA, w_wR, w_wT, List.take_succ_cons, List.take_zero, List.drop_succ_cons, List.drop_zero, w_ex2, and_self, exists_const, reduceCtorEq, decide_eq_true_eq, wipeD])
local macro_rules | `(tactic| walk_at "wh") => `(tactic| try simp only [sem, env0, kwF, w_add, w_addT, w_sub, w_mul, w_mulT, w_mulL, w_addL, w_addF, w_fdiv, w_mod, w_pow, w_bor, w_shl, w_shr, w_aadd, w_aaddT, w_asub, w_abor, w_ashl, w_ashr, w_lt, w_le, w_gt, w_ge, w_is, w_isnot, w_eqI, w_neI, w_eqB, w_neB, w_eqS, w_neS, w_inT, w_ixT, u_ixL, w_at0, w_at1, w_at2, w_at3, w_truB, w_truI, w_truT, w_len, w_abs, w_min, w_max, w_max3, w_sum, w_all, w_any, w_intI, w_intB, w_tuple, w_list, w_divmod, w_seqT, w_seqL, w_append, w_extend, w_extendT, w_popAt, w_index, u_store, u_ixD, u_storeD, w_slT, w_slL, isNonD, List.map_cons, List.map_nil, List.length_cons, List.length_nil, List.replicate, List.cons_append, List.nil_append, List.append_nil, List.getElem?_cons_zero, List.getElem?_cons_succ, List.set_cons_zero, List.set_cons_succ, Option.some.injEq, exists_eq_left', exists_eq_left, exists_eq', exists_eq, Nat.zero_add, Nat.reduceAdd, Nat.reduceSub, Dt.bl.injEq, Dt.int.injEq, Dt.tup.injEq, Dt.ref.injEq, if_true, if_false, Bool.false_eq_true, Bool.not_true, Bool.not_false, true_and, and_true, lenA, w_wR, w_wT, List.take_succ_cons, List.take_zero, List.drop_succ_cons, List.drop_zero, w_ex2, and_self, exists_const, reduceCtorEq, decide_eq_true_eq, wipeD, u_self, u_selfG, List.set_set, List.length_set, u_ix10, u_ix20, u_ix21, u_ix30, u_ix31, u_ix32, u_ix40, u_ix41, u_ix42, u_ix43, w_at4, w_at5, w_at6, w_truN, u_sz0, u_sz1, u_sz2, u_sz3, u_sz4, u_sz5, u_sz6, u_sz7, u_sz8, Ob.lst.injEq, Ob.dct.injEq, Dt.str.injEq, not_true_eq_false, not_false_eq_true, Bool.or_false, Bool.and_true, decide_true, decide_false, ge_iff_le, gt_iff_lt, *])
local macro_rules | `(tactic| walk_at "ws") => `(tactic| simp only [q_full_full, q_full_drop, q_full_mark, q_full_come, q_full_send, q_full_bell, q_drop_full, q_drop_drop, q_drop_mark, q_drop_come, q_drop_send, q_drop_bell, q_mark_full, q_mark_drop, q_mark_mark, q_mark_come, q_mark_send, q_mark_bell, q_come_full, q_come_drop, q_come_mark, q_come_come, q_come_send, q_come_bell, q_send_full, q_send_drop, q_send_mark, q_send_come, q_send_send, q_send_bell, q_bell_full, q_bell_drop, q_bell_mark, q_bell_come, q_bell_send, q_bell_bell, q_late_late, q_late_share, q_late_none, q_share_late, q_share_share, q_share_none, q_none_late, q_none_share, q_none_none, Bool.not_true, Bool.not_false, Bool.false_eq_true, if_true, if_false])
local macro_rules | `(tactic| walk_at "tk") => `(tactic| (refine take_ok (by assumption) (by omega) (by omega) (by first | omega | (refine Int.lt_of_lt_of_le (b := 2 ^ 40) (by omega) (p2_le (by omega)))) fun _ _ _ _ _ _ => ?_; walk_at "wm"))
local macro_rules | `(tactic| walk_at "pk") => `(tactic| (refine pick (by assumption) (by omega) (by omega) (by simp) (by omega) fun _ _ hd _ _ => ?_; walk_at "wm"))
local macro_rules | `(tactic| walk_at "md") => `(tactic| first | assumption | exact Mod.refl | (refine Mod.trans (by assumption) ?_; walk_at "md"))
local macro_rules | `(tactic| walk_at "pt") => `(tactic| first | assumption | exact Pot.le (by assumption) (by omega))
local macro_rules | `(tactic| walk_at "sz") => `(tactic| (refine ⟨by first | omega | (rw [sizeLine_eq]; omega) | (rw [sizeLine_eq]; simp; omega), ?_⟩))
local macro_rules | `(tactic| walk_at "ex") => `(tactic| ((first | refine ⟨false, (isi_exc (by first | assumption | exact exc_app (by assumption) | exact exc_app (exc_app (by assumption))) _).trans (by decide), ?_⟩ | refine ⟨true, (isi_exc (by first | assumption | exact exc_app (by assumption) | exact exc_app (exc_app (by assumption))) _).trans (by decide), ?_⟩ | refine ⟨u_sz3, ?_⟩ | refine ⟨u_sz2, ?_⟩ | refine ⟨u_sz1, ?_⟩ | refine ⟨u_sz4, ?_⟩ | refine ⟨u_sz5, ?_⟩); walk_at "wm"))
local macro_rules | `(tactic| walk_at "nw") => `(tactic| simp only [new1, new2a, new1L, new2L, Option.some.injEq, Ob.lst.injEq, exists_eq_left', exists_eq_left, exists_eq', exists_eq, List.cons_append, List.nil_append, List.length_cons, List.length_nil, Nat.reduceAdd, Nat.zero_add, true_and])

def isBlD : Dt → Bool
  | .bl _ => true
  | _ => false
def isStD : Dt → Bool
  | .str _ => true
  | _ => false
def isIbD : Dt → Bool
  | .int _ => true
  | .bl _ => true
  | _ => false
theorem isT_of {G : Gh} {d : Dt} (n : String) (f : Dt → Bool) (h0 : f .non = (kitB "NoneType" n).getD false) (h1 : ∀ b, f (.bl b) = (kitB "bool" n).getD false) (h2 : ∀ i, f (.int i) = (kitB "int" n).getD false) (h3 : ∀ s, f (.str s) = (kitB "str" n).getD false) (h4 : ∀ xs, f (.tup xs) = (kitB "tuple" n).getD false) (h5 : ∀ k, f (.ref k) = false) (k1 : (kitB "list" n).getD false = false) (k2 : (kitB "dict" n).getD false = false) : isT G d n = f d := by
  cases d with
  | ref k =>
    rw [h5]
    simp only [isT, tyD]
    cases e : G[k]? with
    | none => rfl
    | some o => cases o <;> first | exact k1 | exact k2 | rfl
  | non => exact h0.symm
  | bl b => exact (h1 b).symm
  | int i => exact (h2 i).symm
  | str s => exact (h3 s).symm
  | tup xs => exact (h4 xs).symm
theorem isi_tup {G : Gh} {d : Dt} (h : Ty G d) : isAny G isaF d [.ty "tuple"] = some (isTp d) := by
  rw [isi_T h rfl, isT_of (G := G) (d := d) "tuple" isTp] <;> first | decide +kernel | (intro x; show _ = _; rw [show (kitB _ "tuple").getD false = _ from by decide +kernel]; rfl) | (intro x; rfl)
theorem isi_bool {G : Gh} {d : Dt} (h : Ty G d) : isAny G isaF d [.ty "bool"] = some (isBlD d) := by
  rw [isi_T h rfl, isT_of (G := G) (d := d) "bool" isBlD] <;> first | decide +kernel | (intro x; show _ = _; rw [show (kitB _ "bool").getD false = _ from by decide +kernel]; rfl) | (intro x; rfl)
theorem isi_str {G : Gh} {d : Dt} (h : Ty G d) : isAny G isaF d [.ty "str"] = some (isStD d) := by
  rw [isi_T h rfl, isT_of (G := G) (d := d) "str" isStD] <;> first | decide +kernel | (intro x; show _ = _; rw [show (kitB _ "str").getD false = _ from by decide +kernel]; rfl) | (intro x; rfl)
theorem isi_int {G : Gh} {d : Dt} (h : Ty G d) : isAny G isaF d [.ty "int"] = some (isIbD d) := by
  rw [isi_T h rfl, isT_of (G := G) (d := d) "int" isIbD] <;> first | decide +kernel | (intro x; show _ = _; rw [show (kitB _ "int").getD false = _ from by decide +kernel]; rfl) | (intro x; rfl)
theorem tlen3 {xs : List Dt} (h : xs.length = 3) : ∃ a b c, xs = [a, b, c] := by
  match xs, h with
  | [a, b, c], _ => exact ⟨a, b, c, rfl⟩
local macro_rules | `(tactic| walk_at "wm") => `(tactic| try simp only [sem, env0, kwF, w_add, w_addT, w_sub, w_mul, w_mulT, w_mulL, w_addL, w_addF, w_fdiv, w_mod, w_pow, w_bor, w_shl, w_shr, w_aadd, w_aaddT, w_asub, w_abor, w_ashl, w_ashr, w_lt, w_le, w_gt, w_ge, w_is, w_isnot, w_eqI, w_neI, w_eqB, w_neB, w_eqS, w_neS, w_inT, w_ixT, w_ixL, w_at0, w_at1, w_at2, w_at3, w_at4, w_at5, w_at6, w_truB, w_truI, w_truT, w_len, w_abs, w_min, w_max, w_max3, w_sum, w_all, w_any, w_intI, w_intB, w_tuple, w_list, w_divmod, w_seqT, w_seqL, w_append, w_extend, w_extendT, w_popAt, w_index, w_store, w_slT, w_slL, isNonD, List.map_cons, List.map_nil, List.length_cons, List.length_nil, List.replicate, List.cons_append, List.nil_append, List.append_nil, List.getElem?_cons_zero, List.getElem?_cons_succ, List.set_cons_zero, List.set_cons_succ, Option.some.injEq, exists_eq_left', exists_eq_left, exists_eq', exists_eq, Nat.zero_add, Nat.reduceAdd, Nat.reduceSub, Dt.bl.injEq, Dt.int.injEq, Dt.tup.injEq, Dt.ref.injEq, if_true, if_false, Bool.false_eq_true, Bool.not_true, Bool.not_false, true_and, and_true, lenA, w_wR, w_wT, List.take_succ_cons, List.take_zero, List.drop_succ_cons, List.drop_zero, w_ex2, and_self, exists_const, reduceCtorEq, decide_eq_true_eq, wipeD])
local macro_rules | `(tactic| walk_at "wh") => `(tactic| try simp only [sem, env0, kwF, w_add, w_addT, w_sub, w_mul, w_mulT, w_mulL, w_addL, w_addF, w_fdiv, w_mod, w_pow, w_bor, w_shl, w_shr, w_aadd, w_aaddT, w_asub, w_abor, w_ashl, w_ashr, w_lt, w_le, w_gt, w_ge, w_is, w_isnot, w_eqI, w_neI, w_eqB, w_neB, w_eqS, w_neS, w_inT, w_ixT, u_ixL, w_at0, w_at1, w_at2, w_at3, w_truB, w_truI, w_truT, w_len, w_abs, w_min, w_max, w_max3, w_sum, w_all, w_any, w_intI, w_intB, w_tuple, w_list, w_divmod, w_seqT, w_seqL, w_append, w_extend, w_extendT, w_popAt, w_index, u_store, u_ixD, u_storeD, w_slT, w_slL, isNonD, List.map_cons, List.map_nil, List.length_cons, List.length_nil, List.replicate, List.cons_append, List.nil_append, List.append_nil, List.getElem?_cons_zero, List.getElem?_cons_succ, List.set_cons_zero, List.set_cons_succ, Option.some.injEq, exists_eq_left', exists_eq_left, exists_eq', exists_eq, Nat.zero_add, Nat.reduceAdd, Nat.reduceSub, Dt.bl.injEq, Dt.int.injEq, Dt.tup.injEq, Dt.ref.injEq, if_true, if_false, Bool.false_eq_true, Bool.not_true, Bool.not_false, true_and, and_true, lenA, w_wR, w_wT, List.take_succ_cons, List.take_zero, List.drop_succ_cons, List.drop_zero, w_ex2, and_self, exists_const, reduceCtorEq, decide_eq_true_eq, wipeD, u_self, u_selfG, List.set_set, List.length_set, u_ix10, u_ix20, u_ix21, u_ix30, u_ix31, u_ix32, u_ix40, u_ix41, u_ix42, u_ix43, w_at4, w_at5, w_at6, w_truN, u_sz0, u_sz1, u_sz2, u_sz3, u_sz4, u_sz5, u_sz6, u_sz7, u_sz8, Ob.lst.injEq, Ob.dct.injEq, Dt.str.injEq, not_true_eq_false, not_false_eq_true, Bool.or_false, Bool.and_true, decide_true, decide_false, ge_iff_le, gt_iff_lt, *])
local macro_rules | `(tactic| walk_at "ws") => `(tactic| simp only [q_full_full, q_full_drop, q_full_mark, q_full_come, q_full_send, q_full_bell, q_drop_full, q_drop_drop, q_drop_mark, q_drop_come, q_drop_send, q_drop_bell, q_mark_full, q_mark_drop, q_mark_mark, q_mark_come, q_mark_send, q_mark_bell, q_come_full, q_come_drop, q_come_mark, q_come_come, q_come_send, q_come_bell, q_send_full, q_send_drop, q_send_mark, q_send_come, q_send_send, q_send_bell, q_bell_full, q_bell_drop, q_bell_mark, q_bell_come, q_bell_send, q_bell_bell, q_late_late, q_late_share, q_late_none, q_share_late, q_share_share, q_share_none, q_none_late, q_none_share, q_none_none, Bool.not_true, Bool.not_false, Bool.false_eq_true, if_true, if_false])
local macro_rules | `(tactic| walk_at "tk") => `(tactic| (refine take_ok (by assumption) (by omega) (by omega) (by first | omega | (refine Int.lt_of_lt_of_le (b := 2 ^ 40) (by omega) (p2_le (by omega)))) fun _ _ _ _ _ _ => ?_; walk_at "wm"))
local macro_rules | `(tactic| walk_at "pk") => `(tactic| (refine pick (by assumption) (by omega) (by omega) (by simp) (by omega) fun _ _ hd _ _ => ?_; walk_at "wm"))
local macro_rules | `(tactic| walk_at "md") => `(tactic| first | assumption | exact Mod.refl | (refine Mod.trans (by assumption) ?_; walk_at "md"))
local macro_rules | `(tactic| walk_at "pt") => `(tactic| first | assumption | exact Pot.le (by assumption) (by omega))
local macro_rules | `(tactic| walk_at "sz") => `(tactic| (refine ⟨by first | omega | (rw [sizeLine_eq]; omega) | (rw [sizeLine_eq]; simp; omega), ?_⟩))
local macro_rules | `(tactic| walk_at "ex") => `(tactic| ((first | refine ⟨false, (isi_exc (by first | assumption | exact exc_app (by assumption) | exact exc_app (exc_app (by assumption))) _).trans (by decide), ?_⟩ | refine ⟨true, (isi_exc (by first | assumption | exact exc_app (by assumption) | exact exc_app (exc_app (by assumption))) _).trans (by decide), ?_⟩ | refine ⟨u_sz3, ?_⟩ | refine ⟨u_sz2, ?_⟩ | refine ⟨u_sz1, ?_⟩ | refine ⟨u_sz4, ?_⟩ | refine ⟨u_sz5, ?_⟩); walk_at "wm"))
local macro_rules | `(tactic| walk_at "nw") => `(tactic| simp only [new1, new2a, new1L, new2L, Option.some.injEq, Ob.lst.injEq, exists_eq_left', exists_eq_left, exists_eq', exists_eq, List.cons_append, List.nil_append, List.length_cons, List.length_nil, Nat.reduceAdd, Nat.zero_add, true_and])

def strC (s : Str) : Bool := PyData.strOk s && s.cps.toList.all fun c => decide (c < 16 ^ 8)
theorem sum_mem {f : Dt → Nat} : ∀ {ds : List Dt} {x : Dt}, x ∈ ds → f x ≤ (ds.map fun y => f y + 2).sum
  | [], x, h => by cases h
  | d :: ds, x, h => by
    rw [List.map_cons, List.sum_cons]
    rcases List.mem_cons.mp h with rfl | h
    · omega
    · have := sum_mem (f := f) h
      omega
/-- a list of constants: its cell, what it has -/
def ThL (G : Gh) (S : List Nat) (n L : Nat) (ds : List Dt) : Prop := ∀ x ∈ ds, thg G S n x ∧ lenT G n x ≤ L
theorem ThL.mv {G G' : Gh} {S : List Nat} {n L : Nat} {ds : List Dt} (h : ThL G S n L ds) (m : Mod S G G') : ThL G' S n L ds := fun x hx => by
  obtain ⟨a, _, c⟩ := thg_mv m (h x hx).1
  exact ⟨a, by rw [c]; exact (h x hx).2⟩
theorem ThL.app {G : Gh} {S : List Nat} {n L : Nat} {ds es : List Dt} (h : ThL G S n L ds) (g : ThL G S n L es) : ThL G S n L (ds ++ es) := fun x hx => (List.mem_append.mp hx).elim (h x) (g x)
theorem ThL.le {G : Gh} {S : List Nat} {n L M : Nat} {ds : List Dt} (h : ThL G S n L ds) (hl : L ≤ M) : ThL G S n M ds := fun x hx => ⟨(h x hx).1, Nat.le_trans (h x hx).2 hl⟩
local macro_rules | `(tactic| walk_at "wm") => `(tactic| try simp only [sem, env0, kwF, w_add, w_addT, w_sub, w_mul, w_mulT, w_mulL, w_addL, w_addF, w_fdiv, w_mod, w_pow, w_bor, w_shl, w_shr, w_aadd, w_aaddT, w_asub, w_abor, w_ashl, w_ashr, w_lt, w_le, w_gt, w_ge, w_is, w_isnot, w_eqI, w_neI, w_eqB, w_neB, w_eqS, w_neS, w_inT, w_ixT, w_ixL, w_at0, w_at1, w_at2, w_at3, w_at4, w_at5, w_at6, w_truB, w_truI, w_truT, w_len, w_abs, w_min, w_max, w_max3, w_sum, w_all, w_any, w_intI, w_intB, w_tuple, w_list, w_divmod, w_seqT, w_seqL, w_append, w_extend, w_extendT, w_popAt, w_index, w_store, w_slT, w_slL, isNonD, List.map_cons, List.map_nil, List.length_cons, List.length_nil, List.replicate, List.cons_append, List.nil_append, List.append_nil, List.getElem?_cons_zero, List.getElem?_cons_succ, List.set_cons_zero, List.set_cons_succ, Option.some.injEq, exists_eq_left', exists_eq_left, exists_eq', exists_eq, Nat.zero_add, Nat.reduceAdd, Nat.reduceSub, Dt.bl.injEq, Dt.int.injEq, Dt.tup.injEq, Dt.ref.injEq, if_true, if_false, Bool.false_eq_true, Bool.not_true, Bool.not_false, true_and, and_true, lenA, w_wR, w_wT, List.take_succ_cons, List.take_zero, List.drop_succ_cons, List.drop_zero, w_ex2, and_self, exists_const, reduceCtorEq, decide_eq_true_eq, wipeD])
local macro_rules | `(tactic| walk_at "wh") => `(tactic| try simp only [sem, env0, kwF, w_add, w_addT, w_sub, w_mul, w_mulT, w_mulL, w_addL, w_addF, w_fdiv, w_mod, w_pow, w_bor, w_shl, w_shr, w_aadd, w_aaddT, w_asub, w_abor, w_ashl, w_ashr, w_lt, w_le, w_gt, w_ge, w_is, w_isnot, w_eqI, w_neI, w_eqB, w_neB, w_eqS, w_neS, w_inT, w_ixT, u_ixL, w_at0, w_at1, w_at2, w_at3, w_truB, w_truI, w_truT, w_len, w_abs, w_min, w_max, w_max3, w_sum, w_all, w_any, w_intI, w_intB, w_tuple, w_list, w_divmod, w_seqT, w_seqL, w_append, w_extend, w_extendT, w_popAt, w_index, u_store, u_ixD, u_storeD, w_slT, w_slL, isNonD, List.map_cons, List.map_nil, List.length_cons, List.length_nil, List.replicate, List.cons_append, List.nil_append, List.append_nil, List.getElem?_cons_zero, List.getElem?_cons_succ, List.set_cons_zero, List.set_cons_succ, Option.some.injEq, exists_eq_left', exists_eq_left, exists_eq', exists_eq, Nat.zero_add, Nat.reduceAdd, Nat.reduceSub, Dt.bl.injEq, Dt.int.injEq, Dt.tup.injEq, Dt.ref.injEq, if_true, if_false, Bool.false_eq_true, Bool.not_true, Bool.not_false, true_and, and_true, lenA, w_wR, w_wT, List.take_succ_cons, List.take_zero, List.drop_succ_cons, List.drop_zero, w_ex2, and_self, exists_const, reduceCtorEq, decide_eq_true_eq, wipeD, u_self, u_selfG, List.set_set, List.length_set, u_ix10, u_ix20, u_ix21, u_ix30, u_ix31, u_ix32, u_ix40, u_ix41, u_ix42, u_ix43, w_at4, w_at5, w_at6, w_truN, u_sz0, u_sz1, u_sz2, u_sz3, u_sz4, u_sz5, u_sz6, u_sz7, u_sz8, Ob.lst.injEq, Ob.dct.injEq, Dt.str.injEq, not_true_eq_false, not_false_eq_true, Bool.or_false, Bool.and_true, decide_true, decide_false, ge_iff_le, gt_iff_lt, *])
local macro_rules | `(tactic| walk_at "ws") => `(tactic| simp only [q_full_full, q_full_drop, q_full_mark, q_full_come, q_full_send, q_full_bell, q_drop_full, q_drop_drop, q_drop_mark, q_drop_come, q_drop_send, q_drop_bell, q_mark_full, q_mark_drop, q_mark_mark, q_mark_come, q_mark_send, q_mark_bell, q_come_full, q_come_drop, q_come_mark, q_come_come, q_come_send, q_come_bell, q_send_full, q_send_drop, q_send_mark, q_send_come, q_send_send, q_send_bell, q_bell_full, q_bell_drop, q_bell_mark, q_bell_come, q_bell_send, q_bell_bell, q_late_late, q_late_share, q_late_none, q_share_late, q_share_share, q_share_none, q_none_late, q_none_share, q_none_none, Bool.not_true, Bool.not_false, Bool.false_eq_true, if_true, if_false])
local macro_rules | `(tactic| walk_at "tk") => `(tactic| (refine take_ok (by assumption) (by omega) (by omega) (by first | omega | (refine Int.lt_of_lt_of_le (b := 2 ^ 40) (by omega) (p2_le (by omega)))) fun _ _ _ _ _ _ => ?_; walk_at "wm"))
local macro_rules | `(tactic| walk_at "pk") => `(tactic| (refine pick (by assumption) (by omega) (by omega) (by simp) (by omega) fun _ _ hd _ _ => ?_; walk_at "wm"))
local macro_rules | `(tactic| walk_at "md") => `(tactic| first | assumption | exact Mod.refl | (refine Mod.trans (by assumption) ?_; walk_at "md"))
local macro_rules | `(tactic| walk_at "pt") => `(tactic| first | assumption | exact Pot.le (by assumption) (by omega))
local macro_rules | `(tactic| walk_at "sz") => `(tactic| (refine ⟨by first | omega | (rw [sizeLine_eq]; omega) | (rw [sizeLine_eq]; simp; omega), ?_⟩))
local macro_rules | `(tactic| walk_at "ex") => `(tactic| ((first | refine ⟨false, (isi_exc (by first | assumption | exact exc_app (by assumption) | exact exc_app (exc_app (by assumption))) _).trans (by decide), ?_⟩ | refine ⟨true, (isi_exc (by first | assumption | exact exc_app (by assumption) | exact exc_app (exc_app (by assumption))) _).trans (by decide), ?_⟩ | refine ⟨u_sz3, ?_⟩ | refine ⟨u_sz2, ?_⟩ | refine ⟨u_sz1, ?_⟩ | refine ⟨u_sz4, ?_⟩ | refine ⟨u_sz5, ?_⟩); walk_at "wm"))
local macro_rules | `(tactic| walk_at "nw") => `(tactic| simp only [new1, new2a, new1L, new2L, Option.some.injEq, Ob.lst.injEq, exists_eq_left', exists_eq_left, exists_eq', exists_eq, List.cons_append, List.nil_append, List.length_cons, List.length_nil, Nat.reduceAdd, Nat.zero_add, true_and])

theorem Mod.wk {S T : List Nat} {G G' : Gh} (m : Mod S G G') (h : ∀ x ∈ S, x ∈ T) : Mod T G G' := ⟨m.len, fun j hj hn => m.get j hj fun z => hn (h j z)⟩
theorem Mod.to {p : Nat} {T : List Nat} {G G' : Gh} (m : Mod [p] G G') (h : p ∈ T) : Mod T G G' := m.wk fun x hx => by rw [List.mem_singleton.mp hx]; exact h
theorem hS_up {S : List Nat} {G G' : Gh} (hS : ∀ s ∈ S, s < G.length) (h : G.length ≤ G'.length) : ∀ s ∈ S, s < G'.length := fun s hs => Nat.lt_of_lt_of_le (hS s hs) h
local macro_rules | `(tactic| walk_at "wm") => `(tactic| try simp only [sem, env0, kwF, w_add, w_addT, w_sub, w_mul, w_mulT, w_mulL, w_addL, w_addF, w_fdiv, w_mod, w_pow, w_bor, w_shl, w_shr, w_aadd, w_aaddT, w_asub, w_abor, w_ashl, w_ashr, w_lt, w_le, w_gt, w_ge, w_is, w_isnot, w_eqI, w_neI, w_eqB, w_neB, w_eqS, w_neS, w_inT, w_ixT, w_ixL, w_at0, w_at1, w_at2, w_at3, w_at4, w_at5, w_at6, w_truB, w_truI, w_truT, w_len, w_abs, w_min, w_max, w_max3, w_sum, w_all, w_any, w_intI, w_intB, w_tuple, w_list, w_divmod, w_seqT, w_seqL, w_append, w_extend, w_extendT, w_popAt, w_index, w_store, w_slT, w_slL, isNonD, List.map_cons, List.map_nil, List.length_cons, List.length_nil, List.replicate, List.cons_append, List.nil_append, List.append_nil, List.getElem?_cons_zero, List.getElem?_cons_succ, List.set_cons_zero, List.set_cons_succ, Option.some.injEq, exists_eq_left', exists_eq_left, exists_eq', exists_eq, Nat.zero_add, Nat.reduceAdd, Nat.reduceSub, Dt.bl.injEq, Dt.int.injEq, Dt.tup.injEq, Dt.ref.injEq, if_true, if_false, Bool.false_eq_true, Bool.not_true, Bool.not_false, true_and, and_true, lenA, w_wR, w_wT, List.take_succ_cons, List.take_zero, List.drop_succ_cons, List.drop_zero, w_ex2, and_self, exists_const, reduceCtorEq, decide_eq_true_eq, wipeD])
local macro_rules | `(tactic| walk_at "wh") => `(tactic| try simp only [sem, env0, kwF, w_add, w_addT, w_sub, w_mul, w_mulT, w_mulL, w_addL, w_addF, w_fdiv, w_mod, w_pow, w_bor, w_shl, w_shr, w_aadd, w_aaddT, w_asub, w_abor, w_ashl, w_ashr, w_lt, w_le, w_gt, w_ge, w_is, w_isnot, w_eqI, w_neI, w_eqB, w_neB, w_eqS, w_neS, w_inT, w_ixT, u_ixL, w_at0, w_at1, w_at2, w_at3, w_truB, w_truI, w_truT, w_len, w_abs, w_min, w_max, w_max3, w_sum, w_all, w_any, w_intI, w_intB, w_tuple, w_list, w_divmod, w_seqT, w_seqL, w_append, w_extend, w_extendT, w_popAt, w_index, u_store, u_ixD, u_storeD, w_slT, w_slL, isNonD, List.map_cons, List.map_nil, List.length_cons, List.length_nil, List.replicate, List.cons_append, List.nil_append, List.append_nil, List.getElem?_cons_zero, List.getElem?_cons_succ, List.set_cons_zero, List.set_cons_succ, Option.some.injEq, exists_eq_left', exists_eq_left, exists_eq', exists_eq, Nat.zero_add, Nat.reduceAdd, Nat.reduceSub, Dt.bl.injEq, Dt.int.injEq, Dt.tup.injEq, Dt.ref.injEq, if_true, if_false, Bool.false_eq_true, Bool.not_true, Bool.not_false, true_and, and_true, lenA, w_wR, w_wT, List.take_succ_cons, List.take_zero, List.drop_succ_cons, List.drop_zero, w_ex2, and_self, exists_const, reduceCtorEq, decide_eq_true_eq, wipeD, u_self, u_selfG, List.set_set, List.length_set, u_ix10, u_ix20, u_ix21, u_ix30, u_ix31, u_ix32, u_ix40, u_ix41, u_ix42, u_ix43, w_at4, w_at5, w_at6, w_truN, u_sz0, u_sz1, u_sz2, u_sz3, u_sz4, u_sz5, u_sz6, u_sz7, u_sz8, Ob.lst.injEq, Ob.dct.injEq, Dt.str.injEq, not_true_eq_false, not_false_eq_true, Bool.or_false, Bool.and_true, decide_true, decide_false, ge_iff_le, gt_iff_lt, *])
local macro_rules | `(tactic| walk_at "ws") => `(tactic| simp only [q_full_full, q_full_drop, q_full_mark, q_full_come, q_full_send, q_full_bell, q_drop_full, q_drop_drop, q_drop_mark, q_drop_come, q_drop_send, q_drop_bell, q_mark_full, q_mark_drop, q_mark_mark, q_mark_come, q_mark_send, q_mark_bell, q_come_full, q_come_drop, q_come_mark, q_come_come, q_come_send, q_come_bell, q_send_full, q_send_drop, q_send_mark, q_send_come, q_send_send, q_send_bell, q_bell_full, q_bell_drop, q_bell_mark, q_bell_come, q_bell_send, q_bell_bell, q_late_late, q_late_share, q_late_none, q_share_late, q_share_share, q_share_none, q_none_late, q_none_share, q_none_none, Bool.not_true, Bool.not_false, Bool.false_eq_true, if_true, if_false])
local macro_rules | `(tactic| walk_at "tk") => `(tactic| (refine take_ok (by assumption) (by omega) (by omega) (by first | omega | (refine Int.lt_of_lt_of_le (b := 2 ^ 40) (by omega) (p2_le (by omega)))) fun _ _ _ _ _ _ => ?_; walk_at "wm"))
local macro_rules | `(tactic| walk_at "pk") => `(tactic| (refine pick (by assumption) (by omega) (by omega) (by simp) (by omega) fun _ _ hd _ _ => ?_; walk_at "wm"))
local macro_rules | `(tactic| walk_at "md") => `(tactic| first | assumption | exact Mod.refl | (refine Mod.trans (by assumption) ?_; walk_at "md"))
local macro_rules | `(tactic| walk_at "pt") => `(tactic| first | assumption | exact Pot.le (by assumption) (by omega))
local macro_rules | `(tactic| walk_at "sz") => `(tactic| (refine ⟨by first | omega | (rw [sizeLine_eq]; omega) | (rw [sizeLine_eq]; simp; omega), ?_⟩))
local macro_rules | `(tactic| walk_at "ex") => `(tactic| ((first | refine ⟨false, (isi_exc (by first | assumption | exact exc_app (by assumption) | exact exc_app (exc_app (by assumption))) _).trans (by decide), ?_⟩ | refine ⟨true, (isi_exc (by first | assumption | exact exc_app (by assumption) | exact exc_app (exc_app (by assumption))) _).trans (by decide), ?_⟩ | refine ⟨u_sz3, ?_⟩ | refine ⟨u_sz2, ?_⟩ | refine ⟨u_sz1, ?_⟩ | refine ⟨u_sz4, ?_⟩ | refine ⟨u_sz5, ?_⟩); walk_at "wm"))
local macro_rules | `(tactic| walk_at "nw") => `(tactic| simp only [new1, new2a, new1L, new2L, Option.some.injEq, Ob.lst.injEq, exists_eq_left', exists_eq_left, exists_eq', exists_eq, List.cons_append, List.nil_append, List.length_cons, List.length_nil, Nat.reduceAdd, Nat.zero_add, true_and])

theorem ThL.up {G : Gh} {S : List Nat} {n m L : Nat} {ds : List Dt} (h : ThL G S n L ds) (hm : n ≤ m) : ThL G S m L ds := fun x hx => by
  obtain ⟨a, _, c⟩ := thg_le (h x hx).1 hm
  exact ⟨a, by rw [c]; exact (h x hx).2⟩
theorem ThL.take {G : Gh} {S : List Nat} {n L i : Nat} {ds : List Dt} (h : ThL G S n L ds) : ThL G S n L (ds.take i) := fun x hx => h x (List.mem_of_mem_take hx)
theorem ThL.drop {G : Gh} {S : List Nat} {n L i : Nat} {ds : List Dt} (h : ThL G S n L ds) : ThL G S n L (ds.drop i) := fun x hx => h x (List.mem_of_mem_drop hx)
theorem ThL.rev {G : Gh} {S : List Nat} {n L : Nat} {ds : List Dt} (h : ThL G S n L ds) : ThL G S n L ds.reverse := fun x hx => h x (List.mem_reverse.mp hx)
theorem ThL.one {G : Gh} {S : List Nat} {n L : Nat} {d : Dt} (h : thg G S n d) (hl : lenT G n d ≤ L) : ThL G S n L [d] := fun x hx => by rw [List.mem_singleton.mp hx]; exact ⟨h, hl⟩
theorem ThL.nil {G : Gh} {S : List Nat} {n L : Nat} : ThL G S n L [] := fun x hx => by cases hx
theorem ThL.cons {G : Gh} {S : List Nat} {n L : Nat} {d : Dt} {ds : List Dt} (h : thg G S n d) (hl : lenT G n d ≤ L) (g : ThL G S n L ds) : ThL G S n L (d :: ds) := fun x hx => by
  rcases List.mem_cons.mp hx with rfl | hx
  · exact ⟨h, hl⟩
  · exact g x hx
theorem thl_sum {G : Gh} {S : List Nat} {n L : Nat} : ∀ {ds : List Dt}, ThL G S n L ds → (ds.map fun x => lenT G n x + 2).sum ≤ ds.length * (L + 2)
  | [], _ => Nat.zero_le _
  | d :: ds, h => by
    have a := (h d List.mem_cons_self).2
    have b := thl_sum (ds := ds) fun x hx => h x (List.mem_cons_of_mem _ hx)
    rw [List.map_cons, List.sum_cons, List.length_cons, Nat.succ_mul]
    omega
/-- at most so long, of so many levels -/
def Th (G : Gh) (S : List Nat) (n L : Nat) (d : Dt) : Prop := thg G S n d ∧ lenT G n d ≤ L
theorem Th.mv {G G' : Gh} {S : List Nat} {n L : Nat} {d : Dt} (h : Th G S n L d) (m : Mod S G G') : Th G' S n L d := by
  obtain ⟨a, _, c⟩ := thg_mv m h.1
  exact ⟨a, by rw [c]; exact h.2⟩
theorem Th.up {G : Gh} {S : List Nat} {n m L M : Nat} {d : Dt} (h : Th G S n L d) (hm : n ≤ m) (hl : L ≤ M) : Th G S m M d := by
  obtain ⟨a, _, c⟩ := thg_le h.1 hm
  exact ⟨a, by rw [c]; exact Nat.le_trans h.2 hl⟩
theorem th_int {G : Gh} {S : List Nat} {n L : Nat} {i : Int} (h : i.natAbs < 2 ^ 600) (hl : 601 ≤ L) : Th G S n L (.int i) := ⟨by rw [thg_int]; exact h, by rw [lenT_int]; exact hl⟩
theorem th_bl {G : Gh} {S : List Nat} {n L : Nat} {b : Bool} (hl : 601 ≤ L) : Th G S n L (.bl b) := ⟨by rw [thg_bl]; trivial, by rw [lenT_bl]; omega⟩
theorem th_non {G : Gh} {S : List Nat} {n L : Nat} (hl : 601 ≤ L) : Th G S n L .non := ⟨by rw [thg_non]; trivial, by rw [lenT_non]; omega⟩
theorem sm600 {i : Int} (h0 : -(2 ^ 62) ≤ i) (h1 : i ≤ 2 ^ 62) : i.natAbs < 2 ^ 600 := Nat.lt_of_lt_of_le (show i.natAbs < 2 ^ 63 by omega) (Nat.pow_le_pow_right (by omega) (by omega))
/-- things in a row: what they come to -/
def ThS (G : Gh) (S : List Nat) (n L : Nat) (ds : List Dt) : Prop := (∀ x ∈ ds, thg G S n x) ∧ (ds.map fun x => lenT G n x + 2).sum ≤ L
section
variable {G G' : Gh} {S : List Nat} {n m L M : Nat} {ds es : List Dt} {d : Dt}
theorem ThS.mv (h : ThS G S n L ds) (m : Mod S G G') : ThS G' S n L ds := ⟨fun x hx => (thg_mv m (h.1 x hx)).1, by rw [List.map_congr_left fun x hx => congrArg (· + 2) (thg_mv m (h.1 x hx)).2.2]; exact h.2⟩
theorem ThS.up (h : ThS G S n L ds) (hm : n ≤ m) (hl : L ≤ M) : ThS G S m M ds := ⟨fun x hx => (thg_le (h.1 x hx) hm).1, by rw [List.map_congr_left fun x hx => congrArg (· + 2) (thg_le (h.1 x hx) hm).2.2]; exact Nat.le_trans h.2 hl⟩
theorem ThS.app (h : ThS G S n L ds) (g : ThS G S n M es) : ThS G S n (L + M) (ds ++ es) := ⟨fun x hx => (List.mem_append.mp hx).elim (h.1 x) (g.1 x), by rw [List.map_append, List.sum_append]; have := h.2; have := g.2; omega⟩
theorem sum_sub {f : Dt → Nat} : ∀ {es ds : List Dt}, es.Sublist ds → (es.map f).sum ≤ (ds.map f).sum
  | _, _, .slnil => Nat.le_refl _
  | _, _, .cons a h => by rw [List.map_cons, List.sum_cons]; have := sum_sub (f := f) h; omega
  | _, _, .cons₂ a h => by rw [List.map_cons, List.sum_cons, List.map_cons, List.sum_cons]; have := sum_sub (f := f) h; omega
theorem ThS.sub (h : ThS G S n L ds) (hs : es.Sublist ds) : ThS G S n L es := ⟨fun x hx => h.1 x (hs.subset hx), Nat.le_trans (sum_sub hs) h.2⟩
theorem ThS.take (h : ThS G S n L ds) {i : Nat} : ThS G S n L (ds.take i) := h.sub (List.take_sublist _ _)
theorem ThS.drop (h : ThS G S n L ds) {i : Nat} : ThS G S n L (ds.drop i) := h.sub (List.drop_sublist _ _)
theorem ThS.rev (h : ThS G S n L ds) : ThS G S n L ds.reverse := ⟨fun x hx => h.1 x (List.mem_reverse.mp hx), by rw [List.map_reverse, List.sum_reverse]; exact h.2⟩
theorem ThS.one (h : Th G S n L d) : ThS G S n (L + 2) [d] := ⟨fun x hx => by rw [List.mem_singleton.mp hx]; exact h.1, by have := h.2; simp; omega⟩
theorem ThS.nil : ThS G S n L [] := ⟨fun x hx => (by cases hx), Nat.zero_le _⟩
theorem ThS.all (h : ∀ x ∈ ds, Th G S n L x) (hm : ds.length ≤ m) : ThS G S n (m * (L + 2)) ds := ⟨fun x hx => (h x hx).1, Nat.le_trans (thl_sum (L := L) h) (Nat.mul_le_mul_right _ hm)⟩
theorem ThS.tup (h : ThS G S n L ds) : Th G S (n + 1) (L + 3) (.tup ds) := ⟨by rw [thg_tup]; exact h.1, by rw [lenT_tup]; have := h.2; omega⟩
theorem ThS.lst {q : Nat} (h : ThS G S n L ds) (e : G[q]? = some (.lst ds)) (hq : q ∉ S) : Th G S (n + 1) (L + 3) (.ref q) := ⟨by rw [thg_ref]; exact ⟨hq, .inl ⟨ds, e, h.1⟩⟩, by rw [lenT_lst e]; have := h.2; omega⟩
theorem Th.le (h : Th G S n L d) (hl : L ≤ M) : Th G S n M d := ⟨h.1, Nat.le_trans h.2 hl⟩
end
local macro_rules | `(tactic| walk_at "wm") => `(tactic| try simp only [sem, env0, kwF, w_add, w_addT, w_sub, w_mul, w_mulT, w_mulL, w_addL, w_addF, w_fdiv, w_mod, w_pow, w_bor, w_shl, w_shr, w_aadd, w_aaddT, w_asub, w_abor, w_ashl, w_ashr, w_lt, w_le, w_gt, w_ge, w_is, w_isnot, w_eqI, w_neI, w_eqB, w_neB, w_eqS, w_neS, w_inT, w_ixT, w_ixL, w_at0, w_at1, w_at2, w_at3, w_at4, w_at5, w_at6, w_truB, w_truI, w_truT, w_len, w_abs, w_min, w_max, w_max3, w_sum, w_all, w_any, w_intI, w_intB, w_tuple, w_list, w_divmod, w_seqT, w_seqL, w_append, w_extend, w_extendT, w_popAt, w_index, w_store, w_slT, w_slL, isNonD, List.map_cons, List.map_nil, List.length_cons, List.length_nil, List.replicate, List.cons_append, List.nil_append, List.append_nil, List.getElem?_cons_zero, List.getElem?_cons_succ, List.set_cons_zero, List.set_cons_succ, Option.some.injEq, exists_eq_left', exists_eq_left, exists_eq', exists_eq, Nat.zero_add, Nat.reduceAdd, Nat.reduceSub, Dt.bl.injEq, Dt.int.injEq, Dt.tup.injEq, Dt.ref.injEq, if_true, if_false, Bool.false_eq_true, Bool.not_true, Bool.not_false, true_and, and_true, lenA, w_wR, w_wT, List.take_succ_cons, List.take_zero, List.drop_succ_cons, List.drop_zero, w_ex2, and_self, exists_const, reduceCtorEq, decide_eq_true_eq, wipeD])
local macro_rules | `(tactic| walk_at "wh") => `(tactic| try simp only [sem, env0, kwF, w_add, w_addT, w_sub, w_mul, w_mulT, w_mulL, w_addL, w_addF, w_fdiv, w_mod, w_pow, w_bor, w_shl, w_shr, w_aadd, w_aaddT, w_asub, w_abor, w_ashl, w_ashr, w_lt, w_le, w_gt, w_ge, w_is, w_isnot, w_eqI, w_neI, w_eqB, w_neB, w_eqS, w_neS, w_inT, w_ixT, u_ixL, w_at0, w_at1, w_at2, w_at3, w_truB, w_truI, w_truT, w_len, w_abs, w_min, w_max, w_max3, w_sum, w_all, w_any, w_intI, w_intB, w_tuple, w_list, w_divmod, w_seqT, w_seqL, w_append, w_extend, w_extendT, w_popAt, w_index, u_store, u_ixD, u_storeD, w_slT, w_slL, isNonD, List.map_cons, List.map_nil, List.length_cons, List.length_nil, List.replicate, List.cons_append, List.nil_append, List.append_nil, List.getElem?_cons_zero, List.getElem?_cons_succ, List.set_cons_zero, List.set_cons_succ, Option.some.injEq, exists_eq_left', exists_eq_left, exists_eq', exists_eq, Nat.zero_add, Nat.reduceAdd, Nat.reduceSub, Dt.bl.injEq, Dt.int.injEq, Dt.tup.injEq, Dt.ref.injEq, if_true, if_false, Bool.false_eq_true, Bool.not_true, Bool.not_false, true_and, and_true, lenA, w_wR, w_wT, List.take_succ_cons, List.take_zero, List.drop_succ_cons, List.drop_zero, w_ex2, and_self, exists_const, reduceCtorEq, decide_eq_true_eq, wipeD, u_self, u_selfG, List.set_set, List.length_set, u_ix10, u_ix20, u_ix21, u_ix30, u_ix31, u_ix32, u_ix40, u_ix41, u_ix42, u_ix43, w_at4, w_at5, w_at6, w_truN, u_sz0, u_sz1, u_sz2, u_sz3, u_sz4, u_sz5, u_sz6, u_sz7, u_sz8, Ob.lst.injEq, Ob.dct.injEq, Dt.str.injEq, not_true_eq_false, not_false_eq_true, Bool.or_false, Bool.and_true, decide_true, decide_false, ge_iff_le, gt_iff_lt, *])
local macro_rules | `(tactic| walk_at "ws") => `(tactic| simp only [q_full_full, q_full_drop, q_full_mark, q_full_come, q_full_send, q_full_bell, q_drop_full, q_drop_drop, q_drop_mark, q_drop_come, q_drop_send, q_drop_bell, q_mark_full, q_mark_drop, q_mark_mark, q_mark_come, q_mark_send, q_mark_bell, q_come_full, q_come_drop, q_come_mark, q_come_come, q_come_send, q_come_bell, q_send_full, q_send_drop, q_send_mark, q_send_come, q_send_send, q_send_bell, q_bell_full, q_bell_drop, q_bell_mark, q_bell_come, q_bell_send, q_bell_bell, q_late_late, q_late_share, q_late_none, q_share_late, q_share_share, q_share_none, q_none_late, q_none_share, q_none_none, Bool.not_true, Bool.not_false, Bool.false_eq_true, if_true, if_false])
local macro_rules | `(tactic| walk_at "tk") => `(tactic| (refine take_ok (by assumption) (by omega) (by omega) (by first | omega | (refine Int.lt_of_lt_of_le (b := 2 ^ 40) (by omega) (p2_le (by omega)))) fun _ _ _ _ _ _ => ?_; walk_at "wm"))
local macro_rules | `(tactic| walk_at "pk") => `(tactic| (refine pick (by assumption) (by omega) (by omega) (by simp) (by omega) fun _ _ hd _ _ => ?_; walk_at "wm"))
local macro_rules | `(tactic| walk_at "md") => `(tactic| first | assumption | exact Mod.refl | (refine Mod.trans (by assumption) ?_; walk_at "md"))
local macro_rules | `(tactic| walk_at "pt") => `(tactic| first | assumption | exact Pot.le (by assumption) (by omega))
local macro_rules | `(tactic| walk_at "sz") => `(tactic| (refine ⟨by first | omega | (rw [sizeLine_eq]; omega) | (rw [sizeLine_eq]; simp; omega), ?_⟩))
local macro_rules | `(tactic| walk_at "ex") => `(tactic| ((first | refine ⟨false, (isi_exc (by first | assumption | exact exc_app (by assumption) | exact exc_app (exc_app (by assumption))) _).trans (by decide), ?_⟩ | refine ⟨true, (isi_exc (by first | assumption | exact exc_app (by assumption) | exact exc_app (exc_app (by assumption))) _).trans (by decide), ?_⟩ | refine ⟨u_sz3, ?_⟩ | refine ⟨u_sz2, ?_⟩ | refine ⟨u_sz1, ?_⟩ | refine ⟨u_sz4, ?_⟩ | refine ⟨u_sz5, ?_⟩); walk_at "wm"))
local macro_rules | `(tactic| walk_at "nw") => `(tactic| simp only [new1, new2a, new1L, new2L, Option.some.injEq, Ob.lst.injEq, exists_eq_left', exists_eq_left, exists_eq', exists_eq, List.cons_append, List.nil_append, List.length_cons, List.length_nil, Nat.reduceAdd, Nat.zero_add, true_and])

theorem gnD {k i : Nat} {d : Dt} {env : En} {G : Gh} {Q : En → Gh → Prop} {E : XQ} (h : Q (env.set i (some d)) G) : (sem (C k) (kwF kwd) isaF (.gn i)).g d env G Q E := h
local macro_rules | `(tactic| walk_at "wm") => `(tactic| try simp only [sem, env0, kwF, w_add, w_addT, w_sub, w_mul, w_mulT, w_mulL, w_addL, w_addF, w_fdiv, w_mod, w_pow, w_bor, w_shl, w_shr, w_aadd, w_aaddT, w_asub, w_abor, w_ashl, w_ashr, w_lt, w_le, w_gt, w_ge, w_is, w_isnot, w_eqI, w_neI, w_eqB, w_neB, w_eqS, w_neS, w_inT, w_ixT, w_ixL, w_at0, w_at1, w_at2, w_at3, w_at4, w_at5, w_at6, w_truB, w_truI, w_truT, w_len, w_abs, w_min, w_max, w_max3, w_sum, w_all, w_any, w_intI, w_intB, w_tuple, w_list, w_divmod, w_seqT, w_seqL, w_append, w_extend, w_extendT, w_popAt, w_index, w_store, w_slT, w_slL, isNonD, List.map_cons, List.map_nil, List.length_cons, List.length_nil, List.replicate, List.cons_append, List.nil_append, List.append_nil, List.getElem?_cons_zero, List.getElem?_cons_succ, List.set_cons_zero, List.set_cons_succ, Option.some.injEq, exists_eq_left', exists_eq_left, exists_eq', exists_eq, Nat.zero_add, Nat.reduceAdd, Nat.reduceSub, Dt.bl.injEq, Dt.int.injEq, Dt.tup.injEq, Dt.ref.injEq, if_true, if_false, Bool.false_eq_true, Bool.not_true, Bool.not_false, true_and, and_true, lenA, w_wR, w_wT, List.take_succ_cons, List.take_zero, List.drop_succ_cons, List.drop_zero, w_ex2, and_self, exists_const, reduceCtorEq, decide_eq_true_eq, wipeD])
local macro_rules | `(tactic| walk_at "wh") => `(tactic| try simp only [sem, env0, kwF, w_add, w_addT, w_sub, w_mul, w_mulT, w_mulL, w_addL, w_addF, w_fdiv, w_mod, w_pow, w_bor, w_shl, w_shr, w_aadd, w_aaddT, w_asub, w_abor, w_ashl, w_ashr, w_lt, w_le, w_gt, w_ge, w_is, w_isnot, w_eqI, w_neI, w_eqB, w_neB, w_eqS, w_neS, w_inT, w_ixT, u_ixL, w_at0, w_at1, w_at2, w_at3, w_truB, w_truI, w_truT, w_len, w_abs, w_min, w_max, w_max3, w_sum, w_all, w_any, w_intI, w_intB, w_tuple, w_list, w_divmod, w_seqT, w_seqL, w_append, w_extend, w_extendT, w_popAt, w_index, u_store, u_ixD, u_storeD, w_slT, w_slL, isNonD, List.map_cons, List.map_nil, List.length_cons, List.length_nil, List.replicate, List.cons_append, List.nil_append, List.append_nil, List.getElem?_cons_zero, List.getElem?_cons_succ, List.set_cons_zero, List.set_cons_succ, Option.some.injEq, exists_eq_left', exists_eq_left, exists_eq', exists_eq, Nat.zero_add, Nat.reduceAdd, Nat.reduceSub, Dt.bl.injEq, Dt.int.injEq, Dt.tup.injEq, Dt.ref.injEq, if_true, if_false, Bool.false_eq_true, Bool.not_true, Bool.not_false, true_and, and_true, lenA, w_wR, w_wT, List.take_succ_cons, List.take_zero, List.drop_succ_cons, List.drop_zero, w_ex2, and_self, exists_const, reduceCtorEq, decide_eq_true_eq, wipeD, u_self, u_selfG, List.set_set, List.length_set, u_ix10, u_ix20, u_ix21, u_ix30, u_ix31, u_ix32, u_ix40, u_ix41, u_ix42, u_ix43, w_at4, w_at5, w_at6, w_truN, u_sz0, u_sz1, u_sz2, u_sz3, u_sz4, u_sz5, u_sz6, u_sz7, u_sz8, Ob.lst.injEq, Ob.dct.injEq, Dt.str.injEq, not_true_eq_false, not_false_eq_true, Bool.or_false, Bool.and_true, decide_true, decide_false, ge_iff_le, gt_iff_lt, *])
local macro_rules | `(tactic| walk_at "ws") => `(tactic| simp only [q_full_full, q_full_drop, q_full_mark, q_full_come, q_full_send, q_full_bell, q_drop_full, q_drop_drop, q_drop_mark, q_drop_come, q_drop_send, q_drop_bell, q_mark_full, q_mark_drop, q_mark_mark, q_mark_come, q_mark_send, q_mark_bell, q_come_full, q_come_drop, q_come_mark, q_come_come, q_come_send, q_come_bell, q_send_full, q_send_drop, q_send_mark, q_send_come, q_send_send, q_send_bell, q_bell_full, q_bell_drop, q_bell_mark, q_bell_come, q_bell_send, q_bell_bell, q_late_late, q_late_share, q_late_none, q_share_late, q_share_share, q_share_none, q_none_late, q_none_share, q_none_none, Bool.not_true, Bool.not_false, Bool.false_eq_true, if_true, if_false])
local macro_rules | `(tactic| walk_at "tk") => `(tactic| (refine take_ok (by assumption) (by omega) (by omega) (by first | omega | (refine Int.lt_of_lt_of_le (b := 2 ^ 40) (by omega) (p2_le (by omega)))) fun _ _ _ _ _ _ => ?_; walk_at "wm"))
local macro_rules | `(tactic| walk_at "pk") => `(tactic| (refine pick (by assumption) (by omega) (by omega) (by simp) (by omega) fun _ _ hd _ _ => ?_; walk_at "wm"))
local macro_rules | `(tactic| walk_at "md") => `(tactic| first | assumption | exact Mod.refl | (refine Mod.trans (by assumption) ?_; walk_at "md"))
local macro_rules | `(tactic| walk_at "pt") => `(tactic| first | assumption | exact Pot.le (by assumption) (by omega))
local macro_rules | `(tactic| walk_at "sz") => `(tactic| (refine ⟨by first | omega | (rw [sizeLine_eq]; omega) | (rw [sizeLine_eq]; simp; omega), ?_⟩))
local macro_rules | `(tactic| walk_at "ex") => `(tactic| ((first | refine ⟨false, (isi_exc (by first | assumption | exact exc_app (by assumption) | exact exc_app (exc_app (by assumption))) _).trans (by decide), ?_⟩ | refine ⟨true, (isi_exc (by first | assumption | exact exc_app (by assumption) | exact exc_app (exc_app (by assumption))) _).trans (by decide), ?_⟩ | refine ⟨u_sz3, ?_⟩ | refine ⟨u_sz2, ?_⟩ | refine ⟨u_sz1, ?_⟩ | refine ⟨u_sz4, ?_⟩ | refine ⟨u_sz5, ?_⟩); walk_at "wm"))
local macro_rules | `(tactic| walk_at "nw") => `(tactic| simp only [new1, new2a, new1L, new2L, Option.some.injEq, Ob.lst.injEq, exists_eq_left', exists_eq_left, exists_eq', exists_eq, List.cons_append, List.nil_append, List.length_cons, List.length_nil, Nat.reduceAdd, Nat.zero_add, true_and])

def isS (w : Str) : Dt → Bool
  | .str s => s == w
  | _ => false
def noneAny : Dt → Bool
  | .tup [a] => isS "none" a
  | _ => false
def lateAny : Dt → Bool
  | .tup [a, b, c] => isS "late" a && (within b 1 99 && within c 1 99)
  | _ => false
def shareAny : Dt → Bool
  | .tup [a, m, p, u, t] => isS "share" a && (within m 1 99 && (within p 1 99 && (within u 0 999 && within t 0 999)))
  | _ => false
def ruleAny (d : Dt) : Bool := noneAny d || (lateAny d || shareAny d)
theorem tlen1 {xs : List Dt} (h : xs.length = 1) : ∃ a, xs = [a] := by
  match xs, h with
  | [a], _ => exact ⟨a, rfl⟩
theorem tlen4 {xs : List Dt} (h : xs.length = 4) : ∃ a b c d, xs = [a, b, c, d] := by
  match xs, h with
  | [a, b, c, d], _ => exact ⟨a, b, c, d, rfl⟩
theorem tlen5 {xs : List Dt} (h : xs.length = 5) : ∃ a b c d e, xs = [a, b, c, d, e] := by
  match xs, h with
  | [a, b, c, d, e], _ => exact ⟨a, b, c, d, e, rfl⟩
theorem noneAny_ne {xs : List Dt} (h : xs.length ≠ 1) : noneAny (.tup xs) = false := by
  match xs, h with
  | [], _ => rfl
  | [_], h => exact (h rfl).elim
  | _ :: _ :: _, _ => rfl
theorem lateAny_ne {xs : List Dt} (h : xs.length ≠ 3) : lateAny (.tup xs) = false := by
  match xs, h with
  | [], _ => rfl
  | [_], _ => rfl
  | [_, _], _ => rfl
  | [_, _, _], h => exact (h rfl).elim
  | _ :: _ :: _ :: _ :: _, _ => rfl
theorem shareAny_ne {xs : List Dt} (h : xs.length ≠ 5) : shareAny (.tup xs) = false := by
  match xs, h with
  | [], _ => rfl
  | [_], _ => rfl
  | [_, _], _ => rfl
  | [_, _, _], _ => rfl
  | [_, _, _, _], _ => rfl
  | [_, _, _, _, _], h => exact (h rfl).elim
  | _ :: _ :: _ :: _ :: _ :: _ :: _, _ => rfl
theorem eq_none1 {s : Str} {G : Gh} {R : Bool → Prop} (hs : strC s = true) (r : R (s == ("none" : Str))) : cmpD .eq (.tup [.str s]) (.tup [.str "none"]) G R := by
  have h1 : shw 2 (.tup [.str s]) = true := by
    rw [shw_tup, shws_cons, shws_nil, Bool.and_true]
    exact hs
  refine eq_flat (n := 2) h1 (by decide +kernel) (by omega) ?_
  have : PyData.eqv (toP (.tup [.str s])) (toP (.tup [.str ("none" : Str)])) = (s == ("none" : Str)) := by
    show ((s == ("none" : Str)) && true) = _
    rw [Bool.and_true]
  rw [this]
  exact r
theorem eq_empty {xs : List Dt} {G : Gh} {R : Bool → Prop} (r : R xs.isEmpty) : cmpD .eq (.tup xs) (.tup []) G R := .inl (.inr ⟨xs, rfl, rfl, r⟩)
theorem noneAny_s {s : Str} {rs : List Dt} (h : (s == ("none" : Str)) = false) : noneAny (.tup (.str s :: rs)) = false := by
  match rs with
  | [] => exact h
  | _ :: _ => rfl
theorem lateAny_s {s : Str} {rs : List Dt} (h : (s == ("late" : Str)) = false) : lateAny (.tup (.str s :: rs)) = false := by
  match rs with
  | [] => rfl
  | [_] => rfl
  | [b, c] =>
    show (s == ("late" : Str) && _) = false
    rw [h]
    rfl
  | _ :: _ :: _ :: _ => rfl
theorem shareAny_s {s : Str} {rs : List Dt} (h : (s == ("share" : Str)) = false) : shareAny (.tup (.str s :: rs)) = false := by
  match rs with
  | [] => rfl
  | [_] => rfl
  | [_, _] => rfl
  | [_, _, _] => rfl
  | [_, _, _, _] =>
    show (s == ("share" : Str) && _) = false
    rw [h]
    rfl
  | _ :: _ :: _ :: _ :: _ :: _ => rfl
theorem rule_nostr {a : Dt} {rs : List Dt} (h : isStD a = false) : ruleAny (.tup (a :: rs)) = false := by
  have k : ∀ w : Str, isS w a = false := fun w => by cases a <;> first | rfl | cases h
  have h1 : noneAny (.tup (a :: rs)) = false := by
    match rs with
    | [] => exact k _
    | _ :: _ => rfl
  have h2 : lateAny (.tup (a :: rs)) = false := by
    match rs with
    | [] => rfl
    | [_] => rfl
    | [b, c] => show (isS _ a && _) = false; rw [k]; rfl
    | _ :: _ :: _ :: _ => rfl
  have h3 : shareAny (.tup (a :: rs)) = false := by
    match rs with
    | [] => rfl
    | [_] => rfl
    | [_, _] => rfl
    | [_, _, _] => rfl
    | [_, _, _, _] => show (isS _ a && _) = false; rw [k]; rfl
    | _ :: _ :: _ :: _ :: _ :: _ => rfl
  unfold ruleAny
  rw [h1, h2, h3]
  rfl
section
variable {k n : Nat} {S : List Nat} {d : Dt} {G : Gh} {Q : QE} {E : XQ}
theorem is_between_any (h : Ty G d) {lo hi : Int} (hq : Q (.bl (within d lo hi)) G) : C (k + 1) F_rules_is_between [d, .int lo, .int hi] G Q E := by
  refine ⟨_, rfl, rfl, ?_⟩
  unfold c_rules_is_between
  walk_at "wm"
  refine ⟨_, isi_int h, ?_⟩
  cases d with
  | int i =>
    unfold isIbD
    walk_at "wm"
    refine ⟨_, isi_bool h, ?_⟩
    unfold isBlD
    walk_at "wm"
    replace hq : Q (.bl (decide (lo ≤ i) && decide (i ≤ hi))) G := hq
    by_cases h1 : lo ≤ i
    · rw [if_pos h1]
      simpa [h1] using hq
    · rw [if_neg h1]
      simpa [h1] using hq
  | bl b =>
    unfold isIbD
    walk_at "wm"
    refine ⟨_, isi_bool h, ?_⟩
    unfold isBlD
    exact hq
  | _ => exact hq
theorem law_number_any (h : Ty G d) {lo hi : Int} (hq : Q (.bl (within d lo hi)) G) : C (k + 1) F_law_number [d, .int lo, .int hi] G Q E := by
  refine ⟨_, rfl, rfl, ?_⟩
  unfold c_law_number
  walk_at "wm"
  refine ⟨_, isi_int h, ?_⟩
  cases d with
  | int i =>
    unfold isIbD
    walk_at "wm"
    refine ⟨_, isi_bool h, ?_⟩
    unfold isBlD
    walk_at "wm"
    replace hq : Q (.bl (decide (lo ≤ i) && decide (i ≤ hi))) G := hq
    by_cases h1 : lo ≤ i
    · rw [if_pos h1]
      simpa [h1] using hq
    · rw [if_neg h1]
      simpa [h1] using hq
  | bl b =>
    unfold isIbD
    walk_at "wm"
    refine ⟨_, isi_bool h, ?_⟩
    unfold isBlD
    exact hq
  | _ => exact hq
theorem is_none_any (h : thg G S n d) (hq : Q (.bl (noneAny d)) G) : C (k + 1) F_rules_is_none [d] G Q E := by
  refine ⟨_, rfl, rfl, ?_⟩
  unfold c_rules_is_none
  walk_at "wm"
  refine ⟨_, isi_tup (thg_ty h), ?_⟩
  cases d with
  | tup xs =>
    unfold isTp
    walk_at "wm"
    by_cases hl : xs.length = 1
    · obtain ⟨a, rfl⟩ := tlen1 hl
      cases n with
      | zero => unfold thg at h; exact h.elim
      | succ n =>
        rw [thg_tup] at h
        rw [show ((([a].length : Nat) : Int) == 1) = true from rfl]
        walk_at "wm"
        refine ⟨_, isi_str (thg_ty (h a (by simp))), ?_⟩
        cases a with
        | str s =>
          unfold isStD
          walk_at "wm"
          exact eq_none1 (by have := h (.str s) (by simp); rw [thg_str] at this; exact this) hq
        | _ => exact hq
    · rw [noneAny_ne hl] at hq
      have : ((xs.length : Int) == 1) = false := by simp; omega
      rw [this]
      exact hq
  | _ => exact hq
theorem is_late_any (h : thg G S n d) (hq : ∀ G', Mod [] G G' → Q (.bl (lateAny d)) G') : C (k + 3) F_late_is_late [d] G Q E := by
  refine ⟨_, rfl, rfl, ?_⟩
  unfold c_late_is_late
  walk_at "wm"
  refine ⟨_, isi_tup (thg_ty h), ?_⟩
  cases d with
  | tup xs =>
    unfold isTp
    walk_at "wm"
    by_cases hl : xs.length = 3
    · obtain ⟨a, b, c, rfl⟩ := tlen3 hl
      cases n with
      | zero => unfold thg at h; exact h.elim
      | succ n =>
        rw [thg_tup] at h
        walk_at "wm"
        rw [show (((3 : Nat) : Int) == 3) = true from rfl]
        walk_at "wm"
        replace hq : ∀ G', Mod [] G G' → Q (.bl (isS "late" a && (within b 1 99 && within c 1 99))) G' := hq
        have m1 : Mod [] G (G ++ [.lst [b, c]]) := Mod.app
        have e1 : (G ++ [.lst [b, c]])[G.length]? = some (.lst [b, c]) := at_len
        generalize G ++ [.lst [b, c]] = G1 at m1 e1 ⊢
        have t1 := fun x hx => (thg_mv (S := S) m1.pure (h x hx)).1
        refine ⟨by omega, _, rfl, _, isi_str (thg_ty (t1 a (by simp))), ?_⟩
        cases a with
        | str s =>
          unfold isStD
          walk_at "wm"
          replace hq : ∀ G', Mod [] G G' → Q (.bl (s == ("late" : Str) && (within b 1 99 && within c 1 99))) G' := hq
          cases hs : (s == ("late" : Str)) with
          | false =>
            rw [hs] at hq
            walk_at "wm"
            exact hq G1 m1
          | true =>
            rw [hs] at hq
            walk_at "wm"
            refine ⟨_, w_lst e1, ?_⟩
            walk_at "wm"
            refine comp_map (f := fun x => .bl (within x 1 99)) (G0 := G1) (Nat.le_refl _) (fun G' m' => stands_one (m'.lst (w_lst e1) (by simp))) [b, c] [] _ (by rw [sizeLine_eq]; simp) Mod.app at_len (fun x hx G' Q' m' hq => ?_) fun G2 m2 e2 => ?_
            · unfold c_late_is_late_1
              walk_at "wm"
              exact is_within_ok (thg_ty (thg_mv (S := S) m'.pure (t1 x (List.mem_cons_of_mem _ hx))).1) (hq _ Mod.refl)
            · refine ⟨_, [within b 1 99, within c 1 99], w_lst e2, rfl, ?_⟩
              have := hq G2 (m1.trans m2)
              rw [Bool.true_and] at this
              rw [show [within b 1 99, within c 1 99].all id = (within b 1 99 && within c 1 99) from by simp]
              exact this
        | _ => exact hq G1 m1
    · have hq := hq G Mod.refl
      rw [lateAny_ne hl] at hq
      have : ((xs.length : Int) == 3) = false := by simp; omega
      rw [this]
      walk_at "wm"
      exact hq
  | _ => exact hq G Mod.refl
theorem is_share_any (h : thg G S n d) (hq : ∀ G', Mod [] G G' → Q (.bl (shareAny d)) G') : C (k + 3) F_share_is_share [d] G Q E := by
  refine ⟨_, rfl, rfl, ?_⟩
  unfold c_share_is_share
  walk_at "wm"
  refine ⟨_, isi_tup (thg_ty h), ?_⟩
  cases d with
  | tup xs =>
    unfold isTp
    walk_at "wm"
    by_cases hl : xs.length = 5
    · obtain ⟨a, m, p, u, t, rfl⟩ := tlen5 hl
      cases n with
      | zero => unfold thg at h; exact h.elim
      | succ n =>
        rw [thg_tup] at h
        walk_at "wm"
        rw [show (((5 : Nat) : Int) == 5) = true from rfl]
        walk_at "wm"
        replace hq : ∀ G', Mod [] G G' → Q (.bl (isS "share" a && (within m 1 99 && (within p 1 99 && (within u 0 999 && within t 0 999))))) G' := hq
        have m1 : Mod [] G (G ++ [.lst [u, t]]) := Mod.app
        have e1 : (G ++ [.lst [u, t]])[G.length]? = some (.lst [u, t]) := at_len
        generalize G ++ [.lst [u, t]] = G1 at m1 e1 ⊢
        have t1 := fun x hx => (thg_mv (S := S) m1.pure (h x hx)).1
        refine ⟨by omega, _, rfl, _, isi_str (thg_ty (t1 a (by simp))), ?_⟩
        cases a with
        | str s =>
          unfold isStD
          walk_at "wm"
          replace hq : ∀ G', Mod [] G G' → Q (.bl (s == ("share" : Str) && (within m 1 99 && (within p 1 99 && (within u 0 999 && within t 0 999))))) G' := hq
          cases hs : (s == ("share" : Str)) with
          | false =>
            rw [hs] at hq
            walk_at "wm"
            exact hq G1 m1
          | true =>
            rw [hs, Bool.true_and] at hq
            walk_at "wm"
            refine is_within_ok (thg_ty (t1 m (by simp))) ?_
            cases w1 : within m 1 99 with
            | false =>
              rw [w1] at hq
              walk_at "wm"
              exact hq G1 m1
            | true =>
              rw [w1, Bool.true_and] at hq
              walk_at "wm"
              refine is_within_ok (thg_ty (t1 p (by simp))) ?_
              cases w2 : within p 1 99 with
              | false =>
                rw [w2] at hq
                walk_at "wm"
                exact hq G1 m1
              | true =>
                rw [w2, Bool.true_and] at hq
                walk_at "wm"
                refine ⟨_, w_lst e1, ?_⟩
                walk_at "wm"
                refine comp_map (f := fun x => .bl (within x 0 999)) (G0 := G1) (Nat.le_refl _) (fun G' m' => stands_one (m'.lst (w_lst e1) (by simp))) [u, t] [] _ (by rw [sizeLine_eq]; simp) Mod.app at_len (fun x hx G' Q' m' hq => ?_) fun G2 m2 e2 => ?_
                · unfold c_share_is_share_1
                  walk_at "wm"
                  exact is_within_ok (thg_ty (thg_mv (S := S) m'.pure (t1 x (by simp at hx ⊢; rcases hx with rfl | rfl <;> simp))).1) (hq _ Mod.refl)
                · refine ⟨_, [within u 0 999, within t 0 999], w_lst e2, rfl, ?_⟩
                  rw [show [within u 0 999, within t 0 999].all id = (within u 0 999 && within t 0 999) from by simp]
                  exact hq G2 (m1.trans m2)
        | _ => exact hq G1 m1
    · have hq := hq G Mod.refl
      rw [shareAny_ne hl] at hq
      have : ((xs.length : Int) == 5) = false := by simp; omega
      rw [this]
      walk_at "wm"
      exact hq
  | _ => exact hq G Mod.refl
theorem is_rule_any (h : thg G S n d) (hq : ∀ G', Mod [] G G' → Q (.bl (ruleAny d)) G') : C (k + 4) F_rules_is_rule [d] G Q E := by
  refine ⟨_, rfl, rfl, ?_⟩
  unfold c_rules_is_rule
  walk_at "wm"
  unfold ruleAny at hq
  refine is_none_any h ?_
  cases h1 : noneAny d with
  | true =>
    rw [h1] at hq
    exact ⟨_, rfl, hq G Mod.refl⟩
  | false =>
    rw [h1, Bool.false_or] at hq
    refine ⟨_, rfl, ?_⟩
    walk_at "wm"
    refine is_late_any h fun G1 m1 => ?_
    cases h2 : lateAny d with
    | true =>
      rw [h2] at hq
      exact ⟨_, rfl, hq G1 m1⟩
    | false =>
      rw [h2, Bool.false_or] at hq
      refine ⟨_, rfl, ?_⟩
      walk_at "wm"
      exact is_share_any (thg_mv (S := S) m1.pure h).1 fun G2 m2 => hq G2 (m1.trans m2)
theorem need_rule_any (h : thg G S n d) (h1 : ruleAny d = true → ∀ G', Mod [] G G' → Q .non G') (h2 : ruleAny d = false → ∀ G', Mod [] G G' → E ⟨9, none⟩ G') : C (k + 5) F_rules_need_rule [d] G Q E := by
  refine ⟨_, rfl, rfl, ?_⟩
  unfold c_rules_need_rule
  walk_at "wm"
  refine is_rule_any h fun G1 m1 => ?_
  cases e : ruleAny d with
  | true => exact ⟨true, rfl, h1 e G1 m1⟩
  | false => exact ⟨false, rfl, h2 e G1 m1⟩
theorem rl_step {k q j : Nat} {a x : Dt} {zs w rest : List Dt} {lo hi : Int} {e2 e3 e4 : Option Dt} {G : Gh} {K : Kn} (hz : zs[j]? = some x) (ht : Ty G x) (hs : lstAt G q = some w)
    (h1 : within x lo hi = true → forD (sem (C (k + 1)) (kwF kwd) isaF (.gt (.cons (.gn 2) (.cons (.gt (.cons (.gn 3) (.cons (.gn 4) .nil))) .nil)))).g (sem (C (k + 1)) (kwF kwd) isaF c_law_is_rule3_1).s [(q, w)] rest [some (.tup (a :: zs)), some (.ref q), some (.int j), some (.int lo), some (.int hi)] G K) (h2 : within x lo hi = false → K.rt (.bl false) G) :
    forD (sem (C (k + 1)) (kwF kwd) isaF (.gt (.cons (.gn 2) (.cons (.gt (.cons (.gn 3) (.cons (.gn 4) .nil))) .nil)))).g (sem (C (k + 1)) (kwF kwd) isaF c_law_is_rule3_1).s [(q, w)] (.tup [.int j, .tup [.int lo, .int hi]] :: rest) [some (.tup (a :: zs)), some (.ref q), e2, e3, e4] G K := by
  refine ⟨stands_one hs, ?_⟩
  generalize forD _ _ _ rest = W at h1 ⊢
  unfold c_law_is_rule3_1
  walk_at "wm"
  refine ⟨x, ?_, ?_⟩
  · rw [show (1 : Int) + (j : Int) = ((j + 1 : Nat) : Int) by omega]
    exact at_nat (by rw [List.getElem?_cons_succ]; exact hz)
  refine law_number_any ht ?_
  cases e : within x lo hi with
  | true =>
    walk_at "wm"
    exact h1 e
  | false =>
    walk_at "wm"
    exact h2 e
theorem tlen2 {xs : List Dt} (h : xs.length = 2) : ∃ a b, xs = [a, b] := by
  match xs, h with
  | [a, b], _ => exact ⟨a, b, rfl⟩
theorem law_is_rule3_any (h : thg G S n d) (hq : ∀ G', Mod [] G G' → Q (.bl (ruleAny d)) G') : C (k + 2) F_law_is_rule3 [d] G Q E := by
  refine ⟨_, rfl, rfl, ?_⟩
  unfold c_law_is_rule3
  walk_at "wm"
  refine ⟨_, isi_tup (thg_ty h), ?_⟩
  cases d with
  | tup xs =>
    unfold isTp
    walk_at "wm"
    refine ⟨u_sz0, eq_empty ?_⟩
    cases xs with
    | nil => exact hq G Mod.refl
    | cons a rs =>
      cases n with
      | zero => unfold thg at h; exact h.elim
      | succ n =>
        rw [thg_tup] at h
        rw [show (a :: rs).isEmpty = false from rfl]
        walk_at "wm"
        refine ⟨_, isi_str (thg_ty (h a (by simp))), ?_⟩
        cases a with
        | str s =>
          unfold isStD
          walk_at "wm"
          by_cases hs1 : s = ("none" : Str)
          · subst hs1
            have hr : ruleAny (.tup (.str ("none" : Str) :: rs)) = (((rs.length + 1 : Nat) : Int) == 1) := by
              unfold ruleAny
              rw [lateAny_s (by decide +kernel), shareAny_s (by decide +kernel), Bool.or_false, Bool.or_false]
              match rs with
              | [] => decide +kernel
              | _ :: rs =>
                show false = _
                exact (beq_eq_false_iff_ne.mpr (by simp; omega)).symm
            rw [str_beq, if_pos rfl]
            rw [hr] at hq
            exact hq G Mod.refl
          · have n1 : (s == ("none" : Str)) = false := beq_eq_false_iff_ne.mpr hs1
            rw [n1]
            walk_at "wm"
            have hr0 : ruleAny (.tup (.str s :: rs)) = (lateAny (.tup (.str s :: rs)) || shareAny (.tup (.str s :: rs))) := by
              unfold ruleAny
              rw [noneAny_s n1, Bool.false_or]
            rw [hr0] at hq
            refine ⟨u_sz2, rfl, rfl, ?_⟩
            by_cases hs2 : s = ("late" : Str)
            · subst hs2
              rw [shareAny_s (by decide +kernel), Bool.or_false] at hq
              try dsimp only
              rw [show (!([Dt.str ("late" : Str), Dt.str ("share" : Str)].any fun y => eqF y (.str ("late" : Str)))) = false from by decide +kernel]
              walk_at "wm"
              refine ⟨u_sz2, u_sz2, u_sz2, u_sz2, u_sz2, u_sz2, u_sz2, u_sz4, by simp, by omega, ?_⟩
              obtain ⟨G1, hG1, m1, e1, e2⟩ : ∃ G1 : Gh, G1 = G ++ [Ob.dct []] ++ [Ob.lst [Dt.tup [.int 1, .int 99], Dt.tup [.int 1, .int 99]]] ++ [Ob.lst [Dt.tup [.int 1, .int 99], Dt.tup [.int 1, .int 99], Dt.tup [.int 0, .int 999], Dt.tup [.int 0, .int 999]]] ∧ Mod [] G G1 ∧ G1[G.length + 1]? = some (.lst [Dt.tup [.int 1, .int 99], Dt.tup [.int 1, .int 99]]) ∧ G1[G.length + 2]? = some (.lst [Dt.tup [.int 1, .int 99], Dt.tup [.int 1, .int 99], Dt.tup [.int 0, .int 999], Dt.tup [.int 0, .int 999]]) := ⟨_, rfl, Mod.app.trans (Mod.app.trans Mod.app), by simp, by simp⟩
              have l1 : (G ++ [Ob.dct []]).length = G.length + 1 := by simp
              have l2 : (G ++ [Ob.dct []] ++ [Ob.lst [Dt.tup [.int 1, .int 99], Dt.tup [.int 1, .int 99]]]).length = G.length + 2 := by simp
              have l3 : G.length < G1.length := by rw [hG1]; simp
              rw [l1, l2, ← hG1]
              have m1 := m1.setNew (o := Ob.dct (mergeG [] ([("late" : Str), ("share" : Str)].zip [Dt.ref (G.length + 1), Dt.ref (G.length + 2)]))) (Nat.le_refl G.length)
              have e1 : (G1.set G.length (Ob.dct (mergeG [] ([("late" : Str), ("share" : Str)].zip [Dt.ref (G.length + 1), Dt.ref (G.length + 2)]))))[G.length + 1]? = some (.lst [Dt.tup [.int 1, .int 99], Dt.tup [.int 1, .int 99]]) := by rw [List.getElem?_set_ne (by omega)]; exact e1
              have e2 : (G1.set G.length (Ob.dct (mergeG [] ([("late" : Str), ("share" : Str)].zip [Dt.ref (G.length + 1), Dt.ref (G.length + 2)]))))[G.length + 2]? = some (.lst [Dt.tup [.int 1, .int 99], Dt.tup [.int 1, .int 99], Dt.tup [.int 0, .int 999], Dt.tup [.int 0, .int 999]]) := by rw [List.getElem?_set_ne (by omega)]; exact e2
              have e0 := List.getElem?_set_self (a := Ob.dct (mergeG [] ([("late" : Str), ("share" : Str)].zip [Dt.ref (G.length + 1), Dt.ref (G.length + 2)]))) l3
              generalize G1.set G.length (Ob.dct (mergeG [] ([("late" : Str), ("share" : Str)].zip [Dt.ref (G.length + 1), Dt.ref (G.length + 2)]))) = G1 at m1 e0 e1 e2 ⊢
              refine ⟨_, .ref (G.length + 1), e0, rfl, ?_⟩
              refine ⟨_, w_lst e1, ?_⟩
              by_cases hl : rs.length = 2
              · obtain ⟨b, c, rfl⟩ := tlen2 hl
                rw [if_neg (by simp)]
                walk_at "wm"
                have t1 := fun x hx => thg_ty (thg_mv (S := S) m1.pure (h x hx)).1
                replace hq : Q (.bl (true && (within b 1 99 && within c 1 99))) G1 := hq G1 m1
                rw [Bool.true_and] at hq
                refine ⟨_, w_lst e1, ?_⟩
                refine rl_step (j := 0) (zs := [b, c]) rfl (t1 b (by simp)) (w_lst e1) (fun w1 => ?_) fun w1 => (by rw [w1] at hq; exact hq)
                rw [w1, Bool.true_and] at hq
                refine rl_step (j := 1) (zs := [b, c]) rfl (t1 c (by simp)) (w_lst e1) (fun w2 => ?_) fun w2 => (by rw [w2] at hq; exact hq)
                rw [w2] at hq
                exact ⟨stands_one (w_lst e1), hq⟩
              · rw [lateAny_ne (by simp; omega)] at hq
                rw [if_pos (by simp; omega)]
                walk_at "wm"
                exact hq G1 m1
            · have n2 : (s == ("late" : Str)) = false := beq_eq_false_iff_ne.mpr hs2
              rw [lateAny_s n2, Bool.false_or] at hq
              by_cases hs3 : s = ("share" : Str)
              · subst hs3
                try dsimp only
                rw [show (!([Dt.str ("late" : Str), Dt.str ("share" : Str)].any fun y => eqF y (.str ("share" : Str)))) = false from by decide +kernel]
                walk_at "wm"
                refine ⟨u_sz2, u_sz2, u_sz2, u_sz2, u_sz2, u_sz2, u_sz2, u_sz4, by simp, by omega, ?_⟩
                obtain ⟨G1, hG1, m1, e1, e2⟩ : ∃ G1 : Gh, G1 = G ++ [Ob.dct []] ++ [Ob.lst [Dt.tup [.int 1, .int 99], Dt.tup [.int 1, .int 99]]] ++ [Ob.lst [Dt.tup [.int 1, .int 99], Dt.tup [.int 1, .int 99], Dt.tup [.int 0, .int 999], Dt.tup [.int 0, .int 999]]] ∧ Mod [] G G1 ∧ G1[G.length + 1]? = some (.lst [Dt.tup [.int 1, .int 99], Dt.tup [.int 1, .int 99]]) ∧ G1[G.length + 2]? = some (.lst [Dt.tup [.int 1, .int 99], Dt.tup [.int 1, .int 99], Dt.tup [.int 0, .int 999], Dt.tup [.int 0, .int 999]]) := ⟨_, rfl, Mod.app.trans (Mod.app.trans Mod.app), by simp, by simp⟩
                have l1 : (G ++ [Ob.dct []]).length = G.length + 1 := by simp
                have l2 : (G ++ [Ob.dct []] ++ [Ob.lst [Dt.tup [.int 1, .int 99], Dt.tup [.int 1, .int 99]]]).length = G.length + 2 := by simp
                have l3 : G.length < G1.length := by rw [hG1]; simp
                rw [l1, l2, ← hG1]
                have m1 := m1.setNew (o := Ob.dct (mergeG [] ([("late" : Str), ("share" : Str)].zip [Dt.ref (G.length + 1), Dt.ref (G.length + 2)]))) (Nat.le_refl G.length)
                have e1 : (G1.set G.length (Ob.dct (mergeG [] ([("late" : Str), ("share" : Str)].zip [Dt.ref (G.length + 1), Dt.ref (G.length + 2)]))))[G.length + 1]? = some (.lst [Dt.tup [.int 1, .int 99], Dt.tup [.int 1, .int 99]]) := by rw [List.getElem?_set_ne (by omega)]; exact e1
                have e2 : (G1.set G.length (Ob.dct (mergeG [] ([("late" : Str), ("share" : Str)].zip [Dt.ref (G.length + 1), Dt.ref (G.length + 2)]))))[G.length + 2]? = some (.lst [Dt.tup [.int 1, .int 99], Dt.tup [.int 1, .int 99], Dt.tup [.int 0, .int 999], Dt.tup [.int 0, .int 999]]) := by rw [List.getElem?_set_ne (by omega)]; exact e2
                have e0 := List.getElem?_set_self (a := Ob.dct (mergeG [] ([("late" : Str), ("share" : Str)].zip [Dt.ref (G.length + 1), Dt.ref (G.length + 2)]))) l3
                generalize G1.set G.length (Ob.dct (mergeG [] ([("late" : Str), ("share" : Str)].zip [Dt.ref (G.length + 1), Dt.ref (G.length + 2)]))) = G1 at m1 e0 e1 e2 ⊢
                refine ⟨_, .ref (G.length + 2), e0, rfl, ?_⟩
                refine ⟨_, w_lst e2, ?_⟩
                by_cases hl : rs.length = 4
                · obtain ⟨b, c, d, e, rfl⟩ := tlen4 hl
                  rw [if_neg (by simp)]
                  walk_at "wm"
                  have t1 := fun x hx => thg_ty (thg_mv (S := S) m1.pure (h x hx)).1
                  replace hq : Q (.bl (true && (within b 1 99 && (within c 1 99 && (within d 0 999 && within e 0 999))))) G1 := hq G1 m1
                  rw [Bool.true_and] at hq
                  refine ⟨_, w_lst e2, ?_⟩
                  refine rl_step (j := 0) (zs := [b, c, d, e]) rfl (t1 b (by simp)) (w_lst e2) (fun w1 => ?_) fun w1 => (by rw [w1] at hq; exact hq)
                  rw [w1, Bool.true_and] at hq
                  refine rl_step (j := 1) (zs := [b, c, d, e]) rfl (t1 c (by simp)) (w_lst e2) (fun w2 => ?_) fun w2 => (by rw [w2] at hq; exact hq)
                  rw [w2, Bool.true_and] at hq
                  refine rl_step (j := 2) (zs := [b, c, d, e]) rfl (t1 d (by simp)) (w_lst e2) (fun w3 => ?_) fun w3 => (by rw [w3] at hq; exact hq)
                  rw [w3, Bool.true_and] at hq
                  refine rl_step (j := 3) (zs := [b, c, d, e]) rfl (t1 e (by simp)) (w_lst e2) (fun w4 => ?_) fun w4 => (by rw [w4] at hq; exact hq)
                  rw [w4] at hq
                  exact ⟨stands_one (w_lst e2), hq⟩
                · rw [shareAny_ne (by simp; omega)] at hq
                  rw [if_pos (by simp; omega)]
                  walk_at "wm"
                  exact hq G1 m1
              · have n3 : (s == ("share" : Str)) = false := beq_eq_false_iff_ne.mpr hs3
                rw [shareAny_s n3] at hq
                have hf : (!([Dt.str ("late" : Str), Dt.str ("share" : Str)].any fun y => eqF y (.str s))) = true := by
                  show (!((("late" : Str) == s) || ((("share" : Str) == s) || false))) = true
                  rw [beq_eq_false_iff_ne.mpr (fun z => hs2 z.symm), beq_eq_false_iff_ne.mpr (fun z => hs3 z.symm)]
                  rfl
                try dsimp only
                rw [hf]
                walk_at "wm"
                exact hq G Mod.refl
        | _ =>
          rw [rule_nostr rfl] at hq
          exact hq G Mod.refl
  | _ => exact hq G Mod.refl
end
local macro_rules | `(tactic| walk_at "wm") => `(tactic| try simp only [sem, env0, kwF, w_add, w_addT, w_sub, w_mul, w_mulT, w_mulL, w_addL, w_addF, w_fdiv, w_mod, w_pow, w_bor, w_shl, w_shr, w_aadd, w_aaddT, w_asub, w_abor, w_ashl, w_ashr, w_lt, w_le, w_gt, w_ge, w_is, w_isnot, w_eqI, w_neI, w_eqB, w_neB, w_eqS, w_neS, w_inT, w_ixT, w_ixL, w_at0, w_at1, w_at2, w_at3, w_at4, w_at5, w_at6, w_truB, w_truI, w_truT, w_len, w_abs, w_min, w_max, w_max3, w_sum, w_all, w_any, w_intI, w_intB, w_tuple, w_list, w_divmod, w_seqT, w_seqL, w_append, w_extend, w_extendT, w_popAt, w_index, w_store, w_slT, w_slL, isNonD, List.map_cons, List.map_nil, List.length_cons, List.length_nil, List.replicate, List.cons_append, List.nil_append, List.append_nil, List.getElem?_cons_zero, List.getElem?_cons_succ, List.set_cons_zero, List.set_cons_succ, Option.some.injEq, exists_eq_left', exists_eq_left, exists_eq', exists_eq, Nat.zero_add, Nat.reduceAdd, Nat.reduceSub, Dt.bl.injEq, Dt.int.injEq, Dt.tup.injEq, Dt.ref.injEq, if_true, if_false, Bool.false_eq_true, Bool.not_true, Bool.not_false, true_and, and_true, lenA, w_wR, w_wT, List.take_succ_cons, List.take_zero, List.drop_succ_cons, List.drop_zero, w_ex2, and_self, exists_const, reduceCtorEq, decide_eq_true_eq, wipeD])
local macro_rules | `(tactic| walk_at "wh") => `(tactic| try simp only [sem, env0, kwF, w_add, w_addT, w_sub, w_mul, w_mulT, w_mulL, w_addL, w_addF, w_fdiv, w_mod, w_pow, w_bor, w_shl, w_shr, w_aadd, w_aaddT, w_asub, w_abor, w_ashl, w_ashr, w_lt, w_le, w_gt, w_ge, w_is, w_isnot, w_eqI, w_neI, w_eqB, w_neB, w_eqS, w_neS, w_inT, w_ixT, u_ixL, w_at0, w_at1, w_at2, w_at3, w_truB, w_truI, w_truT, w_len, w_abs, w_min, w_max, w_max3, w_sum, w_all, w_any, w_intI, w_intB, w_tuple, w_list, w_divmod, w_seqT, w_seqL, w_append, w_extend, w_extendT, w_popAt, w_index, u_store, u_ixD, u_storeD, w_slT, w_slL, isNonD, List.map_cons, List.map_nil, List.length_cons, List.length_nil, List.replicate, List.cons_append, List.nil_append, List.append_nil, List.getElem?_cons_zero, List.getElem?_cons_succ, List.set_cons_zero, List.set_cons_succ, Option.some.injEq, exists_eq_left', exists_eq_left, exists_eq', exists_eq, Nat.zero_add, Nat.reduceAdd, Nat.reduceSub, Dt.bl.injEq, Dt.int.injEq, Dt.tup.injEq, Dt.ref.injEq, if_true, if_false, Bool.false_eq_true, Bool.not_true, Bool.not_false, true_and, and_true, lenA, w_wR, w_wT, List.take_succ_cons, List.take_zero, List.drop_succ_cons, List.drop_zero, w_ex2, and_self, exists_const, reduceCtorEq, decide_eq_true_eq, wipeD, u_self, u_selfG, List.set_set, List.length_set, u_ix10, u_ix20, u_ix21, u_ix30, u_ix31, u_ix32, u_ix40, u_ix41, u_ix42, u_ix43, w_at4, w_at5, w_at6, w_truN, u_sz0, u_sz1, u_sz2, u_sz3, u_sz4, u_sz5, u_sz6, u_sz7, u_sz8, Ob.lst.injEq, Ob.dct.injEq, Dt.str.injEq, not_true_eq_false, not_false_eq_true, Bool.or_false, Bool.and_true, decide_true, decide_false, ge_iff_le, gt_iff_lt, *])
local macro_rules | `(tactic| walk_at "ws") => `(tactic| simp only [q_full_full, q_full_drop, q_full_mark, q_full_come, q_full_send, q_full_bell, q_drop_full, q_drop_drop, q_drop_mark, q_drop_come, q_drop_send, q_drop_bell, q_mark_full, q_mark_drop, q_mark_mark, q_mark_come, q_mark_send, q_mark_bell, q_come_full, q_come_drop, q_come_mark, q_come_come, q_come_send, q_come_bell, q_send_full, q_send_drop, q_send_mark, q_send_come, q_send_send, q_send_bell, q_bell_full, q_bell_drop, q_bell_mark, q_bell_come, q_bell_send, q_bell_bell, q_late_late, q_late_share, q_late_none, q_share_late, q_share_share, q_share_none, q_none_late, q_none_share, q_none_none, Bool.not_true, Bool.not_false, Bool.false_eq_true, if_true, if_false])
local macro_rules | `(tactic| walk_at "tk") => `(tactic| (refine take_ok (by assumption) (by omega) (by omega) (by first | omega | (refine Int.lt_of_lt_of_le (b := 2 ^ 40) (by omega) (p2_le (by omega)))) fun _ _ _ _ _ _ => ?_; walk_at "wm"))
local macro_rules | `(tactic| walk_at "pk") => `(tactic| (refine pick (by assumption) (by omega) (by omega) (by simp) (by omega) fun _ _ hd _ _ => ?_; walk_at "wm"))
local macro_rules | `(tactic| walk_at "md") => `(tactic| first | assumption | exact Mod.refl | (refine Mod.trans (by assumption) ?_; walk_at "md"))
local macro_rules | `(tactic| walk_at "pt") => `(tactic| first | assumption | exact Pot.le (by assumption) (by omega))
local macro_rules | `(tactic| walk_at "sz") => `(tactic| (refine ⟨by first | omega | (rw [sizeLine_eq]; omega) | (rw [sizeLine_eq]; simp; omega), ?_⟩))
local macro_rules | `(tactic| walk_at "ex") => `(tactic| ((first | refine ⟨false, (isi_exc (by first | assumption | exact exc_app (by assumption) | exact exc_app (exc_app (by assumption))) _).trans (by decide), ?_⟩ | refine ⟨true, (isi_exc (by first | assumption | exact exc_app (by assumption) | exact exc_app (exc_app (by assumption))) _).trans (by decide), ?_⟩ | refine ⟨u_sz3, ?_⟩ | refine ⟨u_sz2, ?_⟩ | refine ⟨u_sz1, ?_⟩ | refine ⟨u_sz4, ?_⟩ | refine ⟨u_sz5, ?_⟩); walk_at "wm"))
local macro_rules | `(tactic| walk_at "nw") => `(tactic| simp only [new1, new2a, new1L, new2L, Option.some.injEq, Ob.lst.injEq, exists_eq_left', exists_eq_left, exists_eq', exists_eq, List.cons_append, List.nil_append, List.length_cons, List.length_nil, Nat.reduceAdd, Nat.zero_add, true_and])

def eqI (d : Dt) (i : Int) : Bool := match d with
  | .int j => j == i
  | _ => false
def lateMA (s : Int) : Dt → Bool
  | .tup [a, l, c] => within c 0 (s * s) && ((isNonD a || within a 0 s) && (isNonD l || (eqI a s && within l 0 s)))
  | _ => false
def shareMA (p : Int) : Dt → Bool
  | .tup [a, b, c, d] => within a 0 (p - 1) && (within b 0 1000 && (within c 0 99 && within d 0 999))
  | _ => false
def memAny (r : Rl) (d : Dt) : Bool := match r with
  | .non => (match d with | .tup [] => true | _ => false)
  | .lat _ s => lateMA s d
  | .shr _ p _ _ => shareMA p d
theorem lateMA_ne {s : Int} {xs : List Dt} (h : xs.length ≠ 3) : lateMA s (.tup xs) = false := by
  match xs, h with
  | [], _ => rfl
  | [_], _ => rfl
  | [_, _], _ => rfl
  | [_, _, _], h => exact (h rfl).elim
  | _ :: _ :: _ :: _ :: _, _ => rfl
theorem shareMA_ne {p : Int} {xs : List Dt} (h : xs.length ≠ 4) : shareMA p (.tup xs) = false := by
  match xs, h with
  | [], _ => rfl
  | [_], _ => rfl
  | [_, _], _ => rfl
  | [_, _, _], _ => rfl
  | [_, _, _, _], h => exact (h rfl).elim
  | _ :: _ :: _ :: _ :: _ :: _, _ => rfl
/-- == of None or a number with a number -/
theorem eq_ni {a : Dt} {i : Int} {G : Gh} {R : Bool → Prop} (ha : isNonD a = true ∨ ∃ j, a = .int j) (r : R (eqI a i)) : cmpD .eq a (.int i) G R := by
  rcases ha with ha | ⟨j, rfl⟩
  · cases a with
    | non => exact .inr ⟨1, .none, .int i, rfl, rfl, rfl, rfl, r⟩
    | _ => cases ha
  · exact .inr ⟨1, .int j, .int i, rfl, rfl, rfl, rfl, r⟩
theorem within_int {d : Dt} {lo hi : Int} (h : within d lo hi = true) : ∃ j, d = .int j := by
  cases d with
  | int j => exact ⟨j, rfl⟩
  | _ => cases h
def f4 (w1 w2 w3 w4 : Bool) : Dt → Option Dt
  | .int 0 => bif w1 then none else some (.int 0)
  | .int 1 => bif w2 then none else some (.int 1)
  | .int 2 => bif w3 then none else some (.int 2)
  | .int 3 => bif w4 then none else some (.int 3)
  | _ => none
theorem f4_emp {w1 w2 w3 w4 : Bool} : ([Dt.int 0, .int 1, .int 2, .int 3].filterMap (f4 w1 w2 w3 w4)).isEmpty = (w1 && (w2 && (w3 && w4))) := by
  cases w1 <;> cases w2 <;> cases w3 <;> cases w4 <;> rfl
theorem f4_shw {w1 w2 w3 w4 : Bool} : shws 2 ([Dt.int 0, .int 1, .int 2, .int 3].filterMap (f4 w1 w2 w3 w4)) = true := by
  cases w1 <;> cases w2 <;> cases w3 <;> cases w4 <;> decide +kernel
section
variable {k n : Nat} {S : List Nat} {d : Dt} {G : Gh} {Q : QE} {E : XQ}
theorem is_late_memory_any {m s : Int} (r : OkR m s) (h : thg G S n d) (hq : ∀ G', Mod [] G G' → Q (.bl (lateMA s d)) G') : C (k + 5) F_late_is_late_memory [lateR m s, d] G Q E := by
  refine ⟨_, rfl, rfl, ?_⟩
  unfold c_late_is_late_memory
  walk_at "wm"
  refine need_late_ok r fun G1 m1 => ?_
  have h1 := (thg_mv (S := S) m1.pure h).1
  have hq1 := hq G1 m1
  clear h hq
  refine ⟨_, isi_tup (thg_ty h1), ?_⟩
  cases d with
  | tup xs =>
    unfold isTp
    walk_at "wm"
    by_cases hl : xs.length = 3
    · obtain ⟨a, l, c, rfl⟩ := tlen3 hl
      cases n with
      | zero => unfold thg at h1; exact h1.elim
      | succ n =>
        rw [thg_tup] at h1
        have ta := thg_ty (h1 a (by simp))
        have tl := thg_ty (h1 l (by simp))
        have tc := thg_ty (h1 c (by simp))
        walk_at "wm"
        rw [show (((3 : Nat) : Int) == 3) = true from rfl]
        unfold lateR
        walk_at "wm"
        replace hq1 : Q (.bl (within c 0 (s * s) && ((isNonD a || within a 0 s) && (isNonD l || (eqI a s && within l 0 s))))) G1 := hq1
        refine ⟨u_sz2, mul_l (by have := r.s0; omega) (by have := r.s1; omega), is_within_ok tc ?_⟩
        cases w1 : within c 0 (s * s) with
        | false =>
          rw [w1] at hq1
          walk_at "wm"
          exact hq1
        | true =>
          rw [w1, Bool.true_and] at hq1
          walk_at "wm"
          have fin : (isNonD a || within a 0 s) = true → (if isNonD l = true then Q (.bl true) G1 else cmpD .eq a (.int s) G1 fun b => if b = true then C (k + 4) F_comers_is_within [l, .int 0, .int s] G1 Q E else Q (.bl false) G1) := fun hw => by
            rw [hw, Bool.true_and] at hq1
            cases wl : isNonD l with
            | true =>
              rw [wl] at hq1
              exact hq1
            | false =>
              rw [wl, Bool.false_or] at hq1
              rw [if_neg (by decide)]
              have ha : isNonD a = true ∨ ∃ j, a = .int j := by
                rcases Bool.or_eq_true_iff.mp hw with z | z
                · exact .inl z
                · exact .inr (within_int z)
              refine eq_ni ha ?_
              cases we : eqI a s with
              | false =>
                rw [we] at hq1
                exact hq1
              | true =>
                rw [we, Bool.true_and] at hq1
                exact is_within_ok tl hq1
          cases a with
          | non =>
            walk_at "wm"
            exact fin rfl
          | int i =>
            walk_at "wm"
            refine is_within_ok rfl ?_
            cases w2 : within (.int i) 0 s with
            | false =>
              rw [w2] at hq1
              walk_at "wm"
              exact hq1
            | true =>
              walk_at "wm"
              have f2 := fin (by rw [w2]; rfl)
              rw [w_eqI] at f2
              exact f2
          | _ =>
            walk_at "wm"
            refine is_within_ok ta ?_
            exact ⟨false, rfl, hq1⟩
    · rw [lateMA_ne hl] at hq1
      have : ((xs.length : Int) == 3) = false := by simp; omega
      rw [this]
      walk_at "wm"
      exact hq1
  | _ => exact hq1
theorem is_share_memory_any {m p u t : Int} (r : OkS m p u t) (h : thg G S n d) (hq : ∀ G', Mod [] G G' → Q (.bl (shareMA p d)) G') : C (k + 5) F_share_is_share_memory [shareR m p u t, d] G Q E := by
  refine ⟨_, rfl, rfl, ?_⟩
  unfold c_share_is_share_memory
  walk_at "wm"
  refine need_share_ok r fun G1 m1 => ?_
  have h1 := (thg_mv (S := S) m1.pure h).1
  replace hq := fun G' m' => hq G' (m1.trans m')
  clear h
  refine ⟨_, isi_tup (thg_ty h1), ?_⟩
  cases d with
  | tup xs =>
    unfold isTp
    walk_at "wm"
    by_cases hl : xs.length = 4
    · obtain ⟨a, b, c, d, rfl⟩ := tlen4 hl
      cases n with
      | zero => unfold thg at h1; exact h1.elim
      | succ n =>
        rw [thg_tup] at h1
        walk_at "wm"
        rw [show (((4 : Nat) : Int) == 4) = true from rfl]
        unfold shareR
        walk_at "wm"
        refine ⟨u_sz4, _, _, rfl, rfl, rfl, ?_⟩
        simp only [zipD]
        have w9 : (1000 : Int) - 1 = 999 := rfl
        rw [w9]
        replace hq : ∀ G', Mod [] G1 G' → Q (.bl (within a 0 (p - 1) && (within b 0 1000 && (within c 0 99 && within d 0 999)))) G' := hq
        refine comp_filt (f := fun x => match x with | .tup [y, .int hi] => some (.bl (within y 0 hi)) | _ => none) (G0 := G1) (Nat.le_refl _) (fun G' m' => stands_nil) [.tup [a, .int (p - 1)], .tup [b, .int 1000], .tup [c, .int 99], .tup [d, .int 999]] [] _ (by rw [sizeLine_eq]; simp) Mod.app at_len (fun x hx G' Y N m' hy hn => ?_) fun G2 m2 e2 => ?_
        · unfold Turn c_share_is_share_memory_1
          have t := fun x hx => thg_ty (thg_mv (S := S) m'.pure (h1 x hx)).1
          simp only [List.mem_cons, List.not_mem_nil, or_false] at hx
          rcases hx with rfl | rfl | rfl | rfl
          · walk_at "wm"
            exact is_within_ok (t a (by simp)) (hy _ _ rfl Mod.refl)
          · walk_at "wm"
            exact is_within_ok (t b (by simp)) (hy _ _ rfl Mod.refl)
          · walk_at "wm"
            exact is_within_ok (t c (by simp)) (hy _ _ rfl Mod.refl)
          · walk_at "wm"
            exact is_within_ok (t d (by simp)) (hy _ _ rfl Mod.refl)
        · refine ⟨_, [within a 0 (p - 1), within b 0 1000, within c 0 99, within d 0 999], w_lst e2, rfl, ?_⟩
          rw [show [within a 0 (p - 1), within b 0 1000, within c 0 99, within d 0 999].all id = (within a 0 (p - 1) && (within b 0 1000 && (within c 0 99 && within d 0 999))) from by simp]
          exact hq G2 m2
    · have hq1 := hq G1 Mod.refl
      rw [shareMA_ne hl] at hq1
      have : ((xs.length : Int) == 4) = false := by simp; omega
      rw [this]
      walk_at "wm"
      exact hq1
  | _ => exact hq G1 Mod.refl
theorem is_memory_of_any {r : Rl} (o : OkRl r) (h : thg G S n d) (hq : ∀ G', Mod [] G G' → Q (.bl (memAny r d)) G') : C (k + 6) F_rules_is_memory_of [r.D, d] G Q E := by
  refine ⟨_, rfl, rfl, ?_⟩
  unfold c_rules_is_memory_of
  cases r with
  | non =>
    unfold Rl.D
    walk_at "wm"
    rw [str_beq]
    walk_at "wm"
    refine ⟨_, isi_tup (thg_ty h), ?_⟩
    cases d with
    | tup xs =>
      unfold isTp
      walk_at "wm"
      refine ⟨u_sz0, eq_empty ?_⟩
      cases xs with
      | nil => exact hq G Mod.refl
      | cons x xs => exact hq G Mod.refl
    | _ => exact hq G Mod.refl
  | lat m s =>
    have hh := is_late_memory_any (k := k) (Q := Q) (E := E) o h hq
    unfold lateR at hh
    unfold Rl.D lateR
    walk_at "wm"
    rw [s_ln, late_late]
    walk_at "wm"
    exact hh
  | shr m p u t =>
    have hh := is_share_memory_any (k := k) (Q := Q) (E := E) o h hq
    unfold shareR at hh
    unfold Rl.D shareR
    walk_at "wm"
    rw [s_sn, late_ne_share]
    walk_at "wm"
    exact hh
theorem is_memory_any {r : Rl} (o : OkRl r) (h : thg G S n d) (hq : ∀ G', Mod [] G G' → Q (.bl (memAny r d)) G') : C (k + 7) F_rules_is_memory [r.D, d] G Q E := by
  refine ⟨_, rfl, rfl, ?_⟩
  unfold c_rules_is_memory
  walk_at "wm"
  refine need_rule_ok o fun G1 m1 => ?_
  exact is_memory_of_any o (thg_mv (S := S) m1.pure h).1 fun G2 m2 => hq G2 (m1.trans m2)
theorem law_is_memory_any {r : Rl} (o : OkRl r) (h : thg G S n d) (hq : ∀ G', Mod [] G G' → Q (.bl (memAny r d)) G') : C (k + 2) F_law_is_memory [r.D, d] G Q E := by
  refine ⟨_, rfl, rfl, ?_⟩
  unfold c_law_is_memory
  walk_at "wm"
  refine ⟨_, isi_tup (thg_ty h), ?_⟩
  cases d with
  | tup xs =>
    unfold isTp
    cases r with
    | non =>
      unfold Rl.D
      walk_at "wm"
      rw [str_beq]
      walk_at "wm"
      refine ⟨u_sz0, eq_empty ?_⟩
      cases xs with
      | nil => exact hq G Mod.refl
      | cons x xs => exact hq G Mod.refl
    | shr m p u t =>
      unfold Rl.D shareR
      walk_at "wm"
      rw [s_sn]
      walk_at "wm"
      rw [str_beq]
      walk_at "wm"
      refine ⟨u_sz4, ?_⟩
      by_cases hl : xs.length = 4
      · obtain ⟨a, b, c, d, rfl⟩ := tlen4 hl
        cases n with
        | zero => unfold thg at h; exact h.elim
        | succ n =>
          rw [thg_tup] at h
          have m1 : Mod [] G (G ++ [Ob.lst [.int (p - 1), .int 1000, .int 99, .int 999]]) := Mod.app
          have e1 : (G ++ [Ob.lst [Dt.int (p - 1), .int 1000, .int 99, .int 999]])[G.length]? = some (.lst [.int (p - 1), .int 1000, .int 99, .int 999]) := at_len
          generalize G ++ [Ob.lst [Dt.int (p - 1), .int 1000, .int 99, .int 999]] = G1 at m1 e1 ⊢
          replace hq : ∀ G', Mod [] G G' → Q (.bl (within a 0 (p - 1) && (within b 0 1000 && (within c 0 99 && within d 0 999)))) G' := hq
          walk_at "wm"
          rw [show (((4 : Nat) : Int) == 4) = true from rfl]
          walk_at "wm"
          rw [show rangeD 0 4 = [Dt.int 0, .int 1, .int 2, .int 3] from rfl]
          have t1 := fun x hx => thg_ty (thg_mv (S := S) m1.pure (h x hx)).1
          refine ⟨by omega, by omega, ?_⟩
          refine comp_filt (f := f4 (within a 0 (p - 1)) (within b 0 1000) (within c 0 99) (within d 0 999)) (G0 := G1) (Nat.le_refl _) (fun G' m' => stands_nil) [Dt.int 0, .int 1, .int 2, .int 3] [] _ (by rw [sizeLine_eq]; simp) Mod.app at_len (fun x hx G' Y N m' hy hn => ?_) fun G2 m2 e2 => ?_
          · unfold Turn c_law_is_memory_1 c_law_is_memory_2
            have t := fun x hx => thg_ty (thg_mv (S := S) (m1.trans m').pure (h x hx)).1
            have e1' := w_lst (m'.at e1 (by simp))
            simp only [List.mem_cons, List.not_mem_nil, or_false] at hx
            rcases hx with rfl | rfl | rfl | rfl
            · walk_at "wm"
              refine ⟨_, _, e1', rfl, law_number_any (t a (by simp)) ?_⟩
              cases w : within a 0 (p - 1) with
              | true => rw [w] at hn; exact ⟨_, rfl, hn _ rfl Mod.refl⟩
              | false => rw [w] at hy; exact ⟨_, rfl, hy _ _ rfl Mod.refl⟩
            · walk_at "wm"
              refine ⟨_, _, e1', rfl, law_number_any (t b (by simp)) ?_⟩
              cases w : within b 0 1000 with
              | true => rw [w] at hn; exact ⟨_, rfl, hn _ rfl Mod.refl⟩
              | false => rw [w] at hy; exact ⟨_, rfl, hy _ _ rfl Mod.refl⟩
            · walk_at "wm"
              refine ⟨_, _, e1', rfl, law_number_any (t c (by simp)) ?_⟩
              cases w : within c 0 99 with
              | true => rw [w] at hn; exact ⟨_, rfl, hn _ rfl Mod.refl⟩
              | false => rw [w] at hy; exact ⟨_, rfl, hy _ _ rfl Mod.refl⟩
            · walk_at "wm"
              refine ⟨_, _, e1', rfl, law_number_any (t d (by simp)) ?_⟩
              cases w : within d 0 999 with
              | true => rw [w] at hn; exact ⟨_, rfl, hn _ rfl Mod.refl⟩
              | false => rw [w] at hy; exact ⟨_, rfl, hy _ _ rfl Mod.refl⟩
          · rw [List.nil_append] at e2
            refine ⟨u_sz0, eq_nilL e2 f4_shw ?_⟩
            rw [f4_emp]
            exact hq _ (m1.trans (m2.trans Mod.app))
      · have hq := hq _ (Mod.app (g := [Ob.lst [.int (p - 1), .int 1000, .int 99, .int 999]]))
        rw [show memAny (.shr m p u t) (.tup xs) = false from shareMA_ne hl] at hq
        walk_at "wm"
        rw [beq_eq_false_iff_ne.mpr (show (xs.length : Int) ≠ 4 by omega)]
        walk_at "wm"
        exact hq
    | lat m s =>
      unfold Rl.D lateR
      walk_at "wm"
      rw [s_ln]
      walk_at "wm"
      rw [show (("late" : Str) == ("share" : Str)) = false from by decide]
      walk_at "wm"
      replace hq := hq G Mod.refl
      by_cases hl : xs.length = 3
      · obtain ⟨a, l, c, rfl⟩ := tlen3 hl
        cases n with
        | zero => unfold thg at h; exact h.elim
        | succ n =>
          rw [thg_tup] at h
          have ta := thg_ty (h a (by simp))
          have tl := thg_ty (h l (by simp))
          have tc := thg_ty (h c (by simp))
          walk_at "wm"
          rw [show (((3 : Nat) : Int) == 3) = true from rfl]
          walk_at "wm"
          replace hq : Q (.bl (within c 0 (s * s) && ((isNonD a || within a 0 s) && (isNonD l || (eqI a s && within l 0 s))))) G := hq
          refine ⟨mul_l (by have := o.s0; omega) (by have := o.s1; omega), law_number_any tc ?_⟩
          cases w1 : within c 0 (s * s) with
          | false =>
            rw [w1] at hq
            exact ⟨_, rfl, hq⟩
          | true =>
            rw [w1, Bool.true_and] at hq
            refine ⟨_, rfl, ?_⟩
            walk_at "wm"
            have fin : (isNonD a || within a 0 s) = true → (if isNonD l = true then Q (.bl true) G else C (k + 1) F_law_number [l, .int 0, .int s] G (fun x G1 => ∃ c, x = Dt.bl c ∧ if c = true then cmpD Cm.eq a (Dt.int s) G1 fun c => Q (Dt.bl c) G1 else Q (Dt.bl false) G1) E) := fun hw => by
              rw [hw, Bool.true_and] at hq
              cases wl : isNonD l with
              | true =>
                rw [wl] at hq
                exact hq
              | false =>
                rw [wl, Bool.false_or] at hq
                rw [if_neg (by decide)]
                have ha : isNonD a = true ∨ ∃ j, a = .int j := by
                  rcases Bool.or_eq_true_iff.mp hw with z | z
                  · exact .inl z
                  · exact .inr (within_int z)
                refine law_number_any tl ?_
                cases w3 : within l 0 s with
                | false =>
                  rw [w3, Bool.and_false] at hq
                  exact ⟨_, rfl, hq⟩
                | true =>
                  rw [w3, Bool.and_true] at hq
                  refine ⟨_, rfl, ?_⟩
                  rw [if_pos rfl]
                  exact eq_ni (R := fun c => Q (.bl c) G) ha hq
            cases a with
            | non =>
              walk_at "wm"
              exact fin rfl
            | int i =>
              walk_at "wm"
              refine law_number_any rfl ?_
              cases w2 : within (.int i) 0 s with
              | false =>
                rw [w2] at hq
                walk_at "wm"
                exact hq
              | true =>
                walk_at "wm"
                have f2 := fin (by rw [w2]; rfl)
                simp only [w_eqI] at f2
                exact f2
            | _ =>
              walk_at "wm"
              refine law_number_any ta ?_
              exact ⟨false, rfl, hq⟩
      · rw [show memAny (.lat m s) (.tup xs) = false from lateMA_ne hl] at hq
        rw [beq_eq_false_iff_ne.mpr (show (xs.length : Int) ≠ 3 by omega)]
        walk_at "wm"
        exact hq
  | _ => cases r <;> exact hq G Mod.refl
end
local macro_rules | `(tactic| walk_at "wm") => `(tactic| try simp only [sem, env0, kwF, w_add, w_addT, w_sub, w_mul, w_mulT, w_mulL, w_addL, w_addF, w_fdiv, w_mod, w_pow, w_bor, w_shl, w_shr, w_aadd, w_aaddT, w_asub, w_abor, w_ashl, w_ashr, w_lt, w_le, w_gt, w_ge, w_is, w_isnot, w_eqI, w_neI, w_eqB, w_neB, w_eqS, w_neS, w_inT, w_ixT, w_ixL, w_at0, w_at1, w_at2, w_at3, w_at4, w_at5, w_at6, w_truB, w_truI, w_truT, w_len, w_abs, w_min, w_max, w_max3, w_sum, w_all, w_any, w_intI, w_intB, w_tuple, w_list, w_divmod, w_seqT, w_seqL, w_append, w_extend, w_extendT, w_popAt, w_index, w_store, w_slT, w_slL, isNonD, List.map_cons, List.map_nil, List.length_cons, List.length_nil, List.replicate, List.cons_append, List.nil_append, List.append_nil, List.getElem?_cons_zero, List.getElem?_cons_succ, List.set_cons_zero, List.set_cons_succ, Option.some.injEq, exists_eq_left', exists_eq_left, exists_eq', exists_eq, Nat.zero_add, Nat.reduceAdd, Nat.reduceSub, Dt.bl.injEq, Dt.int.injEq, Dt.tup.injEq, Dt.ref.injEq, if_true, if_false, Bool.false_eq_true, Bool.not_true, Bool.not_false, true_and, and_true, lenA, w_wR, w_wT, List.take_succ_cons, List.take_zero, List.drop_succ_cons, List.drop_zero, w_ex2, and_self, exists_const, reduceCtorEq, decide_eq_true_eq, wipeD])
local macro_rules | `(tactic| walk_at "wh") => `(tactic| try simp only [sem, env0, kwF, w_add, w_addT, w_sub, w_mul, w_mulT, w_mulL, w_addL, w_addF, w_fdiv, w_mod, w_pow, w_bor, w_shl, w_shr, w_aadd, w_aaddT, w_asub, w_abor, w_ashl, w_ashr, w_lt, w_le, w_gt, w_ge, w_is, w_isnot, w_eqI, w_neI, w_eqB, w_neB, w_eqS, w_neS, w_inT, w_ixT, u_ixL, w_at0, w_at1, w_at2, w_at3, w_truB, w_truI, w_truT, w_len, w_abs, w_min, w_max, w_max3, w_sum, w_all, w_any, w_intI, w_intB, w_tuple, w_list, w_divmod, w_seqT, w_seqL, w_append, w_extend, w_extendT, w_popAt, w_index, u_store, u_ixD, u_storeD, w_slT, w_slL, isNonD, List.map_cons, List.map_nil, List.length_cons, List.length_nil, List.replicate, List.cons_append, List.nil_append, List.append_nil, List.getElem?_cons_zero, List.getElem?_cons_succ, List.set_cons_zero, List.set_cons_succ, Option.some.injEq, exists_eq_left', exists_eq_left, exists_eq', exists_eq, Nat.zero_add, Nat.reduceAdd, Nat.reduceSub, Dt.bl.injEq, Dt.int.injEq, Dt.tup.injEq, Dt.ref.injEq, if_true, if_false, Bool.false_eq_true, Bool.not_true, Bool.not_false, true_and, and_true, lenA, w_wR, w_wT, List.take_succ_cons, List.take_zero, List.drop_succ_cons, List.drop_zero, w_ex2, and_self, exists_const, reduceCtorEq, decide_eq_true_eq, wipeD, u_self, u_selfG, List.set_set, List.length_set, u_ix10, u_ix20, u_ix21, u_ix30, u_ix31, u_ix32, u_ix40, u_ix41, u_ix42, u_ix43, w_at4, w_at5, w_at6, w_truN, u_sz0, u_sz1, u_sz2, u_sz3, u_sz4, u_sz5, u_sz6, u_sz7, u_sz8, Ob.lst.injEq, Ob.dct.injEq, Dt.str.injEq, not_true_eq_false, not_false_eq_true, Bool.or_false, Bool.and_true, decide_true, decide_false, ge_iff_le, gt_iff_lt, *])
local macro_rules | `(tactic| walk_at "ws") => `(tactic| simp only [q_full_full, q_full_drop, q_full_mark, q_full_come, q_full_send, q_full_bell, q_drop_full, q_drop_drop, q_drop_mark, q_drop_come, q_drop_send, q_drop_bell, q_mark_full, q_mark_drop, q_mark_mark, q_mark_come, q_mark_send, q_mark_bell, q_come_full, q_come_drop, q_come_mark, q_come_come, q_come_send, q_come_bell, q_send_full, q_send_drop, q_send_mark, q_send_come, q_send_send, q_send_bell, q_bell_full, q_bell_drop, q_bell_mark, q_bell_come, q_bell_send, q_bell_bell, q_late_late, q_late_share, q_late_none, q_share_late, q_share_share, q_share_none, q_none_late, q_none_share, q_none_none, Bool.not_true, Bool.not_false, Bool.false_eq_true, if_true, if_false])
local macro_rules | `(tactic| walk_at "tk") => `(tactic| (refine take_ok (by assumption) (by omega) (by omega) (by first | omega | (refine Int.lt_of_lt_of_le (b := 2 ^ 40) (by omega) (p2_le (by omega)))) fun _ _ _ _ _ _ => ?_; walk_at "wm"))
local macro_rules | `(tactic| walk_at "pk") => `(tactic| (refine pick (by assumption) (by omega) (by omega) (by simp) (by omega) fun _ _ hd _ _ => ?_; walk_at "wm"))
local macro_rules | `(tactic| walk_at "md") => `(tactic| first | assumption | exact Mod.refl | (refine Mod.trans (by assumption) ?_; walk_at "md"))
local macro_rules | `(tactic| walk_at "pt") => `(tactic| first | assumption | exact Pot.le (by assumption) (by omega))
local macro_rules | `(tactic| walk_at "sz") => `(tactic| (refine ⟨by first | omega | (rw [sizeLine_eq]; omega) | (rw [sizeLine_eq]; simp; omega), ?_⟩))
local macro_rules | `(tactic| walk_at "ex") => `(tactic| ((first | refine ⟨false, (isi_exc (by first | assumption | exact exc_app (by assumption) | exact exc_app (exc_app (by assumption))) _).trans (by decide), ?_⟩ | refine ⟨true, (isi_exc (by first | assumption | exact exc_app (by assumption) | exact exc_app (exc_app (by assumption))) _).trans (by decide), ?_⟩ | refine ⟨u_sz3, ?_⟩ | refine ⟨u_sz2, ?_⟩ | refine ⟨u_sz1, ?_⟩ | refine ⟨u_sz4, ?_⟩ | refine ⟨u_sz5, ?_⟩); walk_at "wm"))
local macro_rules | `(tactic| walk_at "nw") => `(tactic| simp only [new1, new2a, new1L, new2L, Option.some.injEq, Ob.lst.injEq, exists_eq_left', exists_eq_left, exists_eq', exists_eq, List.cons_append, List.nil_append, List.length_cons, List.length_nil, Nat.reduceAdd, Nat.zero_add, true_and])

theorem law_odd_ok {k p c : Nat} {S : List Nat} {G : Gh} {Q : QE} {E : XQ} (pS : p ∈ S) (hS : ∀ s ∈ S, s < G.length) (hp : Pot G p c) (hc : c ≤ 2 ^ 36) (hq : ∀ G' d, Th G' S 2 700 d → Mod [p] G G' → Pot G' p (c + 2) → Q d G') : C (k + 2) F_law_odd [.ref p] G Q E := by
  have lp := hp.lt
  refine ⟨_, rfl, rfl, ?_⟩
  unfold c_law_odd
  refine seqC fun B hB => ?_
  walk_at "wm"
  refine ⟨pow_x 20 (by decide) (by decide) (by decide) (by decide), ?_⟩
  refine take_ok hp (by omega) (by decide +kernel) (by decide +kernel) fun far G1 f0 f1 m1 p1 => ?_
  have hf : far.natAbs < 2 ^ 600 := by
    have h1 : far.natAbs < 10 ^ 39 := by
      have : ((10 : Int) ^ Int.toNat 39) = ((10 ^ 39 : Nat) : Int) := by decide +kernel
      rw [this] at f1
      omega
    exact Nat.lt_of_lt_of_le h1 (by decide +kernel)
  have hf2 : (-far).natAbs < 2 ^ 600 := by rw [Int.natAbs_neg]; exact hf
  have lp1 := p1.lt
  have hS1 := hS_up hS m1.len
  subst hB
  refine seqC fun B hB => ?_
  walk_at "wm"
  refine ⟨pow_x 20 (by decide) (by decide) (by decide) (by decide), u_sz0, u_sz0, by simp, by omega, u_sz1, u_sz1, by rw [sizeLine_eq]; omega, ?_⟩
  have l1 : (G1 ++ [Ob.lst []]).length = G1.length + 1 := by simp
  rw [l1]
  have m2 : Mod [] G1 ((G1 ++ [Ob.lst []] ++ [Ob.dct []]).set (G1.length + 1) (Ob.dct (mergeG [] (([] : List Str).zip [])))) := (Mod.app.trans Mod.app).setNew (by omega)
  have e1 : ((G1 ++ [Ob.lst []] ++ [Ob.dct []]).set (G1.length + 1) (Ob.dct (mergeG [] (([] : List Str).zip []))))[G1.length]? = some (.lst []) := by rw [List.getElem?_set_ne (by omega)]; simp
  have e2 : ((G1 ++ [Ob.lst []] ++ [Ob.dct []]).set (G1.length + 1) (Ob.dct (mergeG [] (([] : List Str).zip []))))[G1.length + 1]? = some (.dct []) := List.getElem?_set_self (by simp)
  generalize (G1 ++ [Ob.lst []] ++ [Ob.dct []]).set (G1.length + 1) (Ob.dct (mergeG [] (([] : List Str).zip []))) = G2 at m2 e1 e2 ⊢
  have m3 : Mod [] G2 (G2 ++ [Ob.lst [.non]]) := Mod.app
  have e3 : (G2 ++ [Ob.lst [.non]])[G2.length]? = some (.lst [.non]) := at_len
  have e1' := m3.at e1 (by simp)
  have e2' := m3.at e2 (by simp)
  have l2 : G1.length ≤ G2.length := m2.len
  generalize G2 ++ [Ob.lst [.non]] = G3 at m3 e3 e1' e2' ⊢
  have p3 := p1.mv (m2.trans m3) (by simp)
  have hL : ∀ x ∈ [Dt.int (-1), .int 100, .int 1001, .int (10 ^ Int.toNat 6 + 1), .int far, .int (-far), .bl true, .bl false, .non, .str (""), .str ("late"), .str ("none"), .tup [], .ref G1.length, .ref (G1.length + 1), .tup [.int 0], .ref G2.length, .int 0], Th G3 S 2 700 x := fun x hx => by
    simp only [List.mem_cons, List.not_mem_nil, or_false] at hx
    rcases hx with rfl | rfl | rfl | rfl | rfl | rfl | rfl | rfl | rfl | rfl | rfl | rfl | rfl | rfl | rfl | rfl | rfl | rfl
    · exact th_int (by decide +kernel) (by omega)
    · exact th_int (by decide +kernel) (by omega)
    · exact th_int (by decide +kernel) (by omega)
    · exact th_int (by decide +kernel) (by omega)
    · exact th_int hf (by omega)
    · exact th_int hf2 (by omega)
    · exact th_bl (by omega)
    · exact th_bl (by omega)
    · exact th_non (by omega)
    · exact ⟨by rw [thg_str]; decide +kernel, by rw [lenT_str]; decide +kernel⟩
    · exact ⟨by rw [thg_str]; decide +kernel, by rw [lenT_str]; decide +kernel⟩
    · exact ⟨by rw [thg_str]; decide +kernel, by rw [lenT_str]; decide +kernel⟩
    · exact ((ThS.nil (n := 1) (L := 0)).tup).le (by omega)
    · exact ((ThS.nil (n := 1) (L := 0)).lst e1' (fun z => by have := hS1 _ z; omega)).le (by omega)
    · exact ⟨by rw [thg_ref]; exact ⟨fun z => by have := hS1 _ z; omega, .inr e2'⟩, by rw [lenT_dct e2']; omega⟩
    · exact ((ThS.one (n := 1) (th_int (L := 601) (by decide +kernel) (by omega))).tup).le (by omega)
    · exact ((ThS.one (n := 1) (th_non (L := 601) (by omega))).lst e3 (fun z => by have := hS1 _ z; omega)).le (by omega)
    · exact th_int (by decide +kernel) (by omega)
  have hll : [Dt.int (-1), .int 100, .int 1001, .int (10 ^ Int.toNat 6 + 1), .int far, .int (-far), .bl true, .bl false, .non, .str (""), .str ("late"), .str ("none"), .tup [], .ref G1.length, .ref (G1.length + 1), .tup [.int 0], .ref G2.length, .int 0].length = 18 := rfl
  generalize [Dt.int (-1), .int 100, .int 1001, .int (10 ^ Int.toNat 6 + 1), .int far, .int (-far), .bl true, .bl false, .non, .str (""), .str ("late"), .str ("none"), .tup [], .ref G1.length, .ref (G1.length + 1), .tup [.int 0], .ref G2.length, .int 0] = L at hL hll ⊢
  have m13 := m2.trans m3
  subst hB
  walk_at "wm"
  refine pick p3 (by omega) (by omega) (by rw [hll]; decide) (by omega) fun d G5 hd m5 p5 => ?_
  exact hq G5 d ((hL d hd).mv (m5.to pS)) (m1.trans (m13.pure.trans m5)) p5
/-- whole numbers in it are less than so many -/
def smI (B : Nat) : Nat → Dt → Prop
  | _, .int i => i.natAbs < B
  | 0, .tup _ => True
  | n + 1, .tup xs => ∀ x ∈ xs, smI B n x
  | _, _ => True
theorem smI_int {B n : Nat} {i : Int} : smI B n (.int i) = (i.natAbs < B) := by cases n <;> (unfold smI; rfl)
theorem smI_tup {B n : Nat} {xs : List Dt} : smI B (n + 1) (.tup xs) = ∀ x ∈ xs, smI B n x := by conv => lhs; unfold smI
theorem ThS.len {G : Gh} {S : List Nat} {n L : Nat} {ds : List Dt} (h : ThS G S n L ds) : ds.length * 2 ≤ L := by
  have : ∀ xs : List Dt, xs.length * 2 ≤ (xs.map fun x => lenT G n x + 2).sum := fun xs => by
    induction xs with
    | nil => exact Nat.le_refl _
    | cons x xs ih => rw [List.map_cons, List.sum_cons, List.length_cons]; omega
  exact Nat.le_trans (this ds) h.2
theorem Th.row {G : Gh} {S : List Nat} {n L : Nat} {xs : List Dt} (h : Th G S (n + 1) L (.tup xs)) : ThS G S n L xs := ⟨by have := h.1; rw [thg_tup] at this; exact this, by have := h.2; rw [lenT_tup] at this; omega⟩
theorem ThS.get {G : Gh} {S : List Nat} {n L : Nat} {xs : List Dt} {x : Dt} (h : ThS G S n L xs) (hx : x ∈ xs) : Th G S n L x := ⟨h.1 x hx, Nat.le_trans (sum_mem (f := lenT G n) hx) h.2⟩
theorem isNum_cases {d : Dt} : (∃ i, d = .int i) ∨ (∃ b, d = .bl b) ∨ (∃ xs, d = .tup xs) ∨ (isIbD d = false ∧ isTp d = false ∧ isBlD d = false) := by
  cases d with
  | int i => exact .inl ⟨i, rfl⟩
  | bl b => exact .inr (.inl ⟨b, rfl⟩)
  | tup xs => exact .inr (.inr (.inl ⟨xs, rfl⟩))
  | _ => exact .inr (.inr (.inr ⟨rfl, rfl, rfl⟩))
theorem spoilt_leaf {S : List Nat} {p B k n m L c D : Nat} {d : Dt} {G : Gh} {Q : QE} {E : XQ} (pS : p ∈ S) (B1 : B + 200 ≤ 2 ^ 600) (hleaf : D = 0 ∨ isTp d = false ∨ d = .tup []) (hm : 2 ≤ m) (hS : ∀ s ∈ S, s < G.length) (hp : Pot G p c) (hc : c ≤ 2 ^ 30) (hd : Th G S n L d) (hs : smI B n d) (hq : ∀ G' d', Th G' S m 1000 d' → Mod [p] G G' → Pot G' p (c + 4) → Q d' G') : C (k + 3) F_law_spoilt4 [.ref p, d, .int (D : Int)] G Q E := by
  have ty := fun (G' : Gh) (mo : Mod [p] G G') => thg_ty (hd.mv (mo.to pS)).1
  have ty0 := thg_ty hd.1
  have odd : ∀ (G' : Gh) (c' : Nat), Mod [p] G G' → Pot G' p c' → c' ≤ c + 2 → ∀ E, C (k + 2) F_law_odd [.ref p] G' Q E := fun G' c' mo po hc' E => law_odd_ok pS (hS_up hS mo.len) po (by omega) fun G2 d2 t2 m2 p2 => hq G2 d2 (t2.up hm (by omega)) (mo.trans m2) (p2.le (by omega))
  refine ⟨_, rfl, rfl, ?_⟩
  unfold c_law_spoilt4
  refine seqC fun B2 hB => ?_
  clear hB
  walk_at "wm"
  rcases hleaf with rfl | hT | hE
  case' inl => rw [show (((0 : Nat) : Int) == 0) = true from rfl, if_pos rfl]
  case' inr.inl =>
    by_cases hD : ((D : Int) == 0) = true
    case' pos => rw [if_pos hD]
    case' neg =>
      rw [if_neg hD]
      refine ⟨_, isi_tup ty0, ?_⟩
      rw [hT]
      walk_at "wm"
  case' inr.inr =>
    by_cases hD : ((D : Int) == 0) = true
    case' pos => rw [if_pos hD]
    case' neg =>
      rw [if_neg hD]
      refine ⟨_, isi_tup ty0, ?_⟩
      rw [hE]
      unfold isTp
      walk_at "wm"
      refine ⟨u_sz0, eq_empty ?_⟩
      rw [show ([] : List Dt).isEmpty = true from rfl]
      walk_at "wm"
      rw [← hE]
  all_goals
    rcases isNum_cases (d := d) with ⟨i, hd2⟩ | ⟨b, hd2⟩ | ⟨xs, hd2⟩ | ⟨n1, n2, n3⟩
    · subst hd2
      rw [smI_int] at hs
      refine ⟨_, isi_int ty0, ?_⟩
      unfold isIbD
      walk_at "wm"
      refine ⟨_, isi_bool ty0, ?_⟩
      unfold isBlD
      walk_at "wm"
      refine take_ok hp (by omega) (by omega) (by omega) fun r G1 r0 r1 m1 p1 => ?_
      walk_at "wm"
      cases hr : (r == 0) with
      | true =>
        walk_at "wm"
        refine ⟨u_sz4, ?_⟩
        refine pick p1 (by omega) (by omega) (by simp) (by omega) fun y G2 hy m2 p2 => ?_
        obtain ⟨j, rfl, j0, j1⟩ : ∃ j : Int, y = .int j ∧ -1 ≤ j ∧ j ≤ 100 := by
          simp only [List.mem_cons, List.not_mem_nil, or_false] at hy
          rcases hy with rfl | rfl | rfl | rfl <;> exact ⟨_, rfl, by omega, by omega⟩
        walk_at "wm"
        exact hq G2 _ (th_int (Nat.lt_of_lt_of_le (show (i + j).natAbs < B + 200 by omega) B1) (by omega)) (m1.trans m2) (p2.le (by omega))
      | false =>
        walk_at "wm"
        refine ⟨_, isi_bool (ty G1 m1), ?_⟩
        unfold isBlD
        walk_at "wm"
        exact odd G1 _ m1 p1 (by omega) _
    · subst hd2
      refine ⟨_, isi_int ty0, ?_⟩
      unfold isIbD
      walk_at "wm"
      refine ⟨_, isi_bool ty0, ?_⟩
      unfold isBlD
      walk_at "wm"
      refine ⟨_, isi_bool ty0, ?_⟩
      unfold isBlD
      walk_at "wm"
      refine take_ok hp (by omega) (by omega) (by omega) fun r G1 r0 r1 m1 p1 => ?_
      walk_at "wm"
      cases hr : (r == 0) with
      | true =>
        walk_at "wm"
        exact hq G1 _ (th_bl (by omega)) m1 (p1.le (by omega))
      | false =>
        walk_at "wm"
        exact odd G1 _ m1 p1 (by omega) _
    · refine ⟨_, isi_int ty0, ?_⟩
      rw [show isIbD d = false by rw [hd2]; rfl]
      walk_at "wm"
      refine ⟨_, isi_bool ty0, ?_⟩
      rw [show isBlD d = false by rw [hd2]; rfl]
      walk_at "wm"
      exact odd G _ Mod.refl hp (by omega) _
    · refine ⟨_, isi_int ty0, ?_⟩
      rw [n1]
      walk_at "wm"
      refine ⟨_, isi_bool ty0, ?_⟩
      rw [n3]
      walk_at "wm"
      exact odd G _ Mod.refl hp (by omega) _
theorem cut_mid {xs : List Dt} {a : Nat} (h : a < xs.length) : cutD xs (some (a : Int)) (some ((a + 1 : Nat) : Int)) = [xs[a]] := by
  unfold cutD
  rw [HT.sIx_nat, HT.sIx_nat, Nat.min_eq_left (by omega), Nat.min_eq_left (by omega), Nat.add_sub_cancel_left, List.drop_eq_getElem_cons h]
  rfl
theorem spoilt_ok {S : List Nat} {p B : Nat} (pS : p ∈ S) (B1 : B + 200 ≤ 2 ^ 600) : ∀ (D k n m L c : Nat) (d : Dt) (G : Gh) (Q : QE) (E : XQ), n ≤ m → D + 2 ≤ m → L ≤ 1000000 → (∀ s ∈ S, s < G.length) → Pot G p c → c + 4 * D ≤ 2 ^ 29 → D ≤ 10 → Th G S n L d → smI B n d → (∀ G' d', Th G' S m (4 * (L * (D + 1)) + 1000 * (D + 1)) d' → Mod [p] G G' → Pot G' p (c + 4 * (D + 1)) → Q d' G') → C (k + D + 3) F_law_spoilt4 [.ref p, d, .int (D : Int)] G Q E := by
  intro D
  induction D with
  | zero =>
    intro k n m L c d G Q E hnm hm hL hS hp hc _ hd hs hq
    exact spoilt_leaf pS B1 (.inl rfl) (by omega) hS hp (by omega) hd hs fun G' d' t' m' p' => hq G' d' (t'.le (by omega)) m' (p'.le (by omega))
  | succ D ih =>
    intro k n m L c d G Q E hnm hm hL hS hp hc hD hd hs hq
    by_cases hleaf : isTp d = false ∨ d = .tup []
    · rw [show k + (D + 1) + 3 = (k + D + 1) + 3 by omega]
      exact spoilt_leaf pS B1 (.inr hleaf) (by omega) hS hp (by omega) hd hs fun G' d' t' m' p' => hq G' d' (t'.le (by omega)) m' (p'.le (by omega))
    · obtain ⟨xs, rfl, hne⟩ : ∃ xs, d = .tup xs ∧ xs ≠ [] := by
        cases d with
        | tup xs => exact ⟨xs, rfl, fun z => hleaf (.inr (by rw [z]))⟩
        | _ => exact (hleaf (.inl rfl)).elim
      have hpos : 0 < xs.length := List.length_pos_iff.mpr hne
      have hexp : L * (D + 1 + 1) = L * (D + 1) + L := Nat.mul_succ _ _
      have hmul : L ≤ L * (D + 1) := Nat.le_mul_of_pos_right _ (by omega)
      rw [hexp] at hq
      generalize hLD : L * (D + 1) = LD at hq hmul
      cases n with
      | zero => exact (show False by have := hd.1; unfold thg at this; exact this).elim
      | succ n =>
        obtain ⟨m, rfl⟩ : ∃ m', m = m' + 1 := ⟨m - 1, by omega⟩
        have row := hd.row
        have hlen := row.len
        rw [smI_tup] at hs
        have szl : xs.length + xs.length + 10 ≤ sizeLine := by rw [sizeLine_eq]; omega
        have rowm := fun (G' : Gh) (mo : Mod [p] G G') => (row.mv (mo.to pS)).up (show n ≤ m by omega) (Nat.le_refl L)
        refine ⟨_, rfl, rfl, ?_⟩
        unfold c_law_spoilt4
        refine seqC fun B2 hB => ?_
        walk_at "wm"
        rw [show ((((D + 1 : Nat) : Int)) == 0) = false from beq_eq_false_iff_ne.mpr (by omega), if_neg (by decide)]
        refine ⟨_, isi_tup (thg_ty hd.1), ?_⟩
        unfold isTp
        walk_at "wm"
        refine ⟨u_sz0, eq_empty ?_⟩
        rw [show xs.isEmpty = false by cases xs with | nil => exact (hne rfl).elim | cons _ _ => rfl]
        walk_at "wm"
        subst hB
        refine seqC fun B2 hB => ?_
        walk_at "wm"
        refine take_ok hp (by omega) (by omega) (Int.lt_of_le_of_lt (show (xs.length : Int) ≤ 1000000 by omega) (by decide)) fun at_ G1 a0 a1 m1 p1 => ?_
        obtain ⟨a, rfl⟩ := Int.eq_ofNat_of_zero_le a0
        have hal : a < xs.length := by omega
        have ea : (a : Int) + 1 = ((a + 1 : Nat) : Int) := by omega
        subst hB
        refine seqC fun B2 hB => ?_
        walk_at "wm"
        refine take_ok p1 (by omega) (by omega) (by omega) fun way G2 w0 w1 m2 p2 => ?_
        have mA : Mod [p] G G2 := m1.trans m2
        have row2 := rowm G2 mA
        subst hB
        refine seqC fun B2 hB => ?_
        walk_at "wm"
        by_cases hw : way < 5
        · rw [if_pos hw]
          walk_at "wm"
          rw [cut_to]
          refine ⟨_, at_nat (k := a) (List.getElem?_eq_getElem hal), ?_⟩
          rw [show (((D + 1 : Nat) : Int)) - 1 = (D : Int) by omega]
          have hx : xs[a] ∈ xs := List.getElem_mem hal
          have he := (row.get hx).mv (mA.to pS)
          refine ih k n m L (c + 2) _ G2 _ E (by omega) (by omega) hL (hS_up hS mA.len) p2 (by omega) (by omega) he (hs _ hx) fun G3 d3 t3 m3 p3 => ?_
          rw [hLD] at t3
          refine ⟨u_sz1, by simp; omega, ?_⟩
          rw [ea, cut_from]
          refine ⟨by simp; omega, ?_⟩
          have row3 := rowm G3 (mA.trans m3)
          have t := ((row3.take (i := a)).app (ThS.one t3) |>.app (row3.drop (i := a + 1))).tup
          exact hq G3 _ (t.le (by omega)) (mA.trans m3) (p3.le (by omega))
        · rw [if_neg hw]
          subst hB
          refine seqC fun B2 hB => ?_
          walk_at "wm"
          cases hw5 : (way == 5) with
          | true =>
            walk_at "wm"
            rw [cut_to, ea, cut_from]
            refine ⟨by simp; omega, ?_⟩
            have t := ((row2.take (i := a)).app (row2.drop (i := a + 1))).tup
            exact hq G2 _ (t.le (by omega)) mA (p2.le (by omega))
          | false =>
            walk_at "wm"
            subst hB
            refine seqC fun B2 hB => ?_
            walk_at "wm"
            cases hw6 : (way == 6) with
            | true =>
              walk_at "wm"
              rw [cut_to, ea, cut_mid hal, cut_from]
              have hx : xs[a] ∈ xs := List.getElem_mem hal
              refine ⟨by simp, by omega, by omega, by simp, by simp; omega, by simp; omega, ?_⟩
              have hr : (List.replicate (Int.toNat 2) [xs[a]]).flatten = [xs[a]] ++ [xs[a]] := rfl
              rw [hr]
              have he := row2.get hx
              have t := ((row2.take (i := a)).app ((ThS.one he).app (ThS.one he)) |>.app (row2.drop (i := a + 1))).tup
              exact hq G2 _ (t.le (by omega)) mA (p2.le (by omega))
            | false =>
              walk_at "wm"
              subst hB
              refine seqC fun B2 hB => ?_
              walk_at "wm"
              cases hw7 : (way == 7) with
              | true =>
                walk_at "wm"
                have e3 : (G2 ++ [Ob.lst xs])[G2.length]? = some (.lst xs) := at_len
                have row3 := rowm (G2 ++ [Ob.lst xs]) (mA.trans Mod.app)
                exact hq _ _ ((row3.lst e3 (fun z => by have := hS _ z; have := mA.len; omega)).le (by omega)) (mA.trans Mod.app) ((p2.mv (S := []) Mod.app (by simp)).le (by omega))
              | false =>
                walk_at "wm"
                subst hB
                walk_at "wm"
                rw [cut_to]
                refine law_odd_ok pS (hS_up hS mA.len) p2 (by omega) fun G3 d3 t3 m3 p3 => ?_
                refine ⟨u_sz1, by simp; omega, ?_⟩
                rw [cut_from]
                refine ⟨by simp; omega, ?_⟩
                have row3 := rowm G3 (mA.trans m3)
                have t := ((row3.take (i := a)).app (ThS.one (t3.up (show 2 ≤ m by omega) (Nat.le_refl _))) |>.app (row3.drop (i := a))).tup
                exact hq G3 _ (t.le (by omega)) (mA.trans m3) (p3.le (by omega))

local macro_rules | `(tactic| walk_at "wm") => `(tactic| try simp only [sem, env0, kwF, w_add, w_addT, w_sub, w_mul, w_mulT, w_mulL, w_addL, w_addF, w_fdiv, w_mod, w_pow, w_bor, w_shl, w_shr, w_aadd, w_aaddT, w_asub, w_abor, w_ashl, w_ashr, w_lt, w_le, w_gt, w_ge, w_is, w_isnot, w_eqI, w_neI, w_eqB, w_neB, w_eqS, w_neS, w_inT, w_ixT, w_ixL, w_at0, w_at1, w_at2, w_at3, w_at4, w_at5, w_at6, w_truB, w_truI, w_truT, w_len, w_abs, w_min, w_max, w_max3, w_sum, w_all, w_any, w_intI, w_intB, w_tuple, w_list, w_divmod, w_seqT, w_seqL, w_append, w_extend, w_extendT, w_popAt, w_index, w_store, w_slT, w_slL, isNonD, List.map_cons, List.map_nil, List.length_cons, List.length_nil, List.replicate, List.cons_append, List.nil_append, List.append_nil, List.getElem?_cons_zero, List.getElem?_cons_succ, List.set_cons_zero, List.set_cons_succ, Option.some.injEq, exists_eq_left', exists_eq_left, exists_eq', exists_eq, Nat.zero_add, Nat.reduceAdd, Nat.reduceSub, Dt.bl.injEq, Dt.int.injEq, Dt.tup.injEq, Dt.ref.injEq, if_true, if_false, Bool.false_eq_true, Bool.not_true, Bool.not_false, true_and, and_true, lenA, w_wR, w_wT, List.take_succ_cons, List.take_zero, List.drop_succ_cons, List.drop_zero, w_ex2, and_self, exists_const, reduceCtorEq, decide_eq_true_eq, wipeD])
local macro_rules | `(tactic| walk_at "wh") => `(tactic| try simp only [sem, env0, kwF, w_add, w_addT, w_sub, w_mul, w_mulT, w_mulL, w_addL, w_addF, w_fdiv, w_mod, w_pow, w_bor, w_shl, w_shr, w_aadd, w_aaddT, w_asub, w_abor, w_ashl, w_ashr, w_lt, w_le, w_gt, w_ge, w_is, w_isnot, w_eqI, w_neI, w_eqB, w_neB, w_eqS, w_neS, w_inT, w_ixT, u_ixL, w_at0, w_at1, w_at2, w_at3, w_truB, w_truI, w_truT, w_len, w_abs, w_min, w_max, w_max3, w_sum, w_all, w_any, w_intI, w_intB, w_tuple, w_list, w_divmod, w_seqT, w_seqL, w_append, w_extend, w_extendT, w_popAt, w_index, u_store, u_ixD, u_storeD, w_slT, w_slL, isNonD, List.map_cons, List.map_nil, List.length_cons, List.length_nil, List.replicate, List.cons_append, List.nil_append, List.append_nil, List.getElem?_cons_zero, List.getElem?_cons_succ, List.set_cons_zero, List.set_cons_succ, Option.some.injEq, exists_eq_left', exists_eq_left, exists_eq', exists_eq, Nat.zero_add, Nat.reduceAdd, Nat.reduceSub, Dt.bl.injEq, Dt.int.injEq, Dt.tup.injEq, Dt.ref.injEq, if_true, if_false, Bool.false_eq_true, Bool.not_true, Bool.not_false, true_and, and_true, lenA, w_wR, w_wT, List.take_succ_cons, List.take_zero, List.drop_succ_cons, List.drop_zero, w_ex2, and_self, exists_const, reduceCtorEq, decide_eq_true_eq, wipeD, u_self, u_selfG, List.set_set, List.length_set, u_ix10, u_ix20, u_ix21, u_ix30, u_ix31, u_ix32, u_ix40, u_ix41, u_ix42, u_ix43, w_at4, w_at5, w_at6, w_truN, u_sz0, u_sz1, u_sz2, u_sz3, u_sz4, u_sz5, u_sz6, u_sz7, u_sz8, Ob.lst.injEq, Ob.dct.injEq, Dt.str.injEq, not_true_eq_false, not_false_eq_true, Bool.or_false, Bool.and_true, decide_true, decide_false, ge_iff_le, gt_iff_lt, *])
local macro_rules | `(tactic| walk_at "ws") => `(tactic| simp only [q_full_full, q_full_drop, q_full_mark, q_full_come, q_full_send, q_full_bell, q_drop_full, q_drop_drop, q_drop_mark, q_drop_come, q_drop_send, q_drop_bell, q_mark_full, q_mark_drop, q_mark_mark, q_mark_come, q_mark_send, q_mark_bell, q_come_full, q_come_drop, q_come_mark, q_come_come, q_come_send, q_come_bell, q_send_full, q_send_drop, q_send_mark, q_send_come, q_send_send, q_send_bell, q_bell_full, q_bell_drop, q_bell_mark, q_bell_come, q_bell_send, q_bell_bell, q_late_late, q_late_share, q_late_none, q_share_late, q_share_share, q_share_none, q_none_late, q_none_share, q_none_none, Bool.not_true, Bool.not_false, Bool.false_eq_true, if_true, if_false])
local macro_rules | `(tactic| walk_at "tk") => `(tactic| (refine take_ok (by assumption) (by omega) (by omega) (by first | omega | (refine Int.lt_of_lt_of_le (b := 2 ^ 40) (by omega) (p2_le (by omega)))) fun _ _ _ _ _ _ => ?_; walk_at "wm"))
local macro_rules | `(tactic| walk_at "pk") => `(tactic| (refine pick (by assumption) (by omega) (by omega) (by simp) (by omega) fun _ _ hd _ _ => ?_; walk_at "wm"))
local macro_rules | `(tactic| walk_at "md") => `(tactic| first | assumption | exact Mod.refl | (refine Mod.trans (by assumption) ?_; walk_at "md"))
local macro_rules | `(tactic| walk_at "pt") => `(tactic| first | assumption | exact Pot.le (by assumption) (by omega))
local macro_rules | `(tactic| walk_at "sz") => `(tactic| (refine ⟨by first | omega | (rw [sizeLine_eq]; omega) | (rw [sizeLine_eq]; simp; omega), ?_⟩))
local macro_rules | `(tactic| walk_at "ex") => `(tactic| ((first | refine ⟨false, (isi_exc (by first | assumption | exact exc_app (by assumption) | exact exc_app (exc_app (by assumption))) _).trans (by decide), ?_⟩ | refine ⟨true, (isi_exc (by first | assumption | exact exc_app (by assumption) | exact exc_app (exc_app (by assumption))) _).trans (by decide), ?_⟩ | refine ⟨u_sz3, ?_⟩ | refine ⟨u_sz2, ?_⟩ | refine ⟨u_sz1, ?_⟩ | refine ⟨u_sz4, ?_⟩ | refine ⟨u_sz5, ?_⟩); walk_at "wm"))
local macro_rules | `(tactic| walk_at "nw") => `(tactic| simp only [new1, new2a, new1L, new2L, Option.some.injEq, Ob.lst.injEq, exists_eq_left', exists_eq_left, exists_eq', exists_eq, List.cons_append, List.nil_append, List.length_cons, List.length_nil, Nat.reduceAdd, Nat.zero_add, true_and])

theorem th_str {G : Gh} {S : List Nat} {n L : Nat} {s : Str} (h : strC s = true) (hl : 10 * s.length + 2 ≤ L) : Th G S n L (.str s) := ⟨by rw [thg_str]; exact h, by rw [lenT_str]; exact hl⟩
theorem th_small {G : Gh} {S : List Nat} {n : Nat} {i : Int} (h0 : 0 ≤ i) (h1 : i ≤ 20000) : Th G S n 601 (.int i) := th_int (sm600 (by omega) (by omega)) (Nat.le_refl _)
theorem th_rl {G : Gh} {S : List Nat} {n : Nat} {r : Rl} (o : OkRl r) : Th G S (n + 1) 4000 r.D := by
  cases r with
  | non =>
    refine ((ThS.all (m := 1) (L := 601) (fun x hx => ?_) (Nat.le_refl _)).tup).le (by omega)
    rw [List.mem_singleton.mp hx]
    exact th_str (by decide +kernel) (by decide)
  | lat m s =>
    have o : OkR m s := o
    have := o.m0; have := o.m1; have := o.s0; have := o.s1
    refine ((ThS.all (m := 3) (L := 601) (fun x hx => ?_) (Nat.le_refl _)).tup).le (by omega)
    simp only [List.mem_cons, List.not_mem_nil, or_false] at hx
    rcases hx with rfl | rfl | rfl
    · exact th_str (by decide +kernel) (by decide)
    · exact th_small (by omega) (by omega)
    · exact th_small (by omega) (by omega)
  | shr m p u t =>
    have o : OkS m p u t := o
    have := o.m0; have := o.m1; have := o.p0; have := o.p1; have := o.u0; have := o.u1; have := o.t0; have := o.t1
    refine ((ThS.all (m := 5) (L := 601) (fun x hx => ?_) (Nat.le_refl _)).tup).le (by omega)
    simp only [List.mem_cons, List.not_mem_nil, or_false] at hx
    rcases hx with rfl | rfl | rfl | rfl | rfl
    · exact th_str (by decide +kernel) (by decide)
    · exact th_small (by omega) (by omega)
    · exact th_small (by omega) (by omega)
    · exact th_small (by omega) (by omega)
    · exact th_small (by omega) (by omega)
theorem span_sq {s c : Int} (s0 : 1 ≤ s) (s1 : s ≤ 99) (h : c ≤ s * s) : c ≤ 9801 := Int.le_trans h (Int.mul_le_mul s1 s1 (by omega) (by omega))
theorem mm_el {r : Rl} {x : Mm} (o : OkRl r) (ox : OkMm r x) : x.L.length ≤ 4 ∧ ∀ d ∈ x.L, d = .non ∨ ∃ i : Int, d = .int i ∧ 0 ≤ i ∧ i ≤ 10000 := by
  cases r <;> cases x <;> try exact ox.elim
  · exact ⟨by decide, fun d hd => by cases hd⟩
  · rename_i m s a l c
    have o : OkR m s := o
    have ox : OkM s a l c := ox
    refine ⟨by show 3 ≤ 4; decide, fun d hd => ?_⟩
    have hc := span_sq o.s0 o.s1 ox.c1
    have s1 := o.s1
    have hx : d ∈ [optD a, optD l, .int c] := hd
    simp only [List.mem_cons, List.not_mem_nil, or_false] at hx
    rcases hx with rfl | rfl | rfl
    · cases a with
      | none => exact .inl rfl
      | some i => have := ox.a i rfl; exact .inr ⟨i, rfl, this.1, by omega⟩
    · cases l with
      | none => exact .inl rfl
      | some i => have := ox.l i rfl; exact .inr ⟨i, rfl, this.2.1, by omega⟩
    · exact .inr ⟨_, rfl, ox.c0, by omega⟩
  · rename_i m p u t ph sh od tt
    have o : OkS m p u t := o
    have ox : OkSM p ph sh od tt := ox
    have := o.p1; have := ox.h0; have := ox.h1; have := ox.s0; have := ox.s1; have := ox.o0; have := ox.o1; have := ox.t0; have := ox.t1
    refine ⟨by show 4 ≤ 4; decide, fun d hd => ?_⟩
    have hx : d ∈ [.int ph, .int sh, .int od, .int tt] := hd
    simp only [List.mem_cons, List.not_mem_nil, or_false] at hx
    rcases hx with rfl | rfl | rfl | rfl <;> exact .inr ⟨_, rfl, by omega, by omega⟩
theorem th_mm {G : Gh} {S : List Nat} {n : Nat} {r : Rl} {x : Mm} (o : OkRl r) (ox : OkMm r x) : Th G S (n + 1) 4000 x.D := by
  obtain ⟨h1, h2⟩ := mm_el o ox
  refine ((ThS.all (m := 4) (L := 601) (fun d hd => ?_) h1).tup).le (by omega)
  rcases h2 d hd with rfl | ⟨i, rfl, i0, i1⟩
  · exact th_non (Nat.le_refl _)
  · exact th_small i0 (by omega)
theorem smI_at {B n : Nat} {d : Dt} (h : isTp d = false) (hi : ∀ i, d = .int i → i.natAbs < B) : smI B n d := by
  cases n <;> cases d <;> first | exact hi _ rfl | trivial | cases h
theorem sm_mm {n : Nat} {r : Rl} {x : Mm} (o : OkRl r) (ox : OkMm r x) : smI 20000 (n + 1) x.D := by
  obtain ⟨h1, h2⟩ := mm_el o ox
  rw [smI_tup]
  intro d hd
  rcases h2 d hd with rfl | ⟨i, rfl, i0, i1⟩
  · exact smI_at rfl fun i e => by cases e
  · exact smI_at rfl fun j e => by cases e; omega
theorem sm_rl {n : Nat} {r : Rl} (o : OkRl r) : smI 20000 (n + 1) r.D := by
  cases r with
  | non =>
    unfold Rl.D
    rw [smI_tup]
    intro d hd
    rw [List.mem_singleton.mp hd]
    exact smI_at rfl fun i e => by cases e
  | lat m s =>
    have o : OkR m s := o
    have := o.m0; have := o.m1; have := o.s0; have := o.s1
    unfold Rl.D lateR
    rw [smI_tup]
    intro d hd
    simp only [List.mem_cons, List.not_mem_nil, or_false] at hd
    rcases hd with rfl | rfl | rfl <;> exact smI_at rfl fun i e => by (cases e) <;> omega
  | shr m p u t =>
    have o : OkS m p u t := o
    have := o.m0; have := o.m1; have := o.p0; have := o.p1; have := o.u0; have := o.u1; have := o.t0; have := o.t1
    unfold Rl.D shareR
    rw [smI_tup]
    intro d hd
    simp only [List.mem_cons, List.not_mem_nil, or_false] at hd
    rcases hd with rfl | rfl | rfl | rfl | rfl <;> exact smI_at rfl fun i e => by (cases e) <;> omega
theorem cut_takeK {xs : List Dt} {n : Nat} : cutD xs none (some (n : Int)) = xs.take n := by
  unfold cutD
  rw [HT.sIx_none, HT.sIx_nat, List.drop_zero, Nat.sub_zero]
  by_cases h : n ≤ xs.length
  · rw [Nat.min_eq_left h]
  · rw [Nat.min_eq_right (by omega), List.take_length, List.take_of_length_le (by omega)]
theorem law_rightB_ok {k : Nat} {b : Bool} {G : Gh} {Q : QE} {E : XQ} (hq : Q (.bl true) G) : C (k + 1) F_law_right [.bl b, .bl b] G Q E := by
  refine ⟨_, rfl, rfl, ?_⟩
  unfold c_law_right
  walk_at "wm"
  refine ⟨true, ty_bl, ?_⟩
  rw [if_pos rfl, beq_self_eq_true]
  exact hq
section
variable {k p q : Nat} {ys : List Dt} {G : Gh} {K : Kn}
theorem loop43_1 {a0 a1 a2 a3 a4 a5 a6 e7 : Option Dt} (hy : G[q]? = some (.lst ys)) (ht : ∀ y ∈ ys, Th G [p] 5 60000 y) (hn : ∀ G' e7, Mod [] G G' → K.nx [a0, a1, a2, a3, a4, a5, a6, e7] G') : forD (sem (C (k + 10)) (kwF kwd) isaF (.gn 7)).g (sem (C (k + 10)) (kwF kwd) isaF c_law43_1).s [(q, ys)] ys [a0, a1, a2, a3, a4, a5, a6, e7] G K := by
  refine forC (.gn 7) (fun items env G' => (∀ y ∈ items, y ∈ ys) ∧ Mod [] G G' ∧ ∃ e7, env = [a0, a1, a2, a3, a4, a5, a6, e7]) ?_ ?_ _ _ _ ⟨fun _ z => z, Mod.refl, _, rfl⟩
  · rintro y items env G' ⟨hi, m, e7, rfl⟩
    refine ⟨fun pr hp => by rw [List.mem_singleton.mp hp]; exact w_lst (m.at hy (by simp)), ?_⟩
    have hty := (ht y (hi y List.mem_cons_self)).mv (m.pure (S' := [p]))
    refine gnD (bodyC _ (fun _ _ z => z) fun KK hK hR => ?_)
    unfold c_law43_1
    walk_at "wm"
    refine is_rule_any hty.1 fun G2 m2 => ?_
    refine law_is_rule3_any (hty.mv (m2.pure (S' := [p]))).1 fun G3 m3 => ?_
    refine law_rightB_ok ?_
    walk_at "wm"
    rw [hK]
    exact ⟨fun z hz => hi z (List.mem_cons_of_mem _ hz), m.trans (m2.trans m3), _, rfl⟩
  · rintro env G' ⟨hi, m, e7, rfl⟩
    exact ⟨fun pr hp => by rw [List.mem_singleton.mp hp]; exact w_lst (m.at hy (by simp)), hn G' e7 m⟩
theorem loop43_2 {r : Rl} {a0 a1 a2 a4 a5 a6 e7 : Option Dt} (o : OkRl r) (hy : G[q]? = some (.lst ys)) (ht : ∀ y ∈ ys, Th G [p] 5 60000 y) (hn : ∀ G' e7, Mod [] G G' → K.nx [a0, a1, a2, some r.D, a4, a5, a6, e7] G') : forD (sem (C (k + 10)) (kwF kwd) isaF (.gn 7)).g (sem (C (k + 10)) (kwF kwd) isaF c_law43_2).s [(q, ys)] ys [a0, a1, a2, some r.D, a4, a5, a6, e7] G K := by
  refine forC (.gn 7) (fun items env G' => (∀ y ∈ items, y ∈ ys) ∧ Mod [] G G' ∧ ∃ e7, env = [a0, a1, a2, some r.D, a4, a5, a6, e7]) ?_ ?_ _ _ _ ⟨fun _ z => z, Mod.refl, _, rfl⟩
  · rintro y items env G' ⟨hi, m, e7, rfl⟩
    refine ⟨fun pr hp => by rw [List.mem_singleton.mp hp]; exact w_lst (m.at hy (by simp)), ?_⟩
    have hty := (ht y (hi y List.mem_cons_self)).mv (m.pure (S' := [p]))
    refine gnD (bodyC _ (fun _ _ z => z) fun KK hK hR => ?_)
    unfold c_law43_2
    walk_at "wm"
    refine is_memory_any o hty.1 fun G2 m2 => ?_
    refine law_is_memory_any o (hty.mv (m2.pure (S' := [p]))).1 fun G3 m3 => ?_
    refine law_rightB_ok ?_
    walk_at "wm"
    rw [hK]
    exact ⟨fun z hz => hi z (List.mem_cons_of_mem _ hz), m.trans (m2.trans m3), _, rfl⟩
  · rintro env G' ⟨hi, m, e7, rfl⟩
    exact ⟨fun pr hp => by rw [List.mem_singleton.mp hp]; exact w_lst (m.at hy (by simp)), hn G' e7 m⟩
end
theorem law_core (ns : List Int) (h : ns.length ≤ 63) : C 30 F_law43 [.ref 0] [.frz (ns.map Dt.int)] (fun d _ => d = .bl true) fun _ _ => False := by
  refine ⟨_, rfl, rfl, ?_⟩
  unfold c_law43
  have e0 : [Ob.frz (ns.map Dt.int)][0]? = some (.frz (ns.map Dt.int)) := rfl
  generalize [Ob.frz (ns.map Dt.int)] = G0 at *
  have hr : lstAt G0 0 = some (ns.map Dt.int) := w_frz e0
  refine seqC fun B hB => ?_
  walk_at "wm"
  refine ⟨_, hr, _, w_lst at_len, ?_⟩
  have m1 : Mod [] G0 (G0 ++ [Ob.lst (cutD (ns.map Dt.int) none (some 30))]) := Mod.app
  have e1 := m1.at e0 (by simp)
  generalize G0 ++ [Ob.lst (cutD (ns.map Dt.int) none (some 30))] = G1 at m1 e1 ⊢
  rw [show cutD (ns.map Dt.int) none (some 30) = (ns.map Dt.int).take 30 from cut_takeK (n := 30)]
  obtain ⟨n, hn, hn2⟩ : ∃ n : Nat, ((((ns.map Dt.int).take 30).length : Nat) : Int) + 1 = n ∧ n ≤ 31 := ⟨((ns.map Dt.int).take 30).length + 1, by omega, by rw [List.length_take]; omega⟩
  rw [hn]
  refine ⟨by omega, by omega, forC (.gn 1) (fun items env G => Mod [] G1 G ∧ (∃ i : Nat, i ≤ n ∧ items = rangeD i n) ∧ ∃ a1 a2 a3 a4 a5 a6 a7, env = [some (.ref 0), a1, a2, a3, a4, a5, a6, a7]) ?_ ?_ _ _ _ ⟨Mod.refl, ⟨0, by omega, rfl⟩, _, _, _, _, _, _, _, rfl⟩⟩
  · rintro x items env G ⟨m, ⟨i, hi, hx⟩, a1, a2, a3, a4, a5, a6, a7, rfl⟩
    obtain ⟨hlt, rfl, rfl⟩ := range_split hx
    refine ⟨stands_nil, ?_⟩
    refine gnD (bodyC _ (fun _ _ z => z) fun KK hK hR => ?_)
    unfold c_law43_3
    refine seqC fun B hB => ?_
    walk_at "wm"
    have eF := m.at e1 (by simp)
    have mA : Mod [] G (G ++ [Ob.lst [Dt.int 0]]) := Mod.app
    refine ⟨u_sz1, _, _, at_len, mA.at eF (by simp), by rw [sizeLine_eq]; simp; omega, ?_⟩
    have e2 : lstAt (G ++ [Ob.lst [Dt.int 0]] ++ [Ob.lst ([Dt.int 0] ++ ns.map Dt.int)]) (G ++ [Ob.lst [Dt.int 0]]).length = some ((0 :: ns).map Dt.int) := w_lst at_len
    have mB : Mod [] G (G ++ [Ob.lst [Dt.int 0]] ++ [Ob.lst ([Dt.int 0] ++ ns.map Dt.int)]) := mA.trans Mod.app
    generalize G ++ [Ob.lst [Dt.int 0]] ++ [Ob.lst ([Dt.int 0] ++ ns.map Dt.int)] = G2 at e2 mB ⊢
    refine pot_ok e2 (by omega) fun G3 m3 q3 => ?_
    have lG : G.length ≤ G2.length := mB.len
    have m23 : Mod [] G G3 := mB.trans m3
    generalize G2.length = p at q3 lG ⊢
    subst hB
    refine seqC fun B hB => ?_
    walk_at "wm"
    refine law_rule_ok q3 (by omega) fun r G4 o m4 q4 => ?_
    subst hB
    refine seqC fun B hB => ?_
    walk_at "wm"
    refine law_rule_ok q4 (by omega) fun r2 G5 o2 m5 q5 => ?_
    subst hB
    refine seqC fun B hB => ?_
    walk_at "wm"
    refine law_memory_ok o q5 (by omega) fun x G6 ox m6 q6 => ?_
    subst hB
    refine seqC fun B hB => ?_
    walk_at "wm"
    have pS : p ∈ [p] := by simp
    have hSp : ∀ {G' : Gh} {c : Nat}, Pot G' p c → ∀ s ∈ [p], s < G'.length := fun q s hs => by rw [List.mem_singleton.mp hs]; exact q.lt
    have h600 : 20000 + 200 ≤ 2 ^ 600 := Nat.le_trans (show 20200 ≤ 2 ^ 20 by decide) (Nat.pow_le_pow_right (by omega) (by omega))
    refine spoilt_ok pS h600 2 24 1 4 4000 _ _ _ _ _ (by omega) (by omega) (by omega) (hSp q6) q6 (by omega) (by omega) (th_rl o) (sm_rl o) fun G7 d1 t1 m7 q7 => ?_
    refine spoilt_ok pS h600 1 25 1 4 4000 _ _ _ _ _ (by omega) (by omega) (by omega) (hSp q7) q7 (by omega) (by omega) (th_rl o) (sm_rl o) fun G8 d2 t2 m8 q8 => ?_
    refine law_odd_ok pS (hSp q8) q8 (by omega) fun G9 d3 t3 m9 q9 => ?_
    obtain ⟨rs, ers⟩ : ∃ rs, r.D = .tup rs := by
      obtain ⟨L, e⟩ := rlD r
      exact ⟨_, e⟩
    have tr : ∀ G, Th G [p] 1 4000 r.D := fun G => th_rl (n := 0) o
    have tr2 : ∀ G, Th G [p] 1 4000 r2.D := fun G => th_rl (n := 0) o2
    have trs : ∀ G, ThS G [p] 0 4000 rs := fun G => by have := tr G; rw [ers] at this; exact this.row
    have hrsl : rs.length ≤ 2000 := by have := (trs G9).len; omega
    have es : slD r.D none (some 1) G9 = fun Q => Q (.tup (rs.take 1)) G9 := by
      funext Q
      rw [ers]
      show Q (.tup (cutD rs none (some ((1 : Nat) : Int)))) G9 = _
      rw [cut_takeK]
    rw [es]
    refine ⟨u_sz6, ?_⟩
    have mL : Mod [p] G9 (G9 ++ [Ob.lst [r.D, r2.D, d1, d2, d3, .tup (rs.take 1)]]) := Mod.app
    have eL : (G9 ++ [Ob.lst [r.D, r2.D, d1, d2, d3, .tup (rs.take 1)]])[G9.length]? = some (.lst [r.D, r2.D, d1, d2, d3, .tup (rs.take 1)]) := at_len
    have tL : ∀ y ∈ [r.D, r2.D, d1, d2, d3, .tup (rs.take 1)], Th (G9 ++ [Ob.lst [r.D, r2.D, d1, d2, d3, .tup (rs.take 1)]]) [p] 5 60000 y := fun y hy => by
      simp only [List.mem_cons, List.not_mem_nil, or_false] at hy
      rcases hy with rfl | rfl | rfl | rfl | rfl | rfl
      · exact (tr _).up (by omega) (by omega)
      · exact (tr2 _).up (by omega) (by omega)
      · exact ((t1.mv m8).mv (m9.trans mL)).up (by omega) (by omega)
      · exact ((t2.mv m9).mv mL).up (by omega) (by omega)
      · exact (t3.mv mL).up (by omega) (by omega)
      · exact ((trs _).take.tup).up (by omega) (by omega)
    have q10 := q9.mv (S := []) (Mod.app (g := [Ob.lst [r.D, r2.D, d1, d2, d3, .tup (rs.take 1)]])) (by simp)
    have mE10 : Mod [p] G3 (G9 ++ [Ob.lst [r.D, r2.D, d1, d2, d3, .tup (rs.take 1)]]) := m4.trans (m5.trans (m6.trans (m7.trans (m8.trans (m9.trans mL)))))
    have hqL : G3.length ≤ G9.length := (m4.trans (m5.trans (m6.trans (m7.trans (m8.trans m9))))).len
    have hlx : ([r.D, r2.D, d1, d2, d3, .tup (rs.take 1)] : List Dt).length = 6 := rfl
    generalize [r.D, r2.D, d1, d2, d3, .tup (rs.take 1)] = xs at eL tL q10 mE10 hlx ⊢
    generalize G9 ++ [Ob.lst xs] = G10 at eL tL q10 mE10 ⊢
    have hp3 := q3.lt
    generalize G9.length = qL at eL hqL ⊢
    subst hB
    refine seqC fun B hB => ?_
    walk_at "wm"
    rw [ers]
    walk_at "wm"
    have lq := (List.getElem?_eq_some_iff.mp eL).1
    have mX : Mod [] G10 (G10 ++ [Ob.lst rs] ++ [Ob.lst [Dt.ref G10.length]]) := Mod.app.trans Mod.app
    refine ⟨u_sz1, _, _, mX.at eL (by simp), at_len, by rw [sizeLine_eq, hlx]; simp, _, w_lst at_len, ?_⟩
    have hp10 := q10.lt
    have eR : (G10 ++ [Ob.lst rs] ++ [Ob.lst [Dt.ref G10.length]] ++ [Ob.lst (xs ++ [Dt.ref G10.length])])[G10.length]? = some (.lst rs) := by simp
    have eY : (G10 ++ [Ob.lst rs] ++ [Ob.lst [Dt.ref G10.length]] ++ [Ob.lst (xs ++ [Dt.ref G10.length])])[(G10 ++ [Ob.lst rs] ++ [Ob.lst [Dt.ref G10.length]]).length]? = some (.lst (xs ++ [Dt.ref G10.length])) := at_len
    have mY : Mod [] G10 (G10 ++ [Ob.lst rs] ++ [Ob.lst [Dt.ref G10.length]] ++ [Ob.lst (xs ++ [Dt.ref G10.length])]) := mX.trans Mod.app
    generalize G10 ++ [Ob.lst rs] ++ [Ob.lst [Dt.ref G10.length]] ++ [Ob.lst (xs ++ [Dt.ref G10.length])] = G11 at eR eY mY ⊢
    have tY : ∀ y ∈ xs ++ [Dt.ref G10.length], Th G11 [p] 5 60000 y := fun y hy => by
      rcases List.mem_append.mp hy with z | z
      · exact (tL y z).mv (mY.pure (S' := [p]))
      · rw [List.mem_singleton.mp z]
        exact ((trs G11).lst eR (by simp; omega)).up (by omega) (by omega)
    refine loop43_1 (k := 19) (p := p) eY tY fun G12 e7 m12 => ?_
    have q12 := (q10.mv mY (by simp)).mv m12 (by simp)
    have mE12 : Mod [p] G3 G12 := mE10.trans (mY.trans m12).pure
    show B.s _ _ _
    rw [← ers]
    subst hB
    refine seqC fun B hB => ?_
    walk_at "wm"
    refine law_memory_ok o2 q12 (by omega) fun x2 G13 ox2 m13 q13 => ?_
    refine law_odd_ok pS (hSp q13) q13 (by omega) fun G14 d4 t4 m14 q14 => ?_
    refine ⟨u_sz3, ?_⟩
    have tx : ∀ G, Th G [p] 1 4000 x.D := fun G => th_mm (n := 0) o ox
    have tx2 : ∀ G, Th G [p] 1 4000 x2.D := fun G => th_mm (n := 0) o2 ox2
    have eA : (G14 ++ [Ob.lst [x.D, x2.D, d4]])[G14.length]? = some (.lst [x.D, x2.D, d4]) := at_len
    have mE15 : Mod [p] G3 (G14 ++ [Ob.lst [x.D, x2.D, d4]]) := mE12.trans (m13.trans (m14.trans Mod.app))
    have q15 := q14.mv (S := []) (Mod.app (g := [Ob.lst [x.D, x2.D, d4]])) (by simp)
    have t4' : Th (G14 ++ [Ob.lst [x.D, x2.D, d4]]) [p] 5 60000 d4 := (t4.mv (S := [p]) Mod.app).up (by omega) (by omega)
    have hp14 := q14.lt
    generalize G14 ++ [Ob.lst [x.D, x2.D, d4]] = G15 at eA mE15 q15 t4' ⊢
    generalize G14.length = qA at eA hp14 ⊢
    subst hB
    refine seqC fun B hB => ?_
    walk_at "wm"
    refine spoilt_ok pS h600 2 24 1 4 4000 _ _ _ _ _ (by omega) (by omega) (by omega) (hSp q15) q15 (by omega) (by omega) (th_mm o ox) (sm_mm o ox) fun G16 d5 t5 m16 q16 => ?_
    refine spoilt_ok pS h600 2 24 1 4 4000 _ _ _ _ _ (by omega) (by omega) (by omega) (hSp q16) q16 (by omega) (by omega) (th_mm o ox) (sm_mm o ox) fun G17 d6 t6 m17 q17 => ?_
    refine ⟨u_sz2, ?_⟩
    have eA7 := (m16.trans m17).at eA (by simp; omega)
    have mC : Mod [] G17 (G17 ++ [Ob.lst [d5, d6]]) := Mod.app
    refine ⟨_, _, mC.at eA7 (by simp), at_len, by rw [sizeLine_eq]; simp, ?_⟩
    have eC : (G17 ++ [Ob.lst [d5, d6]] ++ [Ob.lst ([x.D, x2.D, d4] ++ [d5, d6])])[(G17 ++ [Ob.lst [d5, d6]]).length]? = some (.lst ([x.D, x2.D, d4] ++ [d5, d6])) := at_len
    have mD : Mod [] G17 (G17 ++ [Ob.lst [d5, d6]] ++ [Ob.lst ([x.D, x2.D, d4] ++ [d5, d6])]) := mC.trans Mod.app
    have mE18 := mE15.trans (m16.trans (m17.trans mD.pure))
    have q18 := q17.mv mD (by simp)
    have tZ : ∀ y ∈ [x.D, x2.D, d4] ++ [d5, d6], Th (G17 ++ [Ob.lst [d5, d6]] ++ [Ob.lst ([x.D, x2.D, d4] ++ [d5, d6])]) [p] 5 60000 y := fun y hy => by
      simp only [List.cons_append, List.nil_append, List.mem_cons, List.not_mem_nil, or_false] at hy
      rcases hy with rfl | rfl | rfl | rfl | rfl
      · exact (tx _).up (by omega) (by omega)
      · exact (tx2 _).up (by omega) (by omega)
      · exact t4'.mv (m16.trans (m17.trans mD.pure))
      · exact ((t5.mv m17).mv (mD.pure (S' := [p]))).up (by omega) (by omega)
      · exact (t6.mv (mD.pure (S' := [p]))).up (by omega) (by omega)
    have hlz : ([x.D, x2.D, d4] ++ [d5, d6] : List Dt).length = 5 := rfl
    have hpC : p < (G17 ++ [Ob.lst [d5, d6]]).length := by have := q17.lt; simp; omega
    generalize [x.D, x2.D, d4] ++ [d5, d6] = zs at eC mE18 q18 tZ hlz ⊢
    generalize G17 ++ [Ob.lst [d5, d6]] ++ [Ob.lst zs] = G18 at eC mE18 q18 tZ ⊢
    generalize (G17 ++ [Ob.lst [d5, d6]]).length = qC at eC hpC ⊢
    subst hB
    refine seqC fun B hB => ?_
    walk_at "wm"
    obtain ⟨cs, hcs⟩ : ∃ cs, [Dt.tup [], Dt.tup [Dt.non, Dt.non, Dt.int 0], Dt.tup [Dt.int 0, Dt.int 0, Dt.int 0, Dt.int 0], Dt.ref G18.length] = cs := ⟨_, rfl⟩
    rw [hcs]
    have mX2 : Mod [] G18 (G18 ++ [Ob.lst x.L] ++ [Ob.lst cs]) := Mod.app.trans Mod.app
    refine ⟨u_sz0, u_sz3, u_sz4, u_sz4, _, _, mX2.at eC (by simp), at_len, by rw [sizeLine_eq, hlz, ← hcs]; simp, _, w_lst at_len, ?_⟩
    have hp18 := q18.lt
    have eR2 : (G18 ++ [Ob.lst x.L] ++ [Ob.lst cs] ++ [Ob.lst (zs ++ cs)])[G18.length]? = some (.lst x.L) := by simp
    have eY2 : (G18 ++ [Ob.lst x.L] ++ [Ob.lst cs] ++ [Ob.lst (zs ++ cs)])[(G18 ++ [Ob.lst x.L] ++ [Ob.lst cs]).length]? = some (.lst (zs ++ cs)) := at_len
    have mY2 : Mod [] G18 (G18 ++ [Ob.lst x.L] ++ [Ob.lst cs] ++ [Ob.lst (zs ++ cs)]) := mX2.trans Mod.app
    generalize G18 ++ [Ob.lst x.L] ++ [Ob.lst cs] ++ [Ob.lst (zs ++ cs)] = G19 at eR2 eY2 mY2 ⊢
    have tY2 : ∀ y ∈ zs ++ cs, Th G19 [p] 5 60000 y := fun y hy => by
      rcases List.mem_append.mp hy with z | z
      · exact (tZ y z).mv (mY2.pure (S' := [p]))
      · rw [← hcs] at z
        simp only [List.mem_cons, List.not_mem_nil, or_false] at z
        rcases z with rfl | rfl | rfl | rfl
        · exact ((ThS.nil (n := 0) (L := 0)).tup).up (by omega) (by omega)
        · exact ((ThS.all (n := 0) (m := 3) (L := 601) (fun d hd => by
            simp only [List.mem_cons, List.not_mem_nil, or_false] at hd
            rcases hd with rfl | rfl | rfl
            · exact th_non (by omega)
            · exact th_non (by omega)
            · exact th_small (by omega) (by omega)) (Nat.le_refl _)).tup).up (by omega) (by omega)
        · exact ((ThS.all (n := 0) (m := 4) (L := 601) (fun d hd => by
            simp only [List.mem_cons, List.not_mem_nil, or_false] at hd
            rcases hd with rfl | rfl | rfl | rfl <;> exact th_small (by omega) (by omega)) (Nat.le_refl _)).tup).up (by omega) (by omega)
        · exact ((tx G19).row.lst eR2 (by simp; omega)).up (by omega) (by omega)
    refine loop43_2 (k := 19) (p := p) o eY2 tY2 fun G20 e7 m20 => ?_
    have mE20 : Mod [p] G3 G20 := mE18.trans (mY2.trans m20).pure
    show B.s _ _ _
    subst hB
    walk_at "wm"
    refine first_memory_ok o fun G21 m21 => ?_
    have tf : ∀ G, Th G [p] 1 4000 (fmR r).D := fun G => th_mm (n := 0) o (fm_ok o)
    refine repr_thg (tf G21).1 (by omega) (Nat.le_trans (tf G21).2 (by omega)) ?_
    refine law_first_ok fun G22 qf hqf m22 e22 => ⟨_, w_lst e22, ?_⟩
    refine repr_thg (tf G22).1 (by omega) (Nat.le_trans (tf G22).2 (by omega)) ?_
    rw [(thg_mv (m22.pure (S' := [p])) (tf G21).1).2.1]
    walk_at "wm"
    rw [str_beq]
    walk_at "wm"
    refine first_memory_ok o fun G23 m23' => ?_
    refine is_memory_ok o (fm_ok o) fun G24 m24 => ⟨true, rfl, ?_⟩
    walk_at "wm"
    rw [hK]
    have mE : Mod [p] G3 G24 := mE20.trans (m21.trans (m22.trans (m23'.trans m24))).pure
    exact ⟨m.trans ⟨Nat.le_trans m23.len mE.len, fun j hj hn => (mE.get j (Nat.lt_of_lt_of_le hj m23.len) (by simp; omega)).trans (m23.get j hj hn)⟩, ⟨i + 1, by omega, rfl⟩, _, _, _, _, _, _, _, rfl⟩
  · rintro env G ⟨m, _, a1, a2, a3, a4, a5, a6, a7, rfl⟩
    refine ⟨stands_nil, ?_⟩
    show B.s _ _ _
    subst hB
    walk_at "wm"
    refine ⟨u_sz1, ?_⟩
    refine is_rule_ok (r := .non) trivial fun G2 m2 => ⟨true, rfl, ?_⟩
    rw [if_pos rfl]
    refine ⟨u_sz1, first_memory_ok (r := .non) trivial fun G3 m3 => ⟨u_sz0, ?_⟩⟩
    exact eq_empty rfl

end Wm

namespace Wm.Hd
open PySem PySem.Spec PyProof.Rows L2
theorem tab_ok : tabB tab es = true := by decide +kernel
theorem es_ok : es.all (entB tab lib PySem.Challenge.pw_waitmark_k22_rules_and_memories_known) = true := by decide +kernel
theorem binds {K : PySem.W.Frag} : ∀ e ∈ es, ∀ fd, FunD K e.x e.qn (defArgs (e.st PySem.Challenge.pw_waitmark_k22_rules_and_memories_known)) (defBody (e.st PySem.Challenge.pw_waitmark_k22_rules_and_memories_known)) (defScope (e.st PySem.Challenge.pw_waitmark_k22_rules_and_memories_known)) [] ((e.dd PySem.Challenge.pw_waitmark_k22_rules_and_memories_known).kws K) (He.fAd K e.fp) fd → ∀ n ks, tab.shp.contains (e.f, n, ks) = true → KBd K fd e.ps n ks (kwF kwd e.f) := by
  intro e he fd F n ks hs
  rcases List.mem_append.mp he with he | he
  · exact bind_of (List.all_eq_true.mp (show esP.all (bindB tab kwd PySem.Challenge.pw_waitmark_k22_rules_and_memories_known) = true by decide +kernel) e he) F hs
  · cases he
abbrev fn : List He.DefD := es.map (Ent.dd PySem.Challenge.pw_waitmark_k22_rules_and_memories_known)
noncomputable abbrev hk : PySem.W.Hook := hookW tab fn
noncomputable def ob (s : PySem.W.SharedT) : AlW := obsW tab fn (HandSHeadRun.getT s)
theorem ob_eq (s : PySem.W.SharedT) : ob s = hk.obs s.abs := obsW_eq s
theorem fn_eq : fn = ([] ++ es0.map (Ent.dd PySem.Challenge.pw_waitmark_k22_rules_and_memories_known)) := by
  simp only [fn, es, esP, esK, List.map_append, List.nil_append, List.map_nil, List.append_nil]
theorem run (w : World) : HandSHeadRun.RunEq R (PySem.W.view R.prog [44]) hk ob 30000 loose w := by
  refine run_of (run_1 w) (run_2 w) (fun os s e => ?_) (run_3 w)
  rw [fn_eq]
  exact (obs_app (chunk_of (run_4 w os) e) (chunk_of (run_es0 w os) e))
end Wm.Hd
open PySem PySem.W PySem.Calls PyProof.Rows
theorem PySem.Challenge.cw_waitmark_k22_rules_and_memories_known_holds : PySem.Challenge.rw_waitmark_k22_rules_and_memories_known.Holds := by
  w_on; o_law
  refine HandSHeadRun.head_any (r := OpenLaw.row PySem.Challenge.rw_waitmark_k22_rules_and_memories_known) (q := view (OpenLaw.row PySem.Challenge.rw_waitmark_k22_rules_and_memories_known).prog [44]) (H := Wm.Hd.hk) (ob := Wm.Hd.ob) (M := 30000) (loose := Wm.Hd.loose) (d := HandSHeadRun.topDef (OpenLaw.row PySem.Challenge.rw_waitmark_k22_rules_and_memories_known).prog 44) (kwd := []) Wm.Hd.ob_eq
    (by kernel_rfl) (fun s => by kernel_rfl) Wm.Hd.run (by kernel_rfl) (by kernel_rfl) (by kernel_rfl) (by rfl) (by first | assumption | decide +kernel) (by decide +kernel) ⟨rfl, rfl, rfl, rfl, rfl, by decide +kernel⟩ ?hw ?hc
  case hw => w_witness2
  case hc =>
    refine Wm.walk_C (l := PySem.Challenge.rw_waitmark_k22_rules_and_memories_known) (n := 63) (k := 60) (x := "_law_script") rfl (by decide) (by kernel_rfl) ⟨rfl, by decide, by decide⟩ ?F
    intro w mg fa h Y G hmg0
    obtain ⟨K, KX, c, cx⟩ := Y
    have hmg : mg Wm.Hd.e_law.x = some (.ref fa) := by
      have e : (HandSHeadRun.topDef (OpenLaw.row PySem.Challenge.rw_waitmark_k22_rules_and_memories_known).prog 44).name = Wm.Hd.e_law.x := by kernel_rfl
      rw [← e]
      exact hmg0
    obtain ⟨fd, sp, h1, h2, h3⟩ := Wm.law_end (w := w) (k := 29) KX G c cx Wm.Hd.tab_ok Wm.Hd.es_ok Wm.Hd.binds (en := Wm.Hd.e_law) (by simp [Wm.Hd.es, Wm.Hd.esP, Wm.Hd.es0]) rfl rfl (by decide +kernel) hmg Wm.law_core
    exact ⟨K, fd, sp, KX, h1, h2, h3⟩

