import PyProof.Rows.All
import Wide.All
import OpenK.AllK
import Wide.FinOn
import KE.KStateDown
import HandS.ForMost
import HandS.Exc
import HandS.TryOnly
import HandS.TryMany
import HandS.ExcOwn
import HandS.Lambda
import HandS.ExcCtx
import HandS.Wide
import HandS.WideBits
import HandS.TupAny
import HandS.IsInst
import HandS.Flow
import PyProof.StrOps2
import HandS.Deep
import HandS.TupLe
import HandS.CallLocal
import HandS.Gcd
import HandS.Defaults
import HandS.ExcInit
import HandS.ExcSuper
import KE.KExcSuper
import HandS.HotCalls
import KE.GoesComp
import KE.GoesMore
import KE.KExcIs
import PyProof.RulesMatch
import HandS.ExcIs
import HandS.ExcField
import HandS.Head0
import HandS.Head1
import HandS.Head2
import HandS.Head3
import HandS.HeadHook1
import HandS.HeadHook2
import HandS.HeadHook4
import HandS.HeadWalk
import HandS.NestedK
import PySem.Challenge.RW_onepixel_k01_ratios_and_reckoning
set_option Elab.async false
set_option linter.all false
set_option maxRecDepth 100000
set_option maxHeartbeats 4000000
namespace Px
open PySem PySem.Spec PyProof.Rows L2 LamX He
/-! ## the head: what stands behind the top -/
abbrev IniW : Type := Option (Str × Str × Arguments × FuncBody × Scope × Addr × List Str × Addr)
def iniW (K : PySem.W.Frag) (p : Str × Option Str) : IniW := match K.lookup (fAd K p) with
  | some ⟨_, _, .func fd, _⟩ => some (fd.name, fd.qualname, fd.params, fd.body, fd.scope, fd.globals, fd.closure.map (·.1), fd.builtins)
  | _ => none
/-- an __init__ of a class: its class, qualified name, parameters, body, scope -/
structure IniD where
  cls : Str
  qual : Str
  params : Arguments
  body : List Stmt
  scope : Scope
def IniD.val (d : IniD) : IniW := some ("__init__", d.qual, d.params, .stmts d.body, d.scope, mainGlobals, ["__class__"], builtinsNs)
structure SaysP (fa : List Fa) (fn : List DefD) (tf : List Defn) (ins : List IniD) (ex : PySem.W.Frag → Bool) (h : Heap) (K : PySem.W.Frag) : Prop where
  d : SaysD fa fn K
  more : ex K = true
  hd : ∀ p ∈ tf, PySem.W.codeHdIn K (cT K p).1 (cT K p).2 = true
  out : ∀ p ∈ tf, K.lookup (cT K p).2 = none
  empty : ∀ p ∈ tf, h.get? (cT K p).2 = some { cls := .none, data := .fields #[] }
  ini : ins.map (fun i => iniW K (i.cls, some "__init__")) = ins.map IniD.val
abbrev AlP : Type := (AlD × Bool) × List IniW
/-- what the module's names stand for -/
def as1 (g : Addr → Option Obj) : List Addr := match g mainGlobals with
  | some ⟨_, _, .dict es _, _⟩ => es.toList.flatMap fun e => refV e.val
  | _ => []
/-- a function's code, defaults, cells -/
def asF (g : Addr → Option Obj) (a : Addr) : List Addr := match g a with
  | some ⟨_, _, .func fd, _⟩ => refV fd.code ++ refV fd.defaults ++ fd.closure.map (·.2)
  | _ => []
/-- the names of the classes whose __init__ is asked for -/
def asC (g : Addr → Option Obj) (cs : List Str) (a : Addr) : List Addr := match g a with
  | some ⟨_, _, .cls cd, _⟩ => if cs.contains cd.name then cd.ns :: (match g cd.ns with
    | some ⟨_, _, .dict es _, _⟩ => es.toList.flatMap fun e => refV e.val ++ (match e.val with
      | .ref f => asF g f
      | _ => [])
    | _ => []) else []
  | _ => []
def kP (g : Addr → Option Obj) (cs : List Str) : PySem.W.Frag := frT g (mainGlobals :: cStatics :: (as1 g ++ (as1 g).flatMap (fun a => asF g a) ++ (as1 g).flatMap (fun a => asC g cs a)))
def obsK (fa : List Fa) (fn : List DefD) (tf : List Defn) (ins : List IniD) (ex : PySem.W.Frag → Bool) (g : Addr → Option Obj) (K : PySem.W.Frag) : AlP := ((obsD fa fn K, ex K && tabsB g tf K), ins.map fun i => iniW K (i.cls, some "__init__"))
def obsP (n : List Str) (fa : List Fa) (fn : List DefD) (tf : List Defn) (ins : List IniD) (ex : PySem.W.Frag → Bool) (g : Addr → Option Obj) : AlP := obsK fa fn tf ins ex g (kP g n)
def valP (fn : List DefD) (ins : List IniD) : AlP := ((valD fn, true), ins.map IniD.val)
theorem saysP_of {n : List Str} {fa : List Fa} {fn : List DefD} {tf : List Defn} {ins : List IniD} {ex : PySem.W.Frag → Bool} {h : Heap} (e : obsP n fa fn tf ins ex h.get? = valP fn ins) : SaysP fa fn tf ins ex h (kP h.get? n) := by
  have e1 : obsD fa fn (kP h.get? n) = valD fn := congrArg (fun z : AlP => z.1.1) e
  have e2 : (ex (kP h.get? n) && tabsB h.get? tf (kP h.get? n)) = true := congrArg (fun z : AlP => z.1.2) e
  have e3 : ins.map (fun i => iniW (kP h.get? n) (i.cls, some "__init__")) = ins.map IniD.val := congrArg (fun z : AlP => z.2) e
  obtain ⟨h1, h2⟩ := ba e2
  have key : ∀ p ∈ tf, PySem.W.codeHdIn (kP h.get? n) (cT (kP h.get? n) p).1 (cT (kP h.get? n) p).2 = true ∧ ∃ o, h.get? (cT (kP h.get? n) p).2 = some o ∧ emptyTab o = true := fun p hp => by
    obtain ⟨h3, h4⟩ := ba (List.all_eq_true.mp h2 p hp)
    refine ⟨h3, ?_⟩
    cases q : h.get? (cT (kP h.get? n) p).2 with
    | none => rw [q] at h4; cases h4
    | some o => rw [q] at h4; exact ⟨o, rfl, h4⟩
  exact ⟨e1, h1, fun p hp => (key p hp).1, fun p hp => by
    obtain ⟨_, o, q, z⟩ := key p hp
    exact frT_none q z, fun p hp => by
    obtain ⟨_, o, q, z⟩ := key p hp
    rw [q, emptyTab_eq z], e3⟩
def hookP (n : List Str) (fa : List Fa) (fn : List DefD) (tf : List Defn) (ins : List IniD) (ex : PySem.W.Frag → Bool) : PySem.W.Hook where
  α := AlP
  obs := fun s => obsP n fa fn tf ins ex s.heap.get?
  val := fun _ => valP fn ins
  says := fun _ h => ∃ K : PySem.W.Frag, K.In h ∧ SaysP fa fn tf ins ex h K
  of := fun _ _ e => ⟨_, frT_in, saysP_of e⟩
  keeps := fun _ _ _ ⟨K, hK, c⟩ k => ⟨K, PySem.W.Frag.In.keeps hK k, ⟨c.d, c.more, c.hd, c.out, fun p hp => k _ _ (c.empty p hp), c.ini⟩⟩
theorem obsP_eq {n : List Str} {fa : List Fa} {fn : List DefD} {tf : List Defn} {ins : List IniD} {ex : PySem.W.Frag → Bool} {g : Addr → Option Obj} {s : Shared} (h : ∀ a, g a = s.heap.get? a) : obsP n fa fn tf ins ex g = (hookP n fa fn tf ins ex).obs s := by
  have e : g = s.heap.get? := funext h
  rw [e] <;> rfl

/-! ## the exception classes, told by the written part -/
def oexB (K : PySem.W.Frag) (C : Addr) : Bool := (match K.lookup C with
  | some ⟨.type "type", _, .cls cd, sl⟩ => (match cd.mro, sl.toList with
    | .ref C' :: bm, [_, _, _, _, some (.builtin n), _] => C' == C && n == "ValueError.__new__" && !cd.hasDel && cd.hasDict && PySem.HandSPX.refsVE bm
    | _, _ => false)
  | _ => false) && decide (PySem.W.findIn K (.ref C) "__setattr__" = some (some (.builtin "object.__setattr__"))) && decide (PySem.W.subIn K (.ref C) (.type "BaseException") = some true) && decide (PySem.W.typeIn K (.ref C) = some (.type "type")) && PySem.W.keepIn K (.ref C)
def dflB1 (K : PySem.W.Frag) (dV : Value) (nd : Nat) : Bool := match dV with
  | .none => decide (nd = 0)
  | .ref T => (match K.lookup T with
    | some ⟨_, _, .seq its _, _⟩ => decide (its.size = nd) && decide (nd ≠ 0)
    | _ => false)
  | _ => false
def DflN (K : PySem.W.Frag) (dV : Value) (nd : Nat) : Prop := (nd = 0 ∧ dV = .none) ∨ (nd ≠ 0 ∧ ∃ T o its n, dV = .ref T ∧ K.lookup T = some o ∧ o.data = .seq its n ∧ its.size = nd)
def iniB (P : Program) (K : PySem.W.Frag) (D f : Addr) (qual : Str) (nd : Nat) : Bool := (match K.lookup f with
  | some ⟨_, _, .func fd, _⟩ => dflB1 K fd.defaults nd && (match fd.closure, fd.code with
    | [(_, cc)], .ref cda => PySem.W.codeIn K (.ref cda) qual && (match K.lookup cda with
      | some ⟨_, _, .fields vs, _⟩ => (match (vs[2]? : Option Value) with
        | some (.str file _) => (P.main.file : Str) == file
        | _ => false)
      | _ => false) && (match K.lookup cc with
      | some ⟨_, _, .cell (some (.ref D')), _⟩ => D' == D
      | _ => false)
    | _, _ => false)
  | _ => false) && (PySem.W.clsIn K D).isSome && PySem.W.fnIn K f && decide (PySem.W.typeIn K (.ref f) = some (.type "function"))
def topB (P : Program) : Bool := !(P.main.scope.names.lookup ("super" : Str)).isSome
/-- the class called c, at C; R: Refused -/
def excB (P : Program) (K : PySem.W.Frag) (ns : List Str) (c : Str) (qual : Str) : Bool :=
  let C := ga K c
  let R := ga K "Refused"
  let f := ma K C "__init__"
  let fR := ma K R "__init__"
  He.eqO (PySem.W.nsIn K mainGlobals c) (some (some (.ref C))) && oexB K C && He.eqO (PySem.W.findIn K (.ref C) "__init__") (some (some (.ref f))) && iniB P K C f qual 0 &&
  He.eqO (PySem.W.findIn K (.ref C) "what") (some none) && He.eqO (PySem.W.findIn K (.ref C) "word") (some none) && decide (PySem.W.mroIn K C (.ref C) = some true) && decide (PySem.W.mroIn K C (.ref R) = some true) &&
  He.eqO (PySem.W.ks_superIn K C C "__init__") (some (some (.ref fR))) && He.eqO (PySem.W.ks_superIn K C R "__init__") (some (some (.builtin "ValueError.__init__"))) && decide (PySem.W.subIn K (.ref C) (.type "ValueError") = some true) &&
  xfB K C && He.eqO (PySem.W.findIn K (.ref C) "__class__") (some (some (.builtin "object.__class__"))) && He.eqO (PySem.W.specialIn K (.builtin "object.__class__") "__get__") (some (some (.builtin "getset_descriptor.__get__"))) &&
  decide (PySem.W.takesIn K (.builtin "object.__class__") = some true) && decide (PySem.W.mroIn K C (.type "object") = some true) && decide (PySem.W.exmOne K (.ref C) (.ref R) = some true) &&
  (ns.all fun n => !(n == ("__debug__" : Str)) && He.eqO (PySem.W.nsIn K mainGlobals n) (some (some (.ref (ga K n)))) && decide (PySem.W.kitOne K (.ref C) (.ref (ga K n)) = some (decide (n = c))))
def refB (P : Program) (K : PySem.W.Frag) (qual : Str) : Bool :=
  let R := ga K "Refused"
  let fR := ma K R "__init__"
  iniB P K R fR qual 1 && He.eqO (PySem.W.nsIn K mainGlobals "Refused") (some (some (.ref R))) && He.eqO (PySem.W.nsIn K mainGlobals "super") (some none) && He.eqO (PySem.W.nsIn K cStatics "thirdparty.any") (some none)

end Px
set_option Elab.async false
set_option linter.all false
set_option maxRecDepth 100000
set_option maxHeartbeats 0
namespace Kx
open PySem PySem.Spec PyProof.Rows L2 Px
def top (i : Nat) : Stmt := PySem.Challenge.pw_onepixel_k01_ratios_and_reckoning.main.body.getD i (.Pass ⟨0, 0, 0, 0⟩)
def clsInit : Stmt → Stmt
  | .ClassDef _ _ _ body _ _ _ _ _ _ _ => body.getD 0 (.Pass ⟨0, 0, 0, 0⟩)
  | s => s
abbrev Rw : PySem.W.OpenRow := PySem.W.OpenLaw.row PySem.Challenge.rw_onepixel_k01_ratios_and_reckoning
abbrev qv : Program := PySem.W.view Rw.prog [0, 92]
def names0 : List PySem.Str := ["__name__", "Refused", "BadMany", "BadRatio", "ByNought", "BadLayout", "BadEars", "BadArcs", "BadArc", "BadLine", "BadGrid", "BadOrder", "BadNode", "BadFold", "BadPlaces", "BadShown", "BadRules", "BadHow", "BadPrices", "BadLot"]
def names1 : List PySem.Str := ["BadBounds", "BadMerges", "BadVectors", "BadGroup", "BadLast", "BadBox", "BadEdit", "BadEdits", "BadStory", "BadText", "LastLine", "Same", "Already", "NoEar", "NoArc", "Kept", "Falls", "TooBig", "Lossless", "NothingToUndo"]
def names2 : List PySem.Str := ["NothingToRedo", "WrongLine", "TooMany", "is_whole", "is_ratio", "lowest", "add_inner", "sub_inner", "mul_inner", "div_inner", "less_inner", "floor_inner", "ceil_inner", "asked_ratio", "ratio", "plus", "minus", "times", "over", "compare"]
def names3 : List PySem.Str := ["whole_below", "whole_above", "_law_is_whole", "_law_same", "_law_classes", "_law_heard", "_law_tells", "_law_refuses", "_law_pool", "_law_take", "_law_one", "_law_long_number", "_law_common", "_law_lowest", "_law_plus", "_law_less", "_law_times", "_law_over", "_law_cmp", "_law_floor_of"]
def names4 : List PySem.Str := ["_law_ceil_of", "_law_any_whole", "_law_any_ratio", "_law_near_ratio", "_law_no_ratio", "_law_pair_right", "_law_made_right", "_law_refused_right", "_law_is_denied"]
def names : List PySem.Str := names0 ++ names1 ++ names2 ++ names3 ++ names4
def d_is_whole : He.DefD := ⟨("is_whole", none), "is_whole", "is_whole", defArgs (top 44), defBody (top 44), defScope (top 44), [], []⟩
def d_is_ratio : He.DefD := ⟨("is_ratio", none), "is_ratio", "is_ratio", defArgs (top 46), defBody (top 46), defScope (top 46), [], []⟩
def d_lowest : He.DefD := ⟨("lowest", none), "lowest", "lowest", defArgs (top 47), defBody (top 47), defScope (top 47), [], []⟩
def d_add_inner : He.DefD := ⟨("add_inner", none), "add_inner", "add_inner", defArgs (top 48), defBody (top 48), defScope (top 48), [], []⟩
def d_sub_inner : He.DefD := ⟨("sub_inner", none), "sub_inner", "sub_inner", defArgs (top 49), defBody (top 49), defScope (top 49), [], []⟩
def d_mul_inner : He.DefD := ⟨("mul_inner", none), "mul_inner", "mul_inner", defArgs (top 50), defBody (top 50), defScope (top 50), [], []⟩
def d_div_inner : He.DefD := ⟨("div_inner", none), "div_inner", "div_inner", defArgs (top 51), defBody (top 51), defScope (top 51), [], []⟩
def d_less_inner : He.DefD := ⟨("less_inner", none), "less_inner", "less_inner", defArgs (top 52), defBody (top 52), defScope (top 52), [], []⟩
def d_floor_inner : He.DefD := ⟨("floor_inner", none), "floor_inner", "floor_inner", defArgs (top 53), defBody (top 53), defScope (top 53), [], []⟩
def d_ceil_inner : He.DefD := ⟨("ceil_inner", none), "ceil_inner", "ceil_inner", defArgs (top 54), defBody (top 54), defScope (top 54), [], []⟩
def d_asked_ratio : He.DefD := ⟨("asked_ratio", none), "asked_ratio", "asked_ratio", defArgs (top 55), defBody (top 55), defScope (top 55), [], []⟩
def d_ratio : He.DefD := ⟨("ratio", none), "ratio", "ratio", defArgs (top 56), defBody (top 56), defScope (top 56), [], []⟩
def d_plus : He.DefD := ⟨("plus", none), "plus", "plus", defArgs (top 57), defBody (top 57), defScope (top 57), [], []⟩
def d_minus : He.DefD := ⟨("minus", none), "minus", "minus", defArgs (top 58), defBody (top 58), defScope (top 58), [], []⟩
def d_times : He.DefD := ⟨("times", none), "times", "times", defArgs (top 59), defBody (top 59), defScope (top 59), [], []⟩
def d_over : He.DefD := ⟨("over", none), "over", "over", defArgs (top 60), defBody (top 60), defScope (top 60), [], []⟩
def d_compare : He.DefD := ⟨("compare", none), "compare", "compare", defArgs (top 61), defBody (top 61), defScope (top 61), [], []⟩
def d_whole_below : He.DefD := ⟨("whole_below", none), "whole_below", "whole_below", defArgs (top 62), defBody (top 62), defScope (top 62), [], []⟩
def d_whole_above : He.DefD := ⟨("whole_above", none), "whole_above", "whole_above", defArgs (top 63), defBody (top 63), defScope (top 63), [], []⟩
def d__law_is_whole : He.DefD := ⟨("_law_is_whole", none), "_law_is_whole", "_law_is_whole", defArgs (top 65), defBody (top 65), defScope (top 65), [], []⟩
def d__law_same : He.DefD := ⟨("_law_same", none), "_law_same", "_law_same", defArgs (top 66), defBody (top 66), defScope (top 66), [], []⟩
def d__law_classes : He.DefD := ⟨("_law_classes", none), "_law_classes", "_law_classes", defArgs (top 67), defBody (top 67), defScope (top 67), [], []⟩
def d__law_heard : He.DefD := ⟨("_law_heard", none), "_law_heard", "_law_heard", defArgs (top 68), defBody (top 68), defScope (top 68), [], []⟩
def d__law_tells : He.DefD := ⟨("_law_tells", none), "_law_tells", "_law_tells", defArgs (top 69), defBody (top 69), defScope (top 69), [], []⟩
def d__law_refuses : He.DefD := ⟨("_law_refuses", none), "_law_refuses", "_law_refuses", defArgs (top 70), defBody (top 70), defScope (top 70), [], []⟩
def d__law_pool : He.DefD := ⟨("_law_pool", none), "_law_pool", "_law_pool", defArgs (top 71), defBody (top 71), defScope (top 71), [], []⟩
def d__law_take : He.DefD := ⟨("_law_take", none), "_law_take", "_law_take", defArgs (top 72), defBody (top 72), defScope (top 72), [], []⟩
def d__law_one : He.DefD := ⟨("_law_one", none), "_law_one", "_law_one", defArgs (top 73), defBody (top 73), defScope (top 73), [], []⟩
def d__law_long_number : He.DefD := ⟨("_law_long_number", none), "_law_long_number", "_law_long_number", defArgs (top 74), defBody (top 74), defScope (top 74), [], []⟩
def d__law_common : He.DefD := ⟨("_law_common", none), "_law_common", "_law_common", defArgs (top 75), defBody (top 75), defScope (top 75), [], []⟩
def d__law_lowest : He.DefD := ⟨("_law_lowest", none), "_law_lowest", "_law_lowest", defArgs (top 76), defBody (top 76), defScope (top 76), [], []⟩
def d__law_plus : He.DefD := ⟨("_law_plus", none), "_law_plus", "_law_plus", defArgs (top 77), defBody (top 77), defScope (top 77), [], []⟩
def d__law_less : He.DefD := ⟨("_law_less", none), "_law_less", "_law_less", defArgs (top 78), defBody (top 78), defScope (top 78), [], []⟩
def d__law_times : He.DefD := ⟨("_law_times", none), "_law_times", "_law_times", defArgs (top 79), defBody (top 79), defScope (top 79), [], []⟩
def d__law_over : He.DefD := ⟨("_law_over", none), "_law_over", "_law_over", defArgs (top 80), defBody (top 80), defScope (top 80), [], []⟩
def d__law_cmp : He.DefD := ⟨("_law_cmp", none), "_law_cmp", "_law_cmp", defArgs (top 81), defBody (top 81), defScope (top 81), [], []⟩
def d__law_floor_of : He.DefD := ⟨("_law_floor_of", none), "_law_floor_of", "_law_floor_of", defArgs (top 82), defBody (top 82), defScope (top 82), [], []⟩
def d__law_ceil_of : He.DefD := ⟨("_law_ceil_of", none), "_law_ceil_of", "_law_ceil_of", defArgs (top 83), defBody (top 83), defScope (top 83), [], []⟩
def d__law_any_whole : He.DefD := ⟨("_law_any_whole", none), "_law_any_whole", "_law_any_whole", defArgs (top 84), defBody (top 84), defScope (top 84), [], []⟩
def d__law_any_ratio : He.DefD := ⟨("_law_any_ratio", none), "_law_any_ratio", "_law_any_ratio", defArgs (top 85), defBody (top 85), defScope (top 85), [], []⟩
def d__law_near_ratio : He.DefD := ⟨("_law_near_ratio", none), "_law_near_ratio", "_law_near_ratio", defArgs (top 86), defBody (top 86), defScope (top 86), [], []⟩
def d__law_no_ratio : He.DefD := ⟨("_law_no_ratio", none), "_law_no_ratio", "_law_no_ratio", defArgs (top 87), defBody (top 87), defScope (top 87), [], []⟩
def d__law_pair_right : He.DefD := ⟨("_law_pair_right", none), "_law_pair_right", "_law_pair_right", defArgs (top 88), defBody (top 88), defScope (top 88), [], []⟩
def d__law_made_right : He.DefD := ⟨("_law_made_right", none), "_law_made_right", "_law_made_right", defArgs (top 89), defBody (top 89), defScope (top 89), [], []⟩
def d__law_refused_right : He.DefD := ⟨("_law_refused_right", none), "_law_refused_right", "_law_refused_right", defArgs (top 90), defBody (top 90), defScope (top 90), [], []⟩
def d__law_is_denied : He.DefD := ⟨("_law_is_denied", none), "_law_is_denied", "_law_is_denied", defArgs (top 91), defBody (top 91), defScope (top 91), [], []⟩
def d_law : He.DefD := ⟨("law", none), "law", "law", defArgs (top 92), defBody (top 92), defScope (top 92), [], []⟩
def fa0 : List He.Fa := [.glo "is_whole", .glo "is_ratio", .glo "lowest", .glo "add_inner", .glo "sub_inner", .glo "mul_inner", .glo "div_inner", .glo "less_inner", .glo "floor_inner", .glo "ceil_inner", .glo "asked_ratio", .glo "ratio", .glo "plus", .glo "minus", .glo "times", .glo "over", .glo "compare", .glo "whole_below", .glo "whole_above", .glo "_law_is_whole"]
def fa1 : List He.Fa := [.glo "_law_same", .glo "_law_classes", .glo "_law_heard", .glo "_law_tells", .glo "_law_refuses", .glo "_law_pool", .glo "_law_take", .glo "_law_one", .glo "_law_long_number", .glo "_law_common", .glo "_law_lowest", .glo "_law_plus", .glo "_law_less", .glo "_law_times", .glo "_law_over", .glo "_law_cmp", .glo "_law_floor_of", .glo "_law_ceil_of", .glo "_law_any_whole", .glo "_law_any_ratio"]
def fa2 : List He.Fa := [.glo "_law_near_ratio", .glo "_law_no_ratio", .glo "_law_pair_right", .glo "_law_made_right", .glo "_law_refused_right", .glo "_law_is_denied", .glo "law", .free "isinstance", .free "int", .free "bool", .free "tuple", .free "len", .free "str", .free "range", .free "list", .free "max", .free "abs"]
def fa : List He.Fa := fa0 ++ fa1 ++ fa2
def fn0 : List He.DefD := [d_is_whole, d_is_ratio, d_lowest, d_add_inner, d_sub_inner, d_mul_inner, d_div_inner, d_less_inner, d_floor_inner, d_ceil_inner, d_asked_ratio, d_ratio, d_plus, d_minus, d_times, d_over, d_compare, d_whole_below, d_whole_above, d__law_is_whole]
def fn1 : List He.DefD := [d__law_same, d__law_classes, d__law_heard, d__law_tells, d__law_refuses, d__law_pool, d__law_take, d__law_one, d__law_long_number, d__law_common, d__law_lowest, d__law_plus, d__law_less, d__law_times, d__law_over, d__law_cmp, d__law_floor_of, d__law_ceil_of, d__law_any_whole, d__law_any_ratio]
def fn2 : List He.DefD := [d__law_near_ratio, d__law_no_ratio, d__law_pair_right, d__law_made_right, d__law_refused_right, d__law_is_denied, d_law]
def fn : List He.DefD := fn0 ++ fn1 ++ fn2
def tf : List He.Defn := [("_law_pair_right", none), ("_law_made_right", none), ("_law_refused_right", none), ("_law_is_denied", none)]
def i_Refused : IniD := ⟨"Refused", "Refused.__init__", defArgs (clsInit (top 2)), defBody (clsInit (top 2)), defScope (clsInit (top 2))⟩
def i_BadRatio : IniD := ⟨"BadRatio", "BadRatio.__init__", defArgs (clsInit (top 4)), defBody (clsInit (top 4)), defScope (clsInit (top 4))⟩
def i_ByNought : IniD := ⟨"ByNought", "ByNought.__init__", defArgs (clsInit (top 5)), defBody (clsInit (top 5)), defScope (clsInit (top 5))⟩
def ins : List IniD := [i_Refused, i_BadRatio, i_ByNought]
def ns0 : List PySem.Str := ["BadMany", "BadRatio", "ByNought", "BadLayout", "BadEars", "BadArcs", "BadArc", "BadLine", "BadGrid", "BadOrder", "BadNode", "BadFold", "BadPlaces", "BadShown", "BadRules", "BadHow", "BadPrices", "BadLot", "BadBounds", "BadMerges"]
def ns1 : List PySem.Str := ["BadVectors", "BadGroup", "BadLast", "BadBox", "BadEdit", "BadEdits", "BadStory", "BadText", "LastLine", "Same", "Already", "NoEar", "NoArc", "Kept", "Falls", "TooBig", "Lossless", "NothingToUndo", "NothingToRedo", "WrongLine"]
def ns2 : List PySem.Str := ["TooMany"]
def ns : List PySem.Str := ns0 ++ ns1 ++ ns2
def ex (K : PySem.W.Frag) : Bool := excB PySem.Challenge.pw_onepixel_k01_ratios_and_reckoning K ns "BadRatio" "BadRatio.__init__" &&
  excB PySem.Challenge.pw_onepixel_k01_ratios_and_reckoning K ns "ByNought" "ByNought.__init__" &&
  refB PySem.Challenge.pw_onepixel_k01_ratios_and_reckoning K "Refused.__init__" &&
  (match PySem.W.nsIn K mainGlobals "gcd" with
    | some (some (.builtin b)) => decide (b = "math.gcd")
    | _ => false) &&
  decide ((tf.map fun p => (He.cT K p).2).Nodup) &&
  (tf.all fun p => !(mainGlobals == (He.cT K p).2))
def exT (_ : PySem.W.Frag) : Bool := true
theorem comb2 {r : PySem.W.OpenRow} {q : Program} {L : List Str} {fa : List He.Fa} {fn : List He.DefD} {tf : List He.Defn} {ins : List IniD} {ex : PySem.W.Frag → Bool} {M : Nat} {loose : List Str} {w : World}
    (h1 : HandSHeadRun.RunEqI r q (hookP L fa fn tf ins exT) (fun s => obsP L fa fn tf ins exT (HandSHeadRun.getT s)) M loose w) (h2 : HandSHeadRun.RunEqI r q (hookP L [] [] [] [] ex) (fun s => obsP L [] [] [] [] ex (HandSHeadRun.getT s)) M loose w) :
    HandSHeadRun.RunEqI r q (hookP L fa fn tf ins ex) (fun s => obsP L fa fn tf ins ex (HandSHeadRun.getT s)) M loose w := by
  unfold HandSHeadRun.RunEqI at h1 h2 ⊢
  obtain ⟨x, e, h1⟩ := Option.map_eq_some_iff.mp h1
  rw [e] at h2 ⊢
  have h2' := Option.some.inj h2
  have a := congrArg (fun z => z.1) h1
  have b := congrArg (fun z => z.2.1) h1
  have c := congrArg (fun z => z.2.2) h1
  have d := congrArg (fun z => z.2.2) h2'
  have c1 : obsP L fa fn tf ins exT (HandSHeadRun.getT x.2) = valP fn ins := c
  have d1 : obsP L [] [] [] [] ex (HandSHeadRun.getT x.2) = valP [] [] := d
  have d2 : (ex (kP (HandSHeadRun.getT x.2) L) && He.tabsB (HandSHeadRun.getT x.2) [] (kP (HandSHeadRun.getT x.2) L)) = true := congrArg (fun z : AlP => z.1.2) d1
  have d3 : ex (kP (HandSHeadRun.getT x.2) L) = exT (kP (HandSHeadRun.getT x.2) L) := (Bool.and_eq_true_iff.mp d2).1
  have key : obsP L fa fn tf ins ex (HandSHeadRun.getT x.2) = valP fn ins := by
    rw [← c1]
    unfold obsP obsK
    rw [d3]
  exact congrArg some (Prod.ext a (Prod.ext b key))
abbrev hk : PySem.W.Hook := hookP ["Refused", "BadRatio", "ByNought"] fa fn tf ins ex
def ob (s : PySem.W.SharedT) : AlP := obsP ["Refused", "BadRatio", "ByNought"] fa fn tf ins ex (HandSHeadRun.getT s)
theorem ob_eq (s : PySem.W.SharedT) : ob s = hk.obs s.abs := obsP_eq (HandSHeadRun.getT_eq s)
abbrev CL : List Str := ["Refused", "BadRatio", "ByNought"]
abbrev hk1 : PySem.W.Hook := hookP CL fa fn tf ins exT
def ob1 (s : PySem.W.SharedT) : AlP := obsP CL fa fn tf ins exT (HandSHeadRun.getT s)
theorem run1 (w : World) : HandSHeadRun.RunEqI Rw qv hk1 ob1 40000 names w := by
  unfold HandSHeadRun.RunEqI
  kernel_rfl
abbrev hk2 : PySem.W.Hook := hookP CL [] [] [] [] ex
def ob2 (s : PySem.W.SharedT) : AlP := obsP CL [] [] [] [] ex (HandSHeadRun.getT s)
theorem run2 (w : World) : HandSHeadRun.RunEqI Rw qv hk2 ob2 40000 names w := by
  unfold HandSHeadRun.RunEqI
  kernel_rfl
theorem run (w : World) : HandSHeadRun.RunEqI Rw qv hk ob 40000 names w := comb2 (run1 w) (run2 w)
end Kx
set_option Elab.async false
set_option linter.all false
set_option maxRecDepth 100000
set_option maxHeartbeats 4000000
namespace Px
open PySem PySem.Spec PyProof.Rows L2
abbrev St := L2.St

/-! ## values, objects, results -/
/-- a value: tuples by what they hold, lists (and what else may change) by a number -/
inductive PV where
  | non | bl (b : Bool) | int (i : Int) | str (x : Str) | tup (xs : List PV) | ref (n : Nat) | fn (x : Str)
/-- what stands at a number: a list, a list that is only read -/
inductive MO where
  | lst (xs : List PV) | frz (xs : List PV)
abbrev MH := List MO
inductive R (α : Type) where
  | ok (a : α) (mh : MH) | exc (c : Str) (w : PV) (mh : MH) | stk
def R.bind {α β : Type} (r : R α) (f : α → MH → R β) : R β := match r with
  | .ok a mh => f a mh
  | .exc c w mh => .exc c w mh
  | .stk => .stk
abbrev PSt := List (Option PV)
abbrev ES := PSt → MH → R PV
abbrev AS := PSt → MH → R (List PV)
inductive Fl where
  | nx | bk | ct | rt (v : PV)
inductive RS where
  | ok (f : Fl) (st : PSt) (mh : MH) | exc (c : Str) (w : PV) (st : PSt) (mh : MH) | stk
abbrev SS := PSt → MH → RS

/-! ## what stands for what -/
/-- what is the same through the whole law: the written part, the module's names, the tables of code objects -/
structure Glob where
  K : PySem.W.Frag
  mg : Str → Option Value
  T : List (Addr × Str)

mutual
inductive Rep (G : Glob) (ι : List Addr) (H : Hp) : V → PV → Prop
  | non : Rep G ι H .non .non
  | bl (b : Bool) : Rep G ι H (.bl b) (.bl b)
  | int (i : Int) : Rep G ι H (.int i) (.int i)
  | str (x : Str) : Rep G ι H (.str x) (.str x)
  | tup {a : Addr} {vs : List V} {xs : List PV} (h : SqT G.K H a vs) (r : Reps G ι H vs xs) : Rep G ι H (.ref a) (.tup xs)
  | ref {a : Addr} {n : Nat} (h : ι[n]? = some a) : Rep G ι H (.ref a) (.ref n)
  | fn {a : Addr} {x : Str} (h : G.mg x = some (.ref a)) : Rep G ι H (.ref a) (.fn x)
inductive Reps (G : Glob) (ι : List Addr) (H : Hp) : List V → List PV → Prop
  | nil : Reps G ι H [] []
  | cons {v : V} {x : PV} {vs : List V} {xs : List PV} (h : Rep G ι H v x) (r : Reps G ι H vs xs) : Reps G ι H (v :: vs) (x :: xs)
end

/-- the heap has grown: what is numbered keeps its number, tuples stand -/
structure Gr (ι : List Addr) (H : Hp) (ι' : List Addr) (H' : Hp) : Prop where
  pre : ∃ r, ι' = ι ++ r
  tup : ∀ a xs, H a = some (.tup xs) → H' a = some (.tup xs)
  frz : ∀ a o u, H a = some (.frz o u) → H' a = some (.frz o u)
  xt : ∀ a φ, H a = some (.ext φ) → H' a = some (.ext φ)
theorem Gr.refl (ι : List Addr) (H : Hp) : Gr ι H ι H := ⟨⟨[], by simp⟩, fun _ _ h => h, fun _ _ _ h => h, fun _ _ h => h⟩
theorem Gr.trans {ι ι1 ι2 : List Addr} {H H1 H2 : Hp} (a : Gr ι H ι1 H1) (b : Gr ι1 H1 ι2 H2) : Gr ι H ι2 H2 := by
  obtain ⟨r, e⟩ := a.pre
  obtain ⟨r', e'⟩ := b.pre
  exact ⟨⟨r ++ r', by rw [e', e, List.append_assoc]⟩, fun c xs h => b.tup c xs (a.tup c xs h), fun c o u h => b.frz c o u (a.frz c o u h), fun c φ h => b.xt c φ (a.xt c φ h)⟩
theorem Gr.ix {ι ι' : List Addr} {H H' : Hp} (g : Gr ι H ι' H') {n : Nat} {a : Addr} (h : ι[n]? = some a) : ι'[n]? = some a := by
  obtain ⟨r, e⟩ := g.pre
  rw [e, List.getElem?_append_left (List.getElem?_eq_some_iff.mp h).1]
  exact h
theorem Gr.sqT {K : PySem.W.Frag} {ι ι' : List Addr} {H H' : Hp} (g : Gr ι H ι' H') {a : Addr} {xs : List V} (h : SqT K H a xs) : SqT K H' a xs := by
  rcases h with (h | ⟨o, h⟩) | h
  · exact .inl (.inl (g.tup _ _ h))
  · exact .inl (.inr ⟨o, g.frz _ _ _ h⟩)
  · exact .inr h
mutual
theorem Rep.mono {G : Glob} {ι ι' : List Addr} {H H' : Hp} (g : Gr ι H ι' H') : ∀ {v : V} {x : PV}, Rep G ι H v x → Rep G ι' H' v x
  | _, _, .non => .non
  | _, _, .bl b => .bl b
  | _, _, .int i => .int i
  | _, _, .str x => .str x
  | _, _, .tup h r => .tup (g.sqT h) (Reps.mono g r)
  | _, _, .ref h => .ref (g.ix h)
  | _, _, .fn h => .fn h
theorem Reps.mono {G : Glob} {ι ι' : List Addr} {H H' : Hp} (g : Gr ι H ι' H') : ∀ {vs : List V} {xs : List PV}, Reps G ι H vs xs → Reps G ι' H' vs xs
  | _, _, .nil => .nil
  | _, _, .cons h r => .cons (Rep.mono g h) (Reps.mono g r)
end
theorem Reps.length {G : Glob} {ι : List Addr} {H : Hp} : ∀ {vs : List V} {xs : List PV}, Reps G ι H vs xs → vs.length = xs.length
  | _, _, .nil => rfl
  | _, _, .cons _ r => congrArg (· + 1) (Reps.length r)
theorem Reps.get {G : Glob} {ι : List Addr} {H : Hp} : ∀ {vs : List V} {xs : List PV} {i : Nat} {x : PV}, Reps G ι H vs xs → xs[i]? = some x → ∃ v, vs[i]? = some v ∧ Rep G ι H v x
  | _, _, i, _, .nil, e => by simp at e
  | _, _, 0, _, .cons h _, e => by simp at e; subst e; exact ⟨_, rfl, h⟩
  | _, _, i + 1, _, .cons _ r, e => by
    obtain ⟨v, h1, h2⟩ := Reps.get (i := i) r (by simpa using e)
    exact ⟨v, by simpa using h1, h2⟩
theorem Reps.get' {G : Glob} {ι : List Addr} {H : Hp} : ∀ {vs : List V} {xs : List PV} {i : Nat} {v : V}, Reps G ι H vs xs → vs[i]? = some v → ∃ x, xs[i]? = some x ∧ Rep G ι H v x
  | _, _, i, _, .nil, e => by simp at e
  | _, _, 0, _, .cons h _, e => by simp at e; subst e; exact ⟨_, rfl, h⟩
  | _, _, i + 1, _, .cons _ r, e => by
    obtain ⟨v, h1, h2⟩ := Reps.get' (i := i) r (by simpa using e)
    exact ⟨v, by simpa using h1, h2⟩
theorem Reps.append {G : Glob} {ι : List Addr} {H : Hp} : ∀ {vs ws : List V} {xs ys : List PV}, Reps G ι H vs xs → Reps G ι H ws ys → Reps G ι H (vs ++ ws) (xs ++ ys)
  | _, _, _, _, .nil, s => s
  | _, _, _, _, .cons h r, s => .cons h (Reps.append r s)
theorem Reps.take {G : Glob} {ι : List Addr} {H : Hp} : ∀ {vs : List V} {xs : List PV} (n : Nat), Reps G ι H vs xs → Reps G ι H (vs.take n) (xs.take n)
  | _, _, 0, _ => by simpa using Reps.nil
  | _, _, _ + 1, .nil => .nil
  | _, _, n + 1, .cons h r => .cons h (Reps.take n r)
theorem Reps.drop {G : Glob} {ι : List Addr} {H : Hp} : ∀ {vs : List V} {xs : List PV} (n : Nat), Reps G ι H vs xs → Reps G ι H (vs.drop n) (xs.drop n)
  | _, _, 0, r => r
  | _, _, _ + 1, .nil => .nil
  | _, _, n + 1, .cons h r => Reps.drop n r
theorem Reps.set {G : Glob} {ι : List Addr} {H : Hp} {v : V} {x : PV} (q : Rep G ι H v x) : ∀ {vs : List V} {xs : List PV} (n : Nat), Reps G ι H vs xs → Reps G ι H (vs.set n v) (xs.set n x)
  | _, _, _, .nil => .nil
  | _, _, 0, .cons h r => .cons q r
  | _, _, n + 1, .cons h r => .cons h (Reps.set q n r)
theorem Reps.rep {G : Glob} {ι : List Addr} {H : Hp} {vs : List V} {xs : List PV} (r : Reps G ι H vs xs) : ∀ n : Nat, Reps G ι H (List.replicate n vs).flatten (List.replicate n xs).flatten
  | 0 => .nil
  | n + 1 => by
    rw [List.replicate_succ, List.replicate_succ, List.flatten_cons, List.flatten_cons]
    exact r.append (Reps.rep r n)
theorem Reps.one {G : Glob} {ι : List Addr} {H : Hp} {v : V} {x : PV} (h : Rep G ι H v x) : Reps G ι H [v] [x] := .cons h .nil
theorem reps_ints {G : Glob} {ι : List Addr} {H : Hp} : ∀ ns : List Int, Reps G ι H (ns.map V.int) (ns.map PV.int)
  | [] => .nil
  | n :: r => .cons (.int n) (reps_ints r)

/-- a list that is only read: locked, or written -/
def FrL (K : PySem.W.Frag) (H : Hp) (a : Addr) (vs : List V) : Prop := (∃ o, H a = some (.frz o (.lst vs))) ∨
  ∃ (o : Obj) (its : Array Value) (n : Nat), K.lookup a = some o ∧ o.cls = .type "list" ∧ o.dict = none ∧ o.data = .seq its n ∧ its.size ≤ sizeLine ∧ Vals vs its.toList
theorem FrL.sqL {K : PySem.W.Frag} {H : Hp} {a : Addr} {vs : List V} (h : FrL K H a vs) : SqL K H a vs := by
  rcases h with h | h
  · exact .inl (.inr h)
  · exact .inr h
/-- an object of the model heap -/
def ObR (G : Glob) (ι : List Addr) (H : Hp) (a : Addr) : MO → Prop
  | .lst xs => ∃ vs, H a = some (.lst vs) ∧ Reps G ι H vs xs
  | .frz xs => ∃ vs, FrL G.K H a vs ∧ Reps G ι H vs xs
def MO.mut : MO → Bool
  | .lst _ => true
  | .frz _ => false
structure Sim (G : Glob) (ι : List Addr) (H : Hp) (mh : MH) : Prop where
  len : ι.length = mh.length
  obj : ∀ (n : Nat) (o : MO), mh[n]? = some o → ∃ a, ι[n]? = some a ∧ ObR G ι H a o
  inj : ∀ (n m : Nat) (a : Addr) (o u : MO), ι[n]? = some a → ι[m]? = some a → mh[n]? = some o → mh[m]? = some u → o.mut = true → u.mut = true → n = m
  tabs : LamX.Tabs G.T H
def RepO (G : Glob) (ι : List Addr) (H : Hp) : Option V → Option PV → Prop
  | some v, some x => Rep G ι H v x
  | _, none => True
  | none, some _ => False
structure SimSt (G : Glob) (ι : List Addr) (H : Hp) (σ : St) (ps : PSt) : Prop where
  len : σ.length = ps.length
  at_ : ∀ (i : Nat) (x : PV), ps[i]? = some (some x) → ∃ v, σ[i]? = some (some v) ∧ Rep G ι H v x
theorem SimSt.mono {G : Glob} {ι ι' : List Addr} {H H' : Hp} {σ : St} {ps : PSt} (s : SimSt G ι H σ ps) (g : Gr ι H ι' H') : SimSt G ι' H' σ ps :=
  ⟨s.len, fun i x e => let ⟨v, h1, h2⟩ := s.at_ i x e; ⟨v, h1, h2.mono g⟩⟩
theorem SimSt.set {G : Glob} {ι : List Addr} {H : Hp} {σ : St} {ps : PSt} (s : SimSt G ι H σ ps) (i : Nat) {v : V} {x : PV} (r : Rep G ι H v x) : SimSt G ι H (σ.set i (some v)) (ps.set i (some x)) := by
  refine ⟨by simp [s.len], fun j y e => ?_⟩
  by_cases h : i = j
  · subst h
    have hi : i < ps.length := by
      have := (List.getElem?_eq_some_iff.mp e).1
      simpa using this
    rw [List.getElem?_set_self hi] at e
    cases e
    exact ⟨v, by rw [List.getElem?_set_self (by rw [s.len]; exact hi)], r⟩
  · rw [List.getElem?_set_ne h] at e ⊢
    exact s.at_ j y e

/-- an exception of the class that the module calls c, that keeps w -/
def ExV (G : Glob) (ι : List Addr) (H : Hp) (cv : Value) (d : Option Addr) (c : Str) (w : PV) : Prop :=
  ∃ C dd v, G.mg c = some (.ref C) ∧ cv = .ref C ∧ d = some dd ∧ H dd = some (.xd [(("word" : Str), .str c), (("what" : Str), v)]) ∧ Rep G ι H v w

/-! ## readings -/
def OutE (G : Glob) (E : XK) (ι : List Addr) (H : Hp) (r : R PV) (Q : VK) : Prop := match r with
  | .ok x mh => ∀ v H' ι', Gr ι H ι' H' → Sim G ι' H' mh → Rep G ι' H' v x → Q v H'
  | .exc c w mh => ∀ cv d H' ι', Gr ι H ι' H' → Sim G ι' H' mh → ExV G ι' H' cv d c w → E cv d H'
  | .stk => False
def OutA (G : Glob) (E : XK) (ι : List Addr) (H : Hp) (r : R (List PV)) (Q : List V → Hp → Prop) : Prop := match r with
  | .ok xs mh => ∀ vs H' ι', Gr ι H ι' H' → Sim G ι' H' mh → Reps G ι' H' vs xs → Q vs H'
  | .exc c w mh => ∀ cv d H' ι', Gr ι H ι' H' → Sim G ι' H' mh → ExV G ι' H' cv d c w → E cv d H'
  | .stk => False
def OutT (G : Glob) (E : XK) (ι : List Addr) (H : Hp) (r : R Bool) (Q : Bool → Hp → Prop) : Prop := match r with
  | .ok b mh => ∀ H' ι', Gr ι H ι' H' → Sim G ι' H' mh → Q b H'
  | .exc c w mh => ∀ cv d H' ι', Gr ι H ι' H' → Sim G ι' H' mh → ExV G ι' H' cv d c w → E cv d H'
  | .stk => False
theorem OutE.mono {G : Glob} {E : XK} {ι ι1 : List Addr} {H H1 : Hp} {r : R PV} {Q : VK} (g : Gr ι H ι1 H1) (o : OutE G E ι H r Q) : OutE G E ι1 H1 r Q := by
  cases r with
  | ok x mh => exact fun v H' ι' g' => o v H' ι' (g.trans g')
  | exc c w mh => exact fun cv d H' ι' g' => o cv d H' ι' (g.trans g')
  | stk => exact o
theorem OutE.imp {G : Glob} {E : XK} {ι : List Addr} {H : Hp} {r : R PV} {Q Q' : VK} (o : OutE G E ι H r Q) (h : ∀ v H', Q v H' → Q' v H') : OutE G E ι H r Q' := by
  cases r with
  | ok x mh => exact fun v H' ι' g s p => h v H' (o v H' ι' g s p)
  | exc c w mh => exact o
  | stk => exact o
theorem OutA.mono {G : Glob} {E : XK} {ι ι1 : List Addr} {H H1 : Hp} {r : R (List PV)} {Q : List V → Hp → Prop} (g : Gr ι H ι1 H1) (o : OutA G E ι H r Q) : OutA G E ι1 H1 r Q := by
  cases r with
  | ok x mh => exact fun v H' ι' g' => o v H' ι' (g.trans g')
  | exc c w mh => exact fun cv d H' ι' g' => o cv d H' ι' (g.trans g')
  | stk => exact o
theorem OutT.mono {G : Glob} {E : XK} {ι ι1 : List Addr} {H H1 : Hp} {r : R Bool} {Q : Bool → Hp → Prop} (g : Gr ι H ι1 H1) (o : OutT G E ι H r Q) : OutT G E ι1 H1 r Q := by
  cases r with
  | ok x mh => exact fun H' ι' g' => o H' ι' (g.trans g')
  | exc c w mh => exact fun cv d H' ι' g' => o cv d H' ι' (g.trans g')
  | stk => exact o
/-- a step, then what follows -/
theorem OutE.bindE {G : Glob} {E : XK} {ι : List Addr} {H : Hp} {r : R PV} {f : PV → MH → R PV} {Q : VK} (o : OutE G E ι H (r.bind f) Q) :
    OutE G E ι H r fun v H1 => ∃ ι1 mh x, Gr ι H ι1 H1 ∧ Sim G ι1 H1 mh ∧ Rep G ι1 H1 v x ∧ OutE G E ι1 H1 (f x mh) Q := by
  cases r with
  | ok x mh => exact fun v H' ι' g s p => ⟨ι', mh, x, g, s, p, OutE.mono (r := f x mh) g o⟩
  | exc c w mh => exact o
  | stk => exact o
theorem OutE.bindA {G : Glob} {E : XK} {ι : List Addr} {H : Hp} {r : R (List PV)} {f : List PV → MH → R PV} {Q : VK} (o : OutE G E ι H (r.bind f) Q) :
    OutA G E ι H r fun vs H1 => ∃ ι1 mh xs, Gr ι H ι1 H1 ∧ Sim G ι1 H1 mh ∧ Reps G ι1 H1 vs xs ∧ OutE G E ι1 H1 (f xs mh) Q := by
  cases r with
  | ok x mh => exact fun v H' ι' g s p => ⟨ι', mh, x, g, s, p, OutE.mono (r := f x mh) g o⟩
  | exc c w mh => exact o
  | stk => exact o
theorem OutE.bindT {G : Glob} {E : XK} {ι : List Addr} {H : Hp} {r : R Bool} {f : Bool → MH → R PV} {Q : VK} (o : OutE G E ι H (r.bind f) Q) :
    OutT G E ι H r fun b H1 => ∃ ι1 mh, Gr ι H ι1 H1 ∧ Sim G ι1 H1 mh ∧ OutE G E ι1 H1 (f b mh) Q := by
  cases r with
  | ok x mh => exact fun H' ι' g s => ⟨ι', mh, g, s, OutE.mono (r := f x mh) g o⟩
  | exc c w mh => exact o
  | stk => exact o
theorem OutA.bindE {G : Glob} {E : XK} {ι : List Addr} {H : Hp} {r : R PV} {f : PV → MH → R (List PV)} {Q : List V → Hp → Prop} (o : OutA G E ι H (r.bind f) Q) :
    OutE G E ι H r fun v H1 => ∃ ι1 mh x, Gr ι H ι1 H1 ∧ Sim G ι1 H1 mh ∧ Rep G ι1 H1 v x ∧ OutA G E ι1 H1 (f x mh) Q := by
  cases r with
  | ok x mh => exact fun v H' ι' g s p => ⟨ι', mh, x, g, s, p, OutA.mono (r := f x mh) g o⟩
  | exc c w mh => exact o
  | stk => exact o
theorem OutA.bindA {G : Glob} {E : XK} {ι : List Addr} {H : Hp} {r : R (List PV)} {f : List PV → MH → R (List PV)} {Q : List V → Hp → Prop} (o : OutA G E ι H (r.bind f) Q) :
    OutA G E ι H r fun v H1 => ∃ ι1 mh x, Gr ι H ι1 H1 ∧ Sim G ι1 H1 mh ∧ Reps G ι1 H1 v x ∧ OutA G E ι1 H1 (f x mh) Q := by
  cases r with
  | ok x mh => exact fun v H' ι' g s p => ⟨ι', mh, x, g, s, p, OutA.mono (r := f x mh) g o⟩
  | exc c w mh => exact o
  | stk => exact o
theorem OutT.bindE {G : Glob} {E : XK} {ι : List Addr} {H : Hp} {r : R PV} {f : PV → MH → R Bool} {Q : Bool → Hp → Prop} (o : OutT G E ι H (r.bind f) Q) :
    OutE G E ι H r fun v H1 => ∃ ι1 mh x, Gr ι H ι1 H1 ∧ Sim G ι1 H1 mh ∧ Rep G ι1 H1 v x ∧ OutT G E ι1 H1 (f x mh) Q := by
  cases r with
  | ok x mh => exact fun v H' ι' g s p => ⟨ι', mh, x, g, s, p, OutT.mono (r := f x mh) g o⟩
  | exc c w mh => exact o
  | stk => exact o
theorem OutT.bindT {G : Glob} {E : XK} {ι : List Addr} {H : Hp} {r : R Bool} {f : Bool → MH → R Bool} {Q : Bool → Hp → Prop} (o : OutT G E ι H (r.bind f) Q) :
    OutT G E ι H r fun b H1 => ∃ ι1 mh, Gr ι H ι1 H1 ∧ Sim G ι1 H1 mh ∧ OutT G E ι1 H1 (f b mh) Q := by
  cases r with
  | ok x mh => exact fun H' ι' g s => ⟨ι', mh, g, s, OutT.mono (r := f x mh) g o⟩
  | exc c w mh => exact o
  | stk => exact o

/-- the reading of an expression, an argument list, a test -/
def rdE (G : Glob) (W : WX) (m : ES) : TE := fun σ H Q => ∃ ι mh ps, Sim G ι H mh ∧ SimSt G ι H σ ps ∧ OutE G (WE W σ) ι H (m ps mh) Q
def rdA (G : Glob) (W : WX) (m : AS) : TA := fun σ H Q => ∃ ι mh ps, Sim G ι H mh ∧ SimSt G ι H σ ps ∧ OutA G (WE W σ) ι H (m ps mh) Q
def rdT (G : Glob) (W : WX) (m : PSt → MH → R Bool) : TT := fun σ H Q => ∃ ι mh ps, Sim G ι H mh ∧ SimSt G ι H σ ps ∧ OutT G (WE W σ) ι H (m ps mh) Q
def OutS (G : Glob) (W : WX) (D : Ends) (ι : List Addr) (H : Hp) (r : RS) : Prop := match r with
  | .ok .nx ps mh => ∀ σ' H' ι', Gr ι H ι' H' → Sim G ι' H' mh → SimSt G ι' H' σ' ps → D.nx σ' H'
  | .ok .bk ps mh => ∀ σ' H' ι', Gr ι H ι' H' → Sim G ι' H' mh → SimSt G ι' H' σ' ps → D.bk σ' H'
  | .ok .ct ps mh => ∀ σ' H' ι', Gr ι H ι' H' → Sim G ι' H' mh → SimSt G ι' H' σ' ps → D.ct σ' H'
  | .ok (.rt x) _ mh => ∀ v H' ι', Gr ι H ι' H' → Sim G ι' H' mh → Rep G ι' H' v x → D.rt v H'
  | .exc c w ps mh => ∀ cv d σ' H' ι', Gr ι H ι' H' → Sim G ι' H' mh → SimSt G ι' H' σ' ps → ExV G ι' H' cv d c w → W cv d σ' H'
  | .stk => False
def rdS (G : Glob) (W : WX) (m : SS) : TS := fun D σ H => ∃ ι mh ps, Sim G ι H mh ∧ SimSt G ι H σ ps ∧ OutS G W D ι H (m ps mh)
theorem OutS.mono {G : Glob} {W : WX} {D : Ends} {ι ι1 : List Addr} {H H1 : Hp} {r : RS} (g : Gr ι H ι1 H1) (o : OutS G W D ι H r) : OutS G W D ι1 H1 r := by
  cases r with
  | ok f ps mh =>
    cases f with
    | nx => exact fun σ' H' ι' g' => o σ' H' ι' (g.trans g')
    | bk => exact fun σ' H' ι' g' => o σ' H' ι' (g.trans g')
    | ct => exact fun σ' H' ι' g' => o σ' H' ι' (g.trans g')
    | rt x => exact fun v H' ι' g' => o v H' ι' (g.trans g')
  | exc c w ps mh => exact fun cv d σ' H' ι' g' => o cv d σ' H' ι' (g.trans g')
  | stk => exact o
/-- an expression's result, then a statement's rest -/
def R.bindS {α : Type} (r : R α) (ps : PSt) (f : α → MH → RS) : RS := match r with
  | .ok a mh => f a mh
  | .exc c w mh => .exc c w ps mh
  | .stk => .stk
theorem OutS.bindE {G : Glob} {W : WX} {D : Ends} {ι : List Addr} {H : Hp} {σ : St} {ps : PSt} {r : R PV} {f : PV → MH → RS} (st : SimSt G ι H σ ps) (o : OutS G W D ι H (r.bindS ps f)) :
    OutE G (WE W σ) ι H r fun v H1 => ∃ ι1 mh x, Gr ι H ι1 H1 ∧ Sim G ι1 H1 mh ∧ Rep G ι1 H1 v x ∧ OutS G W D ι1 H1 (f x mh) := by
  cases r with
  | ok x mh => exact fun v H' ι' g s p => ⟨ι', mh, x, g, s, p, OutS.mono (r := f x mh) g o⟩
  | exc c w mh => exact fun cv d H' ι' g s e => o cv d σ H' ι' g s (st.mono g) e
  | stk => exact o
theorem OutS.bindT {G : Glob} {W : WX} {D : Ends} {ι : List Addr} {H : Hp} {σ : St} {ps : PSt} {r : R Bool} {f : Bool → MH → RS} (st : SimSt G ι H σ ps) (o : OutS G W D ι H (r.bindS ps f)) :
    OutT G (WE W σ) ι H r fun b H1 => ∃ ι1 mh, Gr ι H ι1 H1 ∧ Sim G ι1 H1 mh ∧ OutS G W D ι1 H1 (f b mh) := by
  cases r with
  | ok x mh => exact fun H' ι' g s => ⟨ι', mh, g, s, OutS.mono (r := f x mh) g o⟩
  | exc c w mh => exact fun cv d H' ι' g s e => o cv d σ H' ι' g s (st.mono g) e
  | stk => exact o
theorem OutS.bindA {G : Glob} {W : WX} {D : Ends} {ι : List Addr} {H : Hp} {σ : St} {ps : PSt} {r : R (List PV)} {f : List PV → MH → RS} (st : SimSt G ι H σ ps) (o : OutS G W D ι H (r.bindS ps f)) :
    OutA G (WE W σ) ι H r fun vs H1 => ∃ ι1 mh xs, Gr ι H ι1 H1 ∧ Sim G ι1 H1 mh ∧ Reps G ι1 H1 vs xs ∧ OutS G W D ι1 H1 (f xs mh) := by
  cases r with
  | ok x mh => exact fun v H' ι' g s p => ⟨ι', mh, x, g, s, p, OutS.mono (r := f x mh) g o⟩
  | exc c w mh => exact fun cv d H' ι' g s e => o cv d σ H' ι' g s (st.mono g) e
  | stk => exact o
/-! readings are monotone -/
theorem _root_.L2.PE.mono {X : Cx} {e : Expr} {t t' : TE} (h : PE X e t) (q : ∀ σ H Q, t' σ H Q → t σ H Q) : PE X e t' := ⟨fun pins s σ H Q I hw => h.run pins s σ H Q I (q σ H Q hw)⟩
theorem _root_.L2.PT.mono {X : Cx} {e : Expr} {t t' : TT} (h : PT X e t) (q : ∀ σ H Q, t' σ H Q → t σ H Q) : PT X e t' := ⟨fun pins s σ H Q I hw => h.run pins s σ H Q I (q σ H Q hw)⟩
theorem _root_.L2.PA.mono {X : Cx} {e : List Expr} {t t' : TA} (h : PA X e t) (q : ∀ σ H Q, t' σ H Q → t σ H Q) : PA X e t' := ⟨fun pos pins s σ H Q I hw => h.run pos pins s σ H Q I (q σ H Q hw)⟩
theorem _root_.L2.PS.mono {X : Cx} {e : Stmt} {t t' : TS} (h : PS X e t) (q : ∀ D σ H, t' D σ H → t D σ H) : PS X e t' := ⟨fun pins s σ H D I hw => h.run pins s σ H D I (q D σ H hw)⟩
theorem _root_.L2.PSs.mono {X : Cx} {e : List Stmt} {t t' : TS} (h : PSs X e t) (q : ∀ D σ H, t' D σ H → t D σ H) : PSs X e t' := ⟨fun pins s σ H D I hw => h.run pins s σ H D I (q D σ H hw)⟩
end Px

set_option Elab.async false
set_option linter.all false
set_option maxRecDepth 100000
set_option maxHeartbeats 4000000
namespace Px
open PySem PySem.Spec PyProof.Rows L2

/-! ## new objects -/
theorem SqL.ext {K : PySem.W.Frag} {H H' : Hp} (e : ∀ b o, H b = some o → H' b = some o) {a : Addr} {xs : List V} (h : SqL K H a xs) : SqL K H' a xs := by
  rcases h with (h | ⟨o, h⟩) | h
  · exact .inl (.inl (e _ _ h))
  · exact .inl (.inr ⟨o, e _ _ h⟩)
  · exact .inr h
theorem FrL.ext {K : PySem.W.Frag} {H H' : Hp} (e : ∀ b o, H b = some o → H' b = some o) {a : Addr} {xs : List V} (h : FrL K H a xs) : FrL K H' a xs := by
  rcases h with ⟨o, h⟩ | h
  · exact .inl ⟨o, e _ _ h⟩
  · exact .inr h
theorem Gr.ext {ι : List Addr} (r : List Addr) {H H' : Hp} (e : ∀ b o, H b = some o → H' b = some o) : Gr ι H (ι ++ r) H' := ⟨⟨r, rfl⟩, fun a xs h => e _ _ h, fun a o u h => e _ _ h, fun a φ h => e _ _ h⟩
theorem ObR.ext {G : Glob} {ι : List Addr} (r : List Addr) {H H' : Hp} (e : ∀ b o, H b = some o → H' b = some o) {a : Addr} {o : MO} (h : ObR G ι H a o) : ObR G (ι ++ r) H' a o := by
  cases o with
  | lst xs =>
    obtain ⟨vs, h1, h2⟩ := h
    exact ⟨vs, e _ _ h1, h2.mono (Gr.ext r e)⟩
  | frz xs =>
    obtain ⟨vs, h1, h2⟩ := h
    exact ⟨vs, FrL.ext e h1, h2.mono (Gr.ext r e)⟩
theorem Sim.ext {G : Glob} {ι : List Addr} {H H' : Hp} {mh : MH} (s : Sim G ι H mh) (e : ∀ b o, H b = some o → H' b = some o) : Sim G ι H' mh := by
  refine ⟨s.len, fun n o h => ?_, s.inj, s.tabs.ext e⟩
  obtain ⟨a, h1, h2⟩ := s.obj n o h
  have z := ObR.ext [] e h2
  rw [List.append_nil] at z
  exact ⟨a, h1, z⟩
theorem fresh_ext {H : Hp} {p : Addr} {o : HO} (h : H p = none) : ∀ b u, H b = some u → upd H p o b = some u := fun b u e => by
  rw [upd_ne (ne_of_none e h)]
  exact e
theorem Gr.fresh {ι : List Addr} {H : Hp} {p : Addr} {o : HO} (h : H p = none) : Gr ι H ι (upd H p o) := by
  have z := Gr.ext (ι := ι) [] (fresh_ext (o := o) h)
  rw [List.append_nil] at z
  exact z
theorem Sim.fresh {G : Glob} {ι : List Addr} {H : Hp} {mh : MH} {p : Addr} {o : HO} (s : Sim G ι H mh) (h : H p = none) : Sim G ι (upd H p o) mh := s.ext (fresh_ext h)
/-- a new tuple -/
theorem Rep.newTup {G : Glob} {ι : List Addr} {H : Hp} {p : Addr} {vs : List V} {xs : List PV} (h : H p = none) (r : Reps G ι H vs xs) : Rep G ι (upd H p (.tup vs)) (.ref p) (.tup xs) :=
  .tup (SqT.of upd_same) (r.mono (Gr.fresh h))
/-- a new list -/
theorem Gr.newLst {ι : List Addr} {H : Hp} {p : Addr} {o : HO} (h : H p = none) : Gr ι H (ι ++ [p]) (upd H p o) := Gr.ext [p] (fresh_ext h)
theorem Sim.newLst {G : Glob} {ι : List Addr} {H : Hp} {mh : MH} {p : Addr} {vs : List V} {xs : List PV} (s : Sim G ι H mh) (h : H p = none) (r : Reps G ι H vs xs) :
    Sim G (ι ++ [p]) (upd H p (.lst vs)) (mh ++ [.lst xs]) := by
  have ex : ∀ b u, H b = some u → upd H p (.lst vs) b = some u := fresh_ext h
  have at_ : ∀ {n : Nat} {o : MO}, (mh ++ [MO.lst xs])[n]? = some o → (n < mh.length ∧ mh[n]? = some o) ∨ (n = mh.length ∧ o = .lst xs) := fun {n o} e => by
    by_cases hn : n < mh.length
    · rw [List.getElem?_append_left hn] at e
      exact .inl ⟨hn, e⟩
    · rw [List.getElem?_append_right (by omega)] at e
      have e2 := (List.getElem?_eq_some_iff.mp e).1
      simp only [List.length_singleton] at e2
      have hn2 : n = mh.length := by omega
      subst hn2
      simp only [Nat.sub_self, List.getElem?_cons_zero, Option.some.injEq] at e
      exact .inr ⟨rfl, e.symm⟩
  have ix : ∀ {n : Nat} {a : Addr}, (ι ++ [p])[n]? = some a → (n < mh.length ∧ ι[n]? = some a) ∨ (n = mh.length ∧ a = p) := fun {n a} e => by
    by_cases hn : n < ι.length
    · rw [List.getElem?_append_left hn] at e
      exact .inl ⟨by rw [← s.len]; exact hn, e⟩
    · rw [List.getElem?_append_right (by omega)] at e
      have e2 := (List.getElem?_eq_some_iff.mp e).1
      simp only [List.length_singleton] at e2
      have hn2 : n = ι.length := by omega
      subst hn2
      simp only [Nat.sub_self, List.getElem?_cons_zero, Option.some.injEq] at e
      exact .inr ⟨s.len, e.symm⟩
  refine ⟨by simp [s.len], fun n o e => ?_, fun n m a o u e1 e2 h1 h2 m1 m2 => ?_, s.tabs.ext ex⟩
  · rcases at_ e with ⟨hn, e⟩ | ⟨rfl, rfl⟩
    · obtain ⟨a, h1, h2⟩ := s.obj n o e
      exact ⟨a, by rw [List.getElem?_append_left (by rw [s.len]; exact hn)]; exact h1, ObR.ext [p] ex h2⟩
    · refine ⟨p, ?_, vs, upd_same, r.mono (Gr.newLst h)⟩
      rw [← s.len]
      simp
  · have nop : ∀ {k : Nat} {o : MO}, ι[k]? = some p → mh[k]? = some o → o.mut = true → False := fun {k o} z1 z2 z3 => by
      obtain ⟨a, q1, q2⟩ := s.obj k o z2
      rw [z1] at q1
      cases q1
      cases o with
      | lst ys =>
        obtain ⟨_, q3, _⟩ := q2
        rw [h] at q3
        cases q3
      | frz ys => cases z3
    rcases ix e1 with ⟨k1, f1⟩ | ⟨k1, f1⟩ <;> rcases ix e2 with ⟨k2, f2⟩ | ⟨k2, f2⟩
    · rw [List.getElem?_append_left k1] at h1
      rw [List.getElem?_append_left k2] at h2
      exact s.inj n m a o u f1 f2 h1 h2 m1 m2
    · rw [List.getElem?_append_left k1] at h1
      rw [f2] at f1
      exact (nop f1 h1 m1).elim
    · rw [List.getElem?_append_left k2] at h2
      rw [f1] at f2
      exact (nop f2 h2 m2).elim
    · omega
theorem Rep.newLst {G : Glob} {ι : List Addr} {H : Hp} {mh : MH} {p : Addr} (s : Sim G ι H mh) (H' : Hp) : Rep G (ι ++ [p]) H' (.ref p) (.ref mh.length) := .ref (by rw [← s.len]; simp)
/-- a list is written -/
theorem Gr.wrLst {ι : List Addr} {H : Hp} {a : Addr} {ws vs : List V} (h : H a = some (.lst ws)) : Gr ι H ι (upd H a (.lst vs)) := by
  refine ⟨⟨[], by simp⟩, fun b xs e => ?_, fun b o u e => ?_, fun b φ e => ?_⟩
  · rw [upd_ne (ne_of e h (by intro z; cases z))]; exact e
  · rw [upd_ne (ne_of e h (by intro z; cases z))]; exact e
  · rw [upd_ne (ne_of e h (by intro z; cases z))]; exact e
theorem Sim.wrLst {G : Glob} {ι : List Addr} {H : Hp} {mh : MH} {n : Nat} {a : Addr} {ws vs : List V} {ys xs : List PV} (s : Sim G ι H mh) (hn : mh[n]? = some (.lst ys)) (ha : ι[n]? = some a) (h : H a = some (.lst ws)) (r : Reps G ι H vs xs) :
    Sim G ι (upd H a (.lst vs)) (mh.set n (.lst xs)) := by
  have hlt : n < mh.length := (List.getElem?_eq_some_iff.mp hn).1
  have g : Gr ι H ι (upd H a (.lst vs)) := Gr.wrLst h
  have tb : ∀ b o, H b = some o → b ≠ a → upd H a (.lst vs) b = some o := fun b o e hb => by rw [upd_ne hb]; exact e
  refine ⟨by simp [s.len], fun m o e => ?_, fun k m b o u e1 e2 h1 h2 m1 m2 => ?_, ?_⟩
  · by_cases hm : n = m
    · subst hm
      rw [List.getElem?_set_self hlt] at e
      cases e
      exact ⟨a, ha, vs, upd_same, r.mono g⟩
    · rw [List.getElem?_set_ne hm] at e
      obtain ⟨b, h1, h2⟩ := s.obj m o e
      refine ⟨b, h1, ?_⟩
      cases o with
      | lst zs =>
        obtain ⟨us, h3, h4⟩ := h2
        have hb : b ≠ a := fun z => hm (s.inj n m a _ _ ha (by rw [← z]; exact h1) hn e rfl rfl)
        exact ⟨us, tb _ _ h3 hb, h4.mono g⟩
      | frz zs =>
        obtain ⟨us, h3, h4⟩ := h2
        refine ⟨us, ?_, h4.mono g⟩
        rcases h3 with ⟨o, h3⟩ | h3
        · exact .inl ⟨o, tb _ _ h3 (ne_of h3 h (by intro z; cases z))⟩
        · exact .inr h3
  · have q : ∀ {k : Nat} {o : MO}, (mh.set n (.lst xs))[k]? = some o → ∃ o', mh[k]? = some o' ∧ o'.mut = o.mut := fun {k o} e => by
      by_cases hk : n = k
      · subst hk
        rw [List.getElem?_set_self hlt] at e
        cases e
        exact ⟨_, hn, rfl⟩
      · rw [List.getElem?_set_ne hk] at e
        exact ⟨o, e, rfl⟩
    obtain ⟨o', q1, q2⟩ := q h1
    obtain ⟨u', q3, q4⟩ := q h2
    exact s.inj k m b o' u' e1 e2 q1 q3 (q2.trans m1) (q4.trans m2)
  · intro p hp
    obtain ⟨ps, h1, h2, h3⟩ := s.tabs p hp
    refine ⟨ps, tb _ _ h1 (ne_of h1 h (by intro z; cases z)), h2, fun pos cv hc => ?_⟩
    obtain ⟨c, e1, e2⟩ := h3 pos cv hc
    exact ⟨c, e1, tb _ _ e2 (ne_of e2 h (by intro z; unfold LamX.CodeO at z; cases z))⟩
end Px

set_option Elab.async false
set_option linter.all false
set_option maxRecDepth 100000
set_option maxHeartbeats 4000000
namespace Px
open PySem PySem.Spec PyProof.Rows L2

/-! ## operators on values -/
instance (i j : Int) : Decidable (CMulW i j) := by unfold CMulW; exact inferInstance
instance (i j : Int) : Decidable (CMul i j) := by unfold CMul; exact inferInstance
instance (i j : Int) : Decidable (CDivW i j) := by unfold CDivW; exact inferInstance
instance (i j : Int) : Decidable (CDivN i j) := by unfold CDivN; exact inferInstance
instance (i j : Int) : Decidable (CPow i j) := by unfold CPow; exact inferInstance
/-- the list at a number -/
def getL (mh : MH) (n : Nat) : Option (List PV) := match mh[n]? with
  | some (.lst xs) => some xs
  | some (.frz xs) => some xs
  | none => none
/-- .. that may be changed -/
def getM (mh : MH) (n : Nat) : Option (List PV) := match mh[n]? with
  | some (.lst xs) => some xs
  | _ => none
def newL (xs : List PV) (mh : MH) : R PV := .ok (.ref mh.length) (mh ++ [.lst xs])
def addV (x y : PV) (mh : MH) : R PV := match x, y with
  | .int i, .int j => .ok (.int (i + j)) mh
  | .str a, .str b => if a.length + b.length ≤ sizeLine then .ok (.str (a ++ b)) mh else .stk
  | .tup a, .tup b => if a.length + b.length ≤ sizeLine then .ok (.tup (a ++ b)) mh else .stk
  | .ref n, .ref m => match getM mh n, getM mh m with
    | some a, some b => if a.length + b.length ≤ sizeLine then newL (a ++ b) mh else .stk
    | _, _ => .stk
  | _, _ => .stk
def subV (x y : PV) (mh : MH) : R PV := match x, y with
  | .int i, .int j => .ok (.int (i - j)) mh
  | _, _ => .stk
def strMul (z : Str) (n : Int) : Str := if n < 1 then Str.empty else if (n == 1 || z.length == 0) = true then z else ⟨(List.replicate n.toNat z.cps).foldl (· ++ ·) #[]⟩
def mulV (x y : PV) (mh : MH) : R PV := match x, y with
  | .int i, .int j => if CMulW i j ∨ CMul i j then .ok (.int (i * j)) mh else .stk
  | .str z, .int n => if -(2 ^ 63) ≤ n ∧ n < 2 ^ 62 ∧ z.length * n.toNat ≤ 1000000 then .ok (.str (strMul z n)) mh else .stk
  | .ref n, .int k => match getM mh n with
    | some a => if -(2 ^ 63) ≤ k ∧ k < 2 ^ 63 ∧ a.length * k.toNat ≤ sizeLine then newL (List.replicate k.toNat a).flatten mh else .stk
    | none => .stk
  | _, _ => .stk
def divV (x y : PV) (mh : MH) : R PV := match x, y with
  | .int i, .int j => if CDivW i j then .ok (.int (i / j)) mh else if CDivN i j then .ok (.int (i.fdiv j)) mh else .stk
  | _, _ => .stk
def modV (x y : PV) (mh : MH) : R PV := match x, y with
  | .int i, .int j => if 0 < j then .ok (.int (i % j)) mh else if j ≠ 0 then .ok (.int (i.fmod j)) mh else .stk
  | _, _ => .stk
def powV (x y : PV) (mh : MH) : R PV := match x, y with
  | .int i, .int j => if CPow i j then .ok (.int (i ^ j.toNat)) mh else .stk
  | _, _ => .stk
def binV (op : Operator) : PV → PV → MH → R PV := match op with
  | .Add => addV
  | .Sub => subV
  | .Mult => mulV
  | .FloorDiv => divV
  | .Mod => modV
  | .Pow => powV
  | _ => fun _ _ _ => .stk
def noX : XK := fun _ _ _ => False
/-- an operation's reading -/
def rOp (G : Glob) (f : PV → PV → MH → R PV) : R2 := fun x y H Q => ∃ ι mh px py, Sim G ι H mh ∧ Rep G ι H x px ∧ Rep G ι H y py ∧ OutE G noX ι H (f px py mh) Q
abbrev gl (X : Cx) (T : List (Addr × Str)) : Glob := ⟨X.K, X.mg, T⟩
theorem getL_ob {G : Glob} {ι : List Addr} {H : Hp} {mh : MH} {n : Nat} {xs : List PV} (s : Sim G ι H mh) (h : getL mh n = some xs) : ∃ a vs, ι[n]? = some a ∧ SqL G.K H a vs ∧ Reps G ι H vs xs := by
  unfold getL at h
  cases e : mh[n]? with
  | none => rw [e] at h; cases h
  | some o =>
    obtain ⟨a, h1, h2⟩ := s.obj n o e
    rw [e] at h
    cases o with
    | lst ys =>
      cases h
      obtain ⟨vs, h3, h4⟩ := h2
      exact ⟨a, vs, h1, SqL.of h3, h4⟩
    | frz ys =>
      cases h
      obtain ⟨vs, h3, h4⟩ := h2
      exact ⟨a, vs, h1, h3.sqL, h4⟩
theorem getM_at {mh : MH} {n : Nat} {xs : List PV} (h : getM mh n = some xs) : mh[n]? = some (.lst xs) := by
  unfold getM at h
  cases e : mh[n]? with
  | none => rw [e] at h; cases h
  | some o =>
    rw [e] at h
    cases o with
    | lst ys => cases h; rfl
    | frz ys => cases h
theorem getM_ob {G : Glob} {ι : List Addr} {H : Hp} {mh : MH} {n : Nat} {xs : List PV} (s : Sim G ι H mh) (h : getM mh n = some xs) : ∃ a vs, ι[n]? = some a ∧ H a = some (.lst vs) ∧ Reps G ι H vs xs := by
  obtain ⟨a, h1, vs, h2, h3⟩ := s.obj n _ (getM_at h)
  exact ⟨a, vs, h1, h2, h3⟩
/-- the address behind a number -/
theorem Rep.refAt {G : Glob} {ι : List Addr} {H : Hp} {x : V} {n : Nat} {a : Addr} (r : Rep G ι H x (.ref n)) (h : ι[n]? = some a) : x = .ref a := by
  cases r with
  | ref h' =>
    rw [h] at h'
    cases h'
    rfl
theorem OutE.okI {G : Glob} {E : XK} {ι : List Addr} {H : Hp} {x : PV} {mh : MH} {Q : VK} (o : OutE G E ι H (.ok x mh) Q) (s : Sim G ι H mh) {v : V} (r : Rep G ι H v x) : Q v H := o v H ι (Gr.refl _ _) s r
theorem OutE.okNew {G : Glob} {E : XK} {ι : List Addr} {H : Hp} {xs : List PV} {vs : List V} {mh : MH} {Q : VK} (o : OutE G E ι H (newL xs mh) Q) (s : Sim G ι H mh) (r : Reps G ι H vs xs) : ∀ p, H p = none → Q (.ref p) (upd H p (.lst vs)) :=
  fun p hp => o _ _ _ (Gr.newLst hp) (s.newLst hp r) (Rep.newLst s _)
theorem OutE.okTup {G : Glob} {E : XK} {ι : List Addr} {H : Hp} {xs : List PV} {vs : List V} {mh : MH} {Q : VK} (o : OutE G E ι H (.ok (.tup xs) mh) Q) (s : Sim G ι H mh) (r : Reps G ι H vs xs) : ∀ p, H p = none → Q (.ref p) (upd H p (.tup vs)) :=
  fun p hp => o _ _ _ (Gr.fresh hp) (s.fresh hp) (Rep.newTup hp r)
theorem Reps.ne {G : Glob} {ι : List Addr} {H : Hp} {vs : List V} {xs : List PV} (r : Reps G ι H vs xs) : vs = [] ↔ xs = [] := by
  cases r with
  | nil => simp
  | cons _ _ => simp
section
variable {X : Cx} {T : List (Addr × Str)}
theorem OpR.by {f : Value → Value → Sem Value} {g : PV → PV → MH → R PV}
    (h : ∀ (H : Hp) (x y : V) (Q : VK) (ι : List Addr) (mh : MH) (px py : PV), Sim (gl X T) ι H mh → Rep (gl X T) ι H x px → Rep (gl X T) ι H y py → OutE (gl X T) noX ι H (g px py mh) Q → ∃ r, OpR X f r ∧ r x y H Q) : OpR X f (rOp (gl X T) g) := by
  intro pins s σ H x y v u Q I rx ry ⟨ι, mh, px, py, sm, r1, r2, o⟩
  obtain ⟨r, h1, h2⟩ := h H x y Q ι mh px py sm r1 r2 o
  exact h1 pins s σ H x y v u Q I rx ry h2
theorem op_addV : OpR X (binaryOp .Add) (rOp (gl X T) addV) := by
  refine OpR.by fun H x y Q ι mh px py sm r1 r2 o => ?_
  cases r1 with
  | int i =>
    cases r2 with
    | int j => exact ⟨_, op_add, i, j, rfl, rfl, o.okI sm (.int _)⟩
    | _ => exact o.elim
  | str a =>
    cases r2 with
    | str b =>
      by_cases hz : a.length + b.length ≤ sizeLine
      · simp only [addV, hz, if_true] at o
        exact ⟨_, op_add_str, a, b, rfl, rfl, hz, o.okI sm (.str _)⟩
      · simp only [addV, hz, if_false] at o
        exact o.elim
    | _ => exact o.elim
  | @tup a vs xs h r =>
    cases r2 with
    | @tup b ws ys h' r' =>
      by_cases hz : xs.length + ys.length ≤ sizeLine
      · simp only [addV, hz, if_true] at o
        refine ⟨_, op_catA, a, b, vs, ws, rfl, rfl, h, h', by rw [r.length, r'.length]; exact hz, fun e => ?_, fun e e' => ?_, fun e e' => ?_⟩
        · subst e
          have e2 := r.ne.mp rfl
          subst e2
          exact o.okI sm (.tup h' (by simpa using r'))
        · subst e'
          have e2 := r'.ne.mp rfl
          subst e2
          rw [List.append_nil] at o
          exact o.okI sm (.tup h r)
        · exact o.okTup sm (r.append r')
      · simp only [addV, hz, if_false] at o
        exact o.elim
    | _ => exact o.elim
  | @ref a n h =>
    cases r2 with
    | @ref b m h' =>
      simp only [addV] at o
      cases e1 : getM mh n with
      | none => rw [e1] at o; exact o.elim
      | some xs =>
        cases e2 : getM mh m with
        | none => rw [e1, e2] at o; exact o.elim
        | some ys =>
          rw [e1, e2] at o
          by_cases hz : xs.length + ys.length ≤ sizeLine
          · simp only [hz, if_true] at o
            obtain ⟨a', vs, q1, q2, q3⟩ := getM_ob sm e1
            obtain ⟨b', ws, q4, q5, q6⟩ := getM_ob sm e2
            rw [h] at q1; cases q1
            rw [h'] at q4; cases q4
            exact ⟨_, op_cat, a, b, vs, ws, rfl, rfl, q2, q5, by rw [q3.length, q6.length]; exact hz, o.okNew sm (q3.append q6)⟩
          · simp only [hz, if_false] at o
            exact o.elim
    | _ => exact o.elim
  | non => exact o.elim
  | bl b => exact o.elim
  | fn h => exact o.elim
theorem op_subV : OpR X (binaryOp .Sub) (rOp (gl X T) subV) := by
  refine OpR.by fun H x y Q ι mh px py sm r1 r2 o => ?_
  cases r1 with
  | int i =>
    cases r2 with
    | int j => exact ⟨_, op_sub, i, j, rfl, rfl, o.okI sm (.int _)⟩
    | _ => exact o.elim
  | _ => exact o.elim
theorem foldl_push_size (z : Array Nat) : ∀ (l : List (Array Nat)) (a : Array Nat), (l.foldl (· ++ ·) a).size = a.size + (l.map Array.size).sum
  | [], a => by simp
  | b :: l, a => by
    rw [List.foldl_cons, foldl_push_size z l, List.map_cons, List.sum_cons, Array.size_append]
    omega
theorem op_mulStr : OpR X (binaryOp .Mult) (fun x y H Q => ∃ (z : Str) (n : Int), x = .str z ∧ y = .int n ∧ -(2 ^ 63) ≤ n ∧ n < 2 ^ 62 ∧ z.length * n.toNat ≤ 1000000 ∧ Q (.str (strMul z n)) H) := by
  intro pins s σ H x y v u Q I rx ry h
  obtain ⟨z, n, rfl, rfl, h1, h2, h3, q⟩ := h
  obtain ⟨t, rfl⟩ := rx
  obtain ⟨t', rfl⟩ := ry
  refine PySem.P.mul_str (by rw [decide_eq_false (by omega), decide_eq_false (by omega)]; rfl) (fun h4 h5 => ?_) (fun h4 h5 => ?_) ?_
  · have e : (n.toNat : Int) = n := Int.toNat_of_nonneg (by omega)
    have h7 : (z.length : Int) * n ≤ 1000000 := by
      rw [← e, ← Int.natCast_mul]
      omega
    have h8 : (z.length : Int) ≤ (2 ^ 63 - 1) / n := by
      refine Int.le_ediv_of_mul_le (by omega) (Int.le_trans h7 (by decide))
    omega
  · unfold Builtin.Str.tooLong
    rw [decide_eq_false_iff_not]
    have h16 : sizeLine = 16777216 := sizeLine_eq
    omega
  · unfold strMul at q
    by_cases c1 : n < 1
    · rw [if_pos c1] at q ⊢
      exact ⟨by decide, ⟨.str _, H, I.tok _, ⟨_, rfl⟩, q⟩⟩
    · rw [if_neg c1] at q ⊢
      by_cases c2 : (n == 1 || z.length == 0) = true
      · rw [if_pos c2] at q ⊢
        exact ⟨.str _, H, I, ⟨_, rfl⟩, q⟩
      · rw [if_neg c2] at q ⊢
        refine ⟨?_, ⟨.str _, H, I.tok _, ⟨_, rfl⟩, q⟩⟩
        have e : ((List.replicate n.toNat z.cps).foldl (· ++ ·) #[]).size = z.length * n.toNat := by
          rw [foldl_push_size #[]]
          simp only [List.map_replicate, List.sum_replicate_nat, List.size_toArray, List.length_nil, Nat.zero_add]
          rw [Nat.mul_comm]
          rfl
        have h16 : sizeLine = 16777216 := sizeLine_eq
        show Str.length _ ≤ sizeLine
        unfold Str.length
        rw [e]
        omega
end
end Px

set_option Elab.async false
set_option linter.all false
set_option maxRecDepth 100000
set_option maxHeartbeats 4000000
namespace Px
open PySem PySem.Spec PyProof.Rows L2
section
variable {X : Cx} {T : List (Addr × Str)}
theorem op_mulVV : OpR X (binaryOp .Mult) (rOp (gl X T) mulV) := by
  refine OpR.by fun H x y Q ι mh px py sm r1 r2 o => ?_
  cases r1 with
  | int i =>
    cases r2 with
    | int j =>
      simp only [mulV] at o
      by_cases h : CMulW i j ∨ CMul i j
      · rw [if_pos h] at o
        rcases h with h | h
        · exact ⟨_, op_mulW, i, j, rfl, rfl, h, o.okI sm (.int _)⟩
        · exact ⟨_, op_mul, i, j, rfl, rfl, h, o.okI sm (.int _)⟩
      · rw [if_neg h] at o
        exact o.elim
    | _ => exact o.elim
  | str z =>
    cases r2 with
    | int n =>
      simp only [mulV] at o
      by_cases h : -(2 ^ 63) ≤ n ∧ n < 2 ^ 62 ∧ z.length * n.toNat ≤ 1000000
      · rw [if_pos h] at o
        exact ⟨_, op_mulStr, z, n, rfl, rfl, h.1, h.2.1, h.2.2, o.okI sm (.str _)⟩
      · rw [if_neg h] at o
        exact o.elim
    | _ => exact o.elim
  | @ref a n h =>
    cases r2 with
    | int k =>
      simp only [mulV] at o
      cases e : getM mh n with
      | none => rw [e] at o; exact o.elim
      | some xs =>
        rw [e] at o
        dsimp only at o
        by_cases hc : -(2 ^ 63) ≤ k ∧ k < 2 ^ 63 ∧ xs.length * k.toNat ≤ sizeLine
        · rw [if_pos hc] at o
          obtain ⟨a', vs, q1, q2, q3⟩ := getM_ob sm e
          rw [h] at q1; cases q1
          exact ⟨_, op_rep, a, k, vs, rfl, rfl, q2, hc.1, hc.2.1, by rw [q3.length]; exact hc.2.2, o.okNew sm (q3.rep _)⟩
        · rw [if_neg hc] at o
          exact o.elim
    | _ => exact o.elim
  | _ => exact o.elim
theorem op_divVV : OpR X (binaryOp .FloorDiv) (rOp (gl X T) divV) := by
  refine OpR.by fun H x y Q ι mh px py sm r1 r2 o => ?_
  cases r1 with
  | int i =>
    cases r2 with
    | int j =>
      simp only [divV] at o
      by_cases h : CDivW i j
      · rw [if_pos h] at o
        exact ⟨_, op_fdivW, i, j, rfl, rfl, h, o.okI sm (.int _)⟩
      · rw [if_neg h] at o
        by_cases h' : CDivN i j
        · rw [if_pos h'] at o
          exact ⟨_, op_fdivN, i, j, rfl, rfl, h', o.okI sm (.int _)⟩
        · rw [if_neg h'] at o
          exact o.elim
    | _ => exact o.elim
  | _ => exact o.elim
theorem op_modVV : OpR X (binaryOp .Mod) (rOp (gl X T) modV) := by
  refine OpR.by fun H x y Q ι mh px py sm r1 r2 o => ?_
  cases r1 with
  | int i =>
    cases r2 with
    | int j =>
      simp only [modV] at o
      by_cases h : 0 < j
      · rw [if_pos h] at o
        exact ⟨_, op_mod, i, j, rfl, rfl, h, o.okI sm (.int _)⟩
      · rw [if_neg h] at o
        by_cases h' : j ≠ 0
        · rw [if_pos h'] at o
          exact ⟨_, op_modN, i, j, rfl, rfl, h', o.okI sm (.int _)⟩
        · rw [if_neg h'] at o
          exact o.elim
    | _ => exact o.elim
  | _ => exact o.elim
theorem op_powVV : OpR X (binaryOp .Pow) (rOp (gl X T) powV) := by
  refine OpR.by fun H x y Q ι mh px py sm r1 r2 o => ?_
  cases r1 with
  | int i =>
    cases r2 with
    | int j =>
      simp only [powV] at o
      by_cases h : CPow i j
      · rw [if_pos h] at o
        exact ⟨_, op_pow, i, j, rfl, rfl, h, o.okI sm (.int _)⟩
      · rw [if_neg h] at o
        exact o.elim
    | _ => exact o.elim
  | _ => exact o.elim
theorem op_noV {f : Value → Value → Sem Value} : OpR X f (rOp (gl X T) fun _ _ _ => .stk) := OpR.by fun _ _ _ _ _ _ _ _ _ _ _ o => o.elim
theorem op_binV (op : Operator) : OpR X (binaryOp op) (rOp (gl X T) (binV op)) := by
  cases op with
  | Add => exact op_addV
  | Sub => exact op_subV
  | Mult => exact op_mulVV
  | FloorDiv => exact op_divVV
  | Mod => exact op_modVV
  | Pow => exact op_powVV
  | _ => exact op_noV
end

/-! ## comparisons -/
def mapO {α β : Type} (f : α → Option β) : List α → Option (List β)
  | [] => some []
  | x :: xs => match f x, mapO f xs with
    | some y, some ys => some (y :: ys)
    | _, _ => none
/-- a value as plain data, to a depth -/
def toD (mh : MH) : Nat → PV → Option PyData
  | 0, _ => none
  | k + 1, v => match v with
    | .non => some .none
    | .bl b => some (.bool b)
    | .int i => some (.int i)
    | .str x => some (.str x)
    | .tup xs => (mapO (toD mh k) xs).map .tuple
    | .ref n => match getL mh n with
      | some xs => (mapO (toD mh k) xs).map .list
      | none => none
    | .fn _ => none
theorem toD_dps {G : Glob} {ι : List Addr} {H : Hp} {mh : MH} {k : Nat} (ih : ∀ (v : V) (x : PV) (d : PyData), toD mh k x = some d → Rep G ι H v x → Dp G.K H v d) :
    ∀ (xs : List PV) (vs : List V) (ds : List PyData), mapO (toD mh k) xs = some ds → Reps G ι H vs xs → DpAll G.K H vs ds
  | [], _, _, e, .nil => by cases e; exact .nil
  | x :: xs, _, ds, e, .cons h r => by
    unfold mapO at e
    cases e1 : toD mh k x with
    | none => rw [e1] at e; cases e
    | some d =>
      cases e2 : mapO (toD mh k) xs with
      | none => rw [e1, e2] at e; cases e
      | some ds' =>
        rw [e1, e2] at e
        cases e
        exact .cons (ih _ _ _ e1 h) (toD_dps ih xs _ _ e2 r)
theorem toD_dp {G : Glob} {ι : List Addr} {H : Hp} {mh : MH} (s : Sim G ι H mh) : ∀ (k : Nat) (v : V) (x : PV) (d : PyData), toD mh k x = some d → Rep G ι H v x → Dp G.K H v d
  | 0, _, _, _, e, _ => by cases e
  | k + 1, v, x, d, e, r => by
    unfold toD at e
    cases r with
    | non => cases e; exact .non
    | bl b => cases e; exact .bl b
    | int i => cases e; exact .int i
    | str x => cases e; exact .str x
    | @tup a vs xs h r =>
      obtain ⟨ds, e1, e2⟩ := Option.map_eq_some_iff.mp e
      cases e2
      exact .tup h (toD_dps (toD_dp s k) xs vs ds e1 r)
    | @ref a n h =>
      dsimp only at e
      cases e0 : getL mh n with
      | none => rw [e0] at e; cases e
      | some xs =>
        rw [e0] at e
        obtain ⟨ds, e1, e2⟩ := Option.map_eq_some_iff.mp e
        cases e2
        obtain ⟨a', vs, q1, q2, q3⟩ := getL_ob s e0
        rw [h] at q1; cases q1
        exact .lst q2 (toD_dps (toD_dp s k) xs vs ds e1 q3)
    | fn h => cases e
def deepD : Nat := 60
/-- == of data -/
def eqD (x y : PV) (mh : MH) : Option Bool := match toD mh deepD x, toD mh deepD y with
  | some d, some e => if (SeqAt.shaped d && SeqAt.shaped e) = true then some (PyData.eqv d e) else none
  | _, _ => none
def eqO (x y : PV) (mh : MH) : Option Bool := match x, y with
  | .int i, .int j => some (decide (i = j))
  | .str i, .str j => some (decide (i = j))
  | .bl i, .bl j => some (decide (i = j))
  | .non, .non => some true
  | _, _ => eqD x y mh
def okB (o : Option Bool) (mh : MH) : R PV := match o with
  | some b => .ok (.bl b) mh
  | none => .stk
def eqPV (x y : PV) (mh : MH) : R PV := okB (eqO x y mh) mh
def nePV (x y : PV) (mh : MH) : R PV := okB ((eqO x y mh).map not) mh
def ltPV (x y : PV) (mh : MH) : R PV := match x, y with
  | .int i, .int j => .ok (.bl (decide (i < j))) mh
  | .str i, .str j => .ok (.bl (decide (i.cps.toList < j.cps.toList))) mh
  | _, _ => .stk
def lePV (x y : PV) (mh : MH) : R PV := match x, y with
  | .int i, .int j => .ok (.bl (decide (i ≤ j))) mh
  | _, _ => .stk
def gtPV (x y : PV) (mh : MH) : R PV := match x, y with
  | .int i, .int j => .ok (.bl (decide (j < i))) mh
  | _, _ => .stk
def gePV (x y : PV) (mh : MH) : R PV := match x, y with
  | .int i, .int j => .ok (.bl (decide (j ≤ i))) mh
  | _, _ => .stk
def PV.isNon : PV → Bool
  | .non => true
  | _ => false
def PV.isBl (b : Bool) : PV → Bool
  | .bl c => c == b
  | _ => false
/-- x is y: y None or a truth -/
def isPV (x y : PV) (mh : MH) : R PV := match y with
  | .non => .ok (.bl x.isNon) mh
  | .bl b => .ok (.bl (x.isBl b)) mh
  | _ => .stk
def isNotPV (x y : PV) (mh : MH) : R PV := match y with
  | .non => .ok (.bl (!x.isNon)) mh
  | .bl b => .ok (.bl (!x.isBl b)) mh
  | _ => .stk
def flatP : PV → Bool
  | .non => true
  | .bl _ => true
  | .int _ => true
  | .str _ => true
  | _ => false
def eqFlat : PV → PV → Bool
  | .non, .non => true
  | .bl a, .bl b => a == b
  | .bl a, .int b => (if a then 1 else 0) == b
  | .int a, .bl b => a == (if b then 1 else 0)
  | .int a, .int b => a == b
  | .str a, .str b => a == b
  | _, _ => false
/-- what a container holds -/
def itemsP (y : PV) (mh : MH) : Option (List PV) := match y with
  | .tup xs => some xs
  | .ref n => getL mh n
  | _ => none
def inO (x y : PV) (mh : MH) : Option Bool := match x, y with
  | .str i, .str j => some (!(Builtin.Str.occurrences j i 0 j.length 1).isEmpty)
  | _, _ => match itemsP y mh with
    | none => none
    | some xs => if (flatP x && xs.all flatP) = true then some (xs.any fun z => eqFlat z x) else match y with
      | .ref _ => match toD mh deepD x, toD mh deepD y with
        | some d, some (.list ds) => if (SeqAt.shaped d && SeqAt.shaped (.list ds)) = true then some (ds.any fun z => PyData.eqv z d) else none
        | _, _ => none
      | _ => none
def inPV (x y : PV) (mh : MH) : R PV := okB (inO x y mh) mh
def notInPV (x y : PV) (mh : MH) : R PV := okB ((inO x y mh).map not) mh
def cmpV (op : CmpOp) : PV → PV → MH → R PV := match op with
  | .Eq => eqPV
  | .NotEq => nePV
  | .Lt => ltPV
  | .LtE => lePV
  | .Gt => gtPV
  | .GtE => gePV
  | .Is => isPV
  | .IsNot => isNotPV
  | .In => inPV
  | .NotIn => notInPV
theorem OutE.okB {G : Glob} {E : XK} {ι : List Addr} {H : Hp} {o : Option Bool} {mh : MH} {Q : VK} (h : OutE G E ι H (okB o mh) Q) (s : Sim G ι H mh) : ∃ b, o = some b ∧ Q (.bl b) H := by
  cases o with
  | none => exact h.elim
  | some b => exact ⟨b, rfl, h.okI s (.bl b)⟩
theorem eqD_some {x y : PV} {mh : MH} {b : Bool} (h : eqD x y mh = some b) : ∃ d e, toD mh deepD x = some d ∧ toD mh deepD y = some e ∧ SeqAt.shaped d = true ∧ SeqAt.shaped e = true ∧ b = PyData.eqv d e := by
  unfold eqD at h
  cases e1 : toD mh deepD x with
  | none => rw [e1] at h; cases h
  | some d =>
    cases e2 : toD mh deepD y with
    | none => rw [e1, e2] at h; cases h
    | some e =>
      rw [e1, e2] at h
      dsimp only at h
      split at h
      · rename_i hs
        rw [Bool.and_eq_true] at hs
        cases h
        exact ⟨d, e, rfl, rfl, hs.1, hs.2, rfl⟩
      · cases h
theorem flat_rep {G : Glob} {ι : List Addr} {H : Hp} {v : V} {x : PV} (r : Rep G ι H v x) (f : flatP x = true) : flatV v = true := by
  cases r <;> first | rfl | cases f
theorem flat_reps {G : Glob} {ι : List Addr} {H : Hp} : ∀ {vs : List V} {xs : List PV}, Reps G ι H vs xs → xs.all flatP = true → vs.all flatV = true
  | _, _, .nil, _ => rfl
  | _, _, .cons h r, f => by
    rw [List.all_cons, Bool.and_eq_true] at f ⊢
    exact ⟨flat_rep h f.1, flat_reps r f.2⟩
theorem eqFlat_rep {G : Glob} {ι : List Addr} {H : Hp} {v w : V} {x y : PV} (r : Rep G ι H v x) (q : Rep G ι H w y) (f : flatP x = true) (g : flatP y = true) : eqV v w = eqFlat x y := by
  cases r <;> cases q <;> first | rfl | (cases f; done) | (cases g; done) | (exact absurd (show false = true from f) Bool.false_ne_true) | (exact absurd (show false = true from g) Bool.false_ne_true)
theorem any_rep {G : Glob} {ι : List Addr} {H : Hp} {w : V} {y : PV} (q : Rep G ι H w y) (g : flatP y = true) : ∀ {vs : List V} {xs : List PV}, Reps G ι H vs xs → xs.all flatP = true → (vs.any fun z => eqV z w) = xs.any fun z => eqFlat z y
  | _, _, .nil, _ => rfl
  | _, _, .cons h r, f => by
    rw [List.all_cons, Bool.and_eq_true] at f
    rw [List.any_cons, List.any_cons, eqFlat_rep h q f.1 g, any_rep q g r f.2]
theorem Rep.isNon {G : Glob} {ι : List Addr} {H : Hp} {v : V} {x : PV} (r : Rep G ι H v x) : decide (v = .non) = x.isNon := by
  cases r <;> simp [PV.isNon]
theorem is_bool_gen {M : Model} {A : Around} {E : Value → Shared → Prop} {s : Shared} {Q : Value → Shared → Prop} {v : Value} {b : Bool} (hb : ∀ id, v ≠ .builtin id) (h : Q (.bool (v == .bool b)) s) : wpAny M A (compareOp .Is v (.bool b)) Q E s := by
  cases v <;> first | exact wpAny_pure h | exact (hb _ rfl).elim
theorem isnot_bool_gen {M : Model} {A : Around} {E : Value → Shared → Prop} {s : Shared} {Q : Value → Shared → Prop} {v : Value} {b : Bool} (hb : ∀ id, v ≠ .builtin id) (h : Q (.bool (!(v == .bool b))) s) : wpAny M A (compareOp .IsNot v (.bool b)) Q E s := by
  cases v <;> first | exact wpAny_pure h | exact (hb _ rfl).elim
theorem RelV.noB {x : V} {v : Value} (r : RelV x v) : ∀ id, v ≠ .builtin id := by
  intro id z
  subst z
  cases x with
  | non => cases r
  | bl _ => cases r
  | int _ => obtain ⟨t, e⟩ := r; cases e
  | str _ => obtain ⟨t, e⟩ := r; cases e
  | byt _ => obtain ⟨t, e⟩ := r; cases e
  | flt _ => obtain ⟨t, e⟩ := r; cases e
  | ref _ => cases r
  | ty _ => cases r
theorem Rep.isBl {G : Glob} {ι : List Addr} {H : Hp} {v : V} {x : PV} (r : Rep G ι H v x) {u : Value} (q : RelV v u) (b : Bool) : (u == .bool b) = x.isBl b := by
  cases r with
  | non => cases q; rfl
  | bl c =>
    cases q
    show (Value.bool c == Value.bool b) = (c == b)
    cases c <;> cases b <;> rfl
  | int i => obtain ⟨t, rfl⟩ := q; rfl
  | str z => obtain ⟨t, rfl⟩ := q; rfl
  | tup h r => cases q; rfl
  | ref h => cases q; rfl
  | fn h => cases q; rfl
section
variable {X : Cx} {T : List (Addr × Str)}
theorem op_eqV (hu : X.A.units + 65 < cLine) : OpR X (compareOp .Eq) (rOp (gl X T) eqPV) := by
  refine OpR.by fun H x y Q ι mh px py sm r1 r2 o => ?_
  obtain ⟨b, e, q⟩ := OutE.okB o sm
  have gen : eqD px py mh = some b → ∃ r, OpR X (compareOp .Eq) r ∧ r x y H Q := fun e => by
    obtain ⟨d, e', h1, h2, h3, h4, rfl⟩ := eqD_some e
    exact ⟨_, op_eqD (by omega), d, e', toD_dp sm _ _ _ _ h1 r1, toD_dp sm _ _ _ _ h2 r2, h3, h4, q⟩
  unfold eqO at e
  split at e
  · cases e; cases r1; cases r2; exact ⟨_, op_eq, rfl, by simpa using q⟩
  · cases e; cases r1; cases r2; exact ⟨_, op_eq, rfl, by simpa using q⟩
  · cases e; cases r1; cases r2; exact ⟨_, op_eq, rfl, by simpa using q⟩
  · cases e; cases r1; cases r2; exact ⟨_, op_eq, rfl, by simpa using q⟩
  · exact gen e
theorem op_neV (hu : X.A.units + 65 < cLine) : OpR X (compareOp .NotEq) (rOp (gl X T) nePV) := by
  refine OpR.by fun H x y Q ι mh px py sm r1 r2 o => ?_
  obtain ⟨b, e0, q⟩ := OutE.okB o sm
  obtain ⟨b', e, e1⟩ := Option.map_eq_some_iff.mp e0
  subst e1
  clear e0
  have gen : eqD px py mh = some b' → ∃ r, OpR X (compareOp .NotEq) r ∧ r x y H Q := fun e => by
    obtain ⟨d, e', h1, h2, h3, h4, rfl⟩ := eqD_some e
    exact ⟨_, op_neD (by omega), d, e', toD_dp sm _ _ _ _ h1 r1, toD_dp sm _ _ _ _ h2 r2, h3, h4, q⟩
  unfold eqO at e
  split at e
  · cases e; cases r1; cases r2; exact ⟨_, op_ne, rfl, by simpa using q⟩
  · cases e; cases r1; cases r2; exact ⟨_, op_ne, rfl, by simpa using q⟩
  · cases e; cases r1; cases r2; exact ⟨_, op_ne, rfl, by simpa using q⟩
  · cases e; cases r1; cases r2; exact ⟨_, op_ne, rfl, by simpa using q⟩
  · exact gen e
theorem op_ltV : OpR X (compareOp .Lt) (rOp (gl X T) ltPV) := by
  refine OpR.by fun H x y Q ι mh px py sm r1 r2 o => ?_
  cases r1 <;> first | exact o.elim | (cases r2 <;> first | exact o.elim | exact ⟨_, op_lt, _, _, rfl, rfl, o.okI sm (.bl _)⟩ | exact ⟨_, op_lt_str, _, _, rfl, rfl, o.okI sm (.bl _)⟩)
theorem op_leV : OpR X (compareOp .LtE) (rOp (gl X T) lePV) := by
  refine OpR.by fun H x y Q ι mh px py sm r1 r2 o => ?_
  cases r1 <;> first | exact o.elim | (cases r2 <;> first | exact o.elim | exact ⟨_, op_le, _, _, rfl, rfl, o.okI sm (.bl _)⟩)
theorem op_gtV : OpR X (compareOp .Gt) (rOp (gl X T) gtPV) := by
  refine OpR.by fun H x y Q ι mh px py sm r1 r2 o => ?_
  cases r1 <;> first | exact o.elim | (cases r2 <;> first | exact o.elim | exact ⟨_, op_gt, _, _, rfl, rfl, o.okI sm (.bl _)⟩)
theorem op_geV : OpR X (compareOp .GtE) (rOp (gl X T) gePV) := by
  refine OpR.by fun H x y Q ι mh px py sm r1 r2 o => ?_
  cases r1 <;> first | exact o.elim | (cases r2 <;> first | exact o.elim | exact ⟨_, op_ge, _, _, rfl, rfl, o.okI sm (.bl _)⟩)
theorem op_isV : OpR X (compareOp .Is) (rOp (gl X T) isPV) := by
  intro pins s σ H x y v u Q I rx ry ⟨ι, mh, px, py, sm, r1, r2, o⟩
  cases r2 with
  | non =>
    cases ry
    have q := OutE.okI o sm (.bl _)
    exact is_none_gen ⟨.bl _, H, I, by rw [rx.none_iff, r1.isNon]; rfl, q⟩
  | bl b =>
    cases ry
    have q := OutE.okI o sm (.bl _)
    exact is_bool_gen (RelV.noB rx) ⟨.bl _, H, I, by rw [r1.isBl rx b]; rfl, q⟩
  | _ => exact (show False from o).elim
theorem op_isNotV : OpR X (compareOp .IsNot) (rOp (gl X T) isNotPV) := by
  intro pins s σ H x y v u Q I rx ry ⟨ι, mh, px, py, sm, r1, r2, o⟩
  cases r2 with
  | non =>
    cases ry
    have q := OutE.okI o sm (.bl _)
    exact isnot_none_gen ⟨.bl _, H, I, by rw [rx.none_iff, r1.isNon]; rfl, q⟩
  | bl b =>
    cases ry
    have q := OutE.okI o sm (.bl _)
    exact isnot_bool_gen (RelV.noB rx) ⟨.bl _, H, I, by rw [r1.isBl rx b]; rfl, q⟩
  | _ => exact (show False from o).elim
theorem itemsP_ob {G : Glob} {ι : List Addr} {H : Hp} {mh : MH} {y : V} {py : PV} {xs : List PV} (s : Sim G ι H mh) (r : Rep G ι H y py) (h : itemsP py mh = some xs) : ∃ a vs, y = .ref a ∧ (SqL G.K H a vs ∨ SqT G.K H a vs) ∧ Reps G ι H vs xs := by
  cases r with
  | tup h' r =>
    cases h
    exact ⟨_, _, rfl, .inr h', r⟩
  | @ref a n h' =>
    obtain ⟨a', vs, q1, q2, q3⟩ := getL_ob s (show getL mh n = some xs from h)
    rw [h'] at q1; cases q1
    exact ⟨_, _, rfl, .inl q2, q3⟩
  | _ => cases h
theorem inO_by {G : Glob} {ι : List Addr} {H : Hp} {mh : MH} {x y : V} {px py : PV} {b : Bool} (sm : Sim G ι H mh) (r1 : Rep G ι H x px) (r2 : Rep G ι H y py) (e : inO px py mh = some b) :
    (∃ i j, x = .str i ∧ y = .str j ∧ b = (!(Builtin.Str.occurrences j i 0 j.length 1).isEmpty)) ∨
    (∃ p vs, y = .ref p ∧ (SqL G.K H p vs ∨ SqT G.K H p vs) ∧ flatV x = true ∧ vs.all flatV = true ∧ b = inV x vs) ∨
    (∃ d ds, Dp G.K H x d ∧ Dp G.K H y (.list ds) ∧ SeqAt.shaped d = true ∧ SeqAt.shaped (.list ds) = true ∧ b = ds.any fun z => PyData.eqv z d) := by
  unfold inO at e
  split at e
  · cases e; cases r1; cases r2
    exact .inl ⟨_, _, rfl, rfl, rfl⟩
  · cases e1 : itemsP py mh with
    | none => rw [e1] at e; cases e
    | some xs =>
      rw [e1] at e
      dsimp only at e
      split at e
      · rename_i hs
        rw [Bool.and_eq_true] at hs
        cases e
        obtain ⟨a, vs, rfl, q1, q2⟩ := itemsP_ob sm r2 e1
        exact .inr (.inl ⟨a, vs, rfl, q1, flat_rep r1 hs.1, flat_reps q2 hs.2, (any_rep r1 hs.1 q2 hs.2).symm⟩)
      · split at e
        · split at e
          · rename_i d ds h1 h2
            split at e
            · rename_i hs
              rw [Bool.and_eq_true] at hs
              cases e
              exact .inr (.inr ⟨d, ds, toD_dp sm _ _ _ _ h1 r1, toD_dp sm _ _ _ _ h2 r2, hs.1, hs.2, rfl⟩)
            · cases e
          · cases e
        · cases e
theorem op_inVV (hu : X.A.units + 65 < cLine) : OpR X (compareOp .In) (rOp (gl X T) inPV) := by
  refine OpR.by fun H x y Q ι mh px py sm r1 r2 o => ?_
  obtain ⟨b, e, q⟩ := OutE.okB o sm
  rcases inO_by sm r1 r2 e with ⟨i, j, rfl, rfl, rfl⟩ | ⟨p, vs, rfl, h1, h2, h3, rfl⟩ | ⟨d, ds, h1, h2, h3, h4, rfl⟩
  · exact ⟨_, op_in_str, i, j, rfl, rfl, q⟩
  · exact ⟨_, op_in_seq, p, vs, rfl, h1, h2, h3, q⟩
  · exact ⟨_, op_inD hu, d, ds, h1, h2, h3, h4, q⟩
theorem op_notInVV (hu : X.A.units + 65 < cLine) : OpR X (compareOp .NotIn) (rOp (gl X T) notInPV) := by
  refine OpR.by fun H x y Q ι mh px py sm r1 r2 o => ?_
  obtain ⟨b, e0, q⟩ := OutE.okB o sm
  obtain ⟨b', e, e1⟩ := Option.map_eq_some_iff.mp e0
  subst e1
  clear e0
  rcases inO_by sm r1 r2 e with ⟨i, j, rfl, rfl, rfl⟩ | ⟨p, vs, rfl, h1, h2, h3, rfl⟩ | ⟨d, ds, h1, h2, h3, h4, rfl⟩
  · exact ⟨_, op_notin_str, i, j, rfl, rfl, q⟩
  · exact ⟨_, op_notIn_seq, p, vs, rfl, h1, h2, h3, q⟩
  · exact ⟨_, op_notInD hu, d, ds, h1, h2, h3, h4, q⟩
theorem op_cmpV (hu : X.A.units + 65 < cLine) (op : CmpOp) : OpR X (compareOp op) (rOp (gl X T) (cmpV op)) := by
  cases op with
  | Eq => exact op_eqV hu
  | NotEq => exact op_neV hu
  | Lt => exact op_ltV
  | LtE => exact op_leV
  | Gt => exact op_gtV
  | GtE => exact op_geV
  | Is => exact op_isV
  | IsNot => exact op_isNotV
  | In => exact op_inVV hu
  | NotIn => exact op_notInVV hu
end
end Px

set_option Elab.async false
set_option linter.all false
set_option maxRecDepth 100000
set_option maxHeartbeats 4000000
namespace Px
open PySem PySem.Spec PyProof.Rows L2

/-! ## expressions: the combinators -/
def eVar (i : Nat) : ES := fun ps mh => match ps[i]? with
  | some (some x) => .ok x mh
  | _ => .stk
def eC (x : PV) : ES := fun _ mh => .ok x mh
def eBin (op : Operator) (a b : ES) : ES := fun ps mh => (a ps mh).bind fun x mh => (b ps mh).bind fun y mh => binV op x y mh
def eCmp (op : CmpOp) (a b : ES) : ES := fun ps mh => (a ps mh).bind fun x mh => (b ps mh).bind fun y mh => cmpV op x y mh
abbrev TSm := PSt → MH → R Bool
def truthP (x : PV) (mh : MH) : R Bool := match x with
  | .non => .ok false mh
  | .bl b => .ok b mh
  | .int i => .ok (i != 0) mh
  | .str y => if y.length ≤ sizeLine then .ok ((y.length : Int) != 0) mh else .stk
  | .tup xs => .ok (!xs.isEmpty) mh
  | .ref n => match getL mh n with
    | some xs => .ok (!xs.isEmpty) mh
    | none => .stk
  | .fn _ => .stk
def boolP (x : PV) (mh : MH) : R Bool := match x with
  | .bl b => .ok b mh
  | _ => .stk
def tTru (a : ES) : TSm := fun ps mh => (a ps mh).bind truthP
def tBl (a : ES) : TSm := fun ps mh => (a ps mh).bind boolP
def tNotP (a : TSm) : TSm := fun ps mh => (a ps mh).bind fun b mh => .ok (!b) mh
def tAndP (a b : TSm) : TSm := fun ps mh => (a ps mh).bind fun c mh => if c = true then b ps mh else .ok false mh
def tOrP (a b : TSm) : TSm := fun ps mh => (a ps mh).bind fun c mh => if c = true then .ok true mh else b ps mh
def eAnd (a b : ES) : ES := fun ps mh => (a ps mh).bind fun x mh => (truthP x mh).bind fun c mh => if c = true then b ps mh else .ok x mh
def eOr (a b : ES) : ES := fun ps mh => (a ps mh).bind fun x mh => (truthP x mh).bind fun c mh => if c = true then .ok x mh else b ps mh
def eNot (a : ES) : ES := fun ps mh => (a ps mh).bind fun x mh => (truthP x mh).bind fun c mh => .ok (.bl (!c)) mh
def eNeg (a : ES) : ES := fun ps mh => (a ps mh).bind fun x mh => match x with
  | .int i => .ok (.int (-i)) mh
  | _ => .stk
def eIf (c : TSm) (a b : ES) : ES := fun ps mh => (c ps mh).bind fun k mh => if k = true then a ps mh else b ps mh
def aNil : AS := fun _ mh => .ok [] mh
def aCons (a : ES) (r : AS) : AS := fun ps mh => (a ps mh).bind fun x mh => (r ps mh).bind fun xs mh => .ok (x :: xs) mh
def eTup (a : AS) : ES := fun ps mh => (a ps mh).bind fun xs mh => if xs.length ≤ sizeLine then .ok (.tup xs) mh else .stk
def eLst (a : AS) : ES := fun ps mh => (a ps mh).bind fun xs mh => if xs.length ≤ sizeLine then newL xs mh else .stk
def ixP (x y : PV) (mh : MH) : R PV := match x, y with
  | .str z, .int i => if z.length ≤ sizeLine then (match atI z.cps.toList i with
    | some c => .ok (.str ⟨#[c]⟩) mh
    | none => .stk) else .stk
  | _, .int i => match itemsP x mh with
    | some xs => match atI xs i with
      | some v => .ok v mh
      | none => .stk
    | none => .stk
  | _, _ => .stk
def eIx (a b : ES) : ES := fun ps mh => (a ps mh).bind fun x mh => (b ps mh).bind fun y mh => ixP x y mh
/-- a part of a slice -/
abbrev OS := PSt → MH → R (Option Int)
def cutP (xs : List PV) (lo hi : Option Int) : List PV := (xs.drop (HT.sIx xs.length 0 lo)).take (HT.sIx xs.length xs.length hi - HT.sIx xs.length 0 lo)
def sliceP (x : PV) (lo hi : Option Int) (mh : MH) : R PV := match x with
  | .tup xs => .ok (.tup (cutP xs lo hi)) mh
  | .ref n => match getL mh n with
    | some xs => newL (cutP xs lo hi) mh
    | none => .stk
  | .str z => if z.length ≤ sizeLine then .ok (.str (cutS z lo hi)) mh else .stk
  | _ => .stk
def partP (x : PV) (mh : MH) : R (Option Int) := match x with
  | .int i => .ok (some i) mh
  | _ => .stk
def oNone : OS := fun _ mh => .ok none mh
def oSome (a : ES) : OS := fun ps mh => (a ps mh).bind partP
def eSl (a : ES) (lo hi : OS) : ES := fun ps mh => (a ps mh).bind fun x mh => (lo ps mh).bind fun l mh => (hi ps mh).bind fun h mh => sliceP x l h mh
/-- a call, the callee's function of the arguments -/
def eCall (f : List PV → MH → R PV) (a : AS) : ES := fun ps mh => (a ps mh).bind f

abbrev CE (X : Cx) (T : List (Addr × Str)) (W : WX) (e : Expr) (m : ES) : Prop := PE X e (rdE (gl X T) W m)
abbrev CA (X : Cx) (T : List (Addr × Str)) (W : WX) (e : List Expr) (m : AS) : Prop := PA X e (rdA (gl X T) W m)
abbrev CT (X : Cx) (T : List (Addr × Str)) (W : WX) (e : Expr) (m : TSm) : Prop := PT X e (rdT (gl X T) W m)

section
variable {X : Cx} {T : List (Addr × Str)} {W : WX} {a b c : Expr} {ma mb mc : ES} {pos : Pos}
theorem ce_var {i : Nat} {x : Str} (hN : X.N[i]? = some x) (hv : Vis X.env.scope x) (hd : (x == ("__debug__" : Str)) = false) (hcd : (x == ("__classdict__" : Str)) = false) : CE X T W (.Name x pos) (eVar i) := by
  refine (pe_var hN hv hd hcd).mono fun σ H Q ⟨ι, mh, ps, sm, st, o⟩ => ?_
  unfold eVar at o
  cases e : ps[i]? with
  | none => rw [e] at o; exact o.elim
  | some z =>
    cases z with
    | none => rw [e] at o; exact o.elim
    | some x =>
      rw [e] at o
      obtain ⟨v, h1, h2⟩ := st.at_ i x e
      exact ⟨v, h1, o.okI sm h2⟩
theorem ce_const {e : Expr} {v : V} {x : PV} (h : PE X e (tC v)) (r : ∀ ι H, Rep (gl X T) ι H v x) : CE X T W e (eC x) :=
  h.mono fun σ H Q ⟨ι, mh, ps, sm, st, o⟩ => OutE.okI (x := x) o sm (r ι H)
theorem ce_int {i j} : CE X T W (.Constant (.int i) j pos) (eC (.int i)) := ce_const pe_int fun _ _ => .int i
theorem ce_bl {i j} : CE X T W (.Constant (.bool i) j pos) (eC (.bl i)) := ce_const pe_bl fun _ _ => .bl i
theorem ce_non {j} : CE X T W (.Constant .none j pos) (eC .non) := ce_const pe_non fun _ _ => .non
theorem ce_str {i j} : CE X T W (.Constant (.str i) j pos) (eC (.str i)) := ce_const pe_str fun _ _ => .str i
/-- two parts, then an operation -/
theorem rd_two {W : WX} {G : Glob} {f : PV → PV → MH → R PV} {r : R2} (hr : ∀ H x y Q, rOp G f x y H Q → r x y H Q) (hf : ∀ x y mh c w mh', f x y mh ≠ .exc c w mh') {σ : St} {H : Hp} {Q : VK}
    (h : rdE G W (fun ps mh => (ma ps mh).bind fun x mh => (mb ps mh).bind fun y mh => f x y mh) σ H Q) : tOp r (rdE G W ma) (rdE G W mb) σ H Q := by
  obtain ⟨ι, mh, ps, sm, st, o⟩ := h
  refine ⟨ι, mh, ps, sm, st, (OutE.bindE o).imp fun x H1 ⟨ι1, mh1, px, g1, s1, r1, o1⟩ => ?_⟩
  refine ⟨ι1, mh1, ps, s1, st.mono g1, (OutE.bindE o1).imp fun y H2 ⟨ι2, mh2, py, g2, s2, r2, o2⟩ => ?_⟩
  refine hr _ _ _ _ ⟨ι2, mh2, px, py, s2, r1.mono g2, r2, ?_⟩
  cases e : f px py mh2 with
  | ok x mh => rw [e] at o2; exact o2
  | exc c w mh => exact (hf _ _ _ _ _ _ e).elim
  | stk => rw [e] at o2; exact o2
theorem okB_ne {o : Option Bool} {mh : MH} {c w mh'} : okB o mh ≠ .exc c w mh' := by
  cases o <;> simp [okB]
theorem newL_ne {xs : List PV} {mh : MH} {c w mh'} : newL xs mh ≠ .exc c w mh' := by simp [newL]
theorem binV_ne {op : Operator} {x y : PV} {mh : MH} {c w mh'} : binV op x y mh ≠ .exc c w mh' := by
  cases op <;> simp only [binV] <;> first
    | (intro h; cases h; done)
    | (unfold addV; repeat' split) <;> first | exact newL_ne | (intro h; cases h; done)
    | (unfold subV; repeat' split) <;> first | exact newL_ne | (intro h; cases h; done)
    | (unfold mulV; repeat' split) <;> first | exact newL_ne | (intro h; cases h; done)
    | (unfold divV; repeat' split) <;> first | exact newL_ne | (intro h; cases h; done)
    | (unfold modV; repeat' split) <;> first | exact newL_ne | (intro h; cases h; done)
    | (unfold powV; repeat' split) <;> first | exact newL_ne | (intro h; cases h; done)
theorem cmpV_ne {op : CmpOp} {x y : PV} {mh : MH} {c w mh'} : cmpV op x y mh ≠ .exc c w mh' := by
  cases op <;> simp only [cmpV] <;> first
    | exact okB_ne
    | (unfold ltPV; repeat' split) <;> (intro h; cases h; done)
    | (unfold lePV; repeat' split) <;> (intro h; cases h; done)
    | (unfold gtPV; repeat' split) <;> (intro h; cases h; done)
    | (unfold gePV; repeat' split) <;> (intro h; cases h; done)
    | (unfold isPV; repeat' split) <;> (intro h; cases h; done)
    | (unfold isNotPV; repeat' split) <;> (intro h; cases h; done)
theorem ce_bin {op : Operator} (ha : CE X T W a ma) (hb : CE X T W b mb) : CE X T W (.BinOp a op b pos) (eBin op ma mb) :=
  (pe_op (op_binV (T := T) op) ha hb).mono fun σ H Q h => rd_two (fun _ _ _ _ q => q) (fun _ _ _ _ _ _ => binV_ne) h
theorem ce_cmp {op : CmpOp} (hu : X.A.units + 65 < cLine) (ha : CE X T W a ma) (hb : CE X T W b mb) (hm : behindInMarks op b = false) : CE X T W (.Compare a [op] [b] pos) (eCmp op ma mb) :=
  (pe_cmpR (op_cmpV (T := T) hu op) ha hb hm).mono fun σ H Q h => rd_two (fun _ _ _ _ q => q) (fun _ _ _ _ _ _ => cmpV_ne) h
/-! truth -/
theorem truth_ok {G : Glob} {ι : List Addr} {H : Hp} {mh : MH} {x : V} {px : PV} (s : Sim G ι H mh) (r : Rep G ι H x px) {E : XK} {Q : Bool → Hp → Prop} (o : OutT G E ι H (truthP px mh) Q) : ∃ k, TruV G.K x H k ∧ truthP px mh = .ok k mh ∧ Q k H := by
  cases r with
  | non => exact ⟨_, rfl, rfl, o H ι (Gr.refl _ _) s⟩
  | bl b => exact ⟨_, rfl, rfl, o H ι (Gr.refl _ _) s⟩
  | int i => exact ⟨_, rfl, rfl, o H ι (Gr.refl _ _) s⟩
  | str z =>
    unfold truthP at o ⊢
    by_cases h : z.length ≤ sizeLine
    · simp only [if_pos h] at o ⊢
      exact ⟨_, ⟨h, rfl⟩, rfl, o H ι (Gr.refl _ _) s⟩
    · simp only [if_neg h] at o
      exact o.elim
  | @tup a vs xs h r => exact ⟨_, .inr (.inl ⟨vs, h, by cases r <;> rfl⟩), rfl, o H ι (Gr.refl _ _) s⟩
  | @ref a n h =>
    unfold truthP at o ⊢
    simp only at o ⊢
    cases e : getL mh n with
    | none => rw [e] at o; exact o.elim
    | some xs =>
      rw [e] at o
      obtain ⟨a', vs, q1, q2, q3⟩ := getL_ob s e
      rw [h] at q1; cases q1
      exact ⟨_, .inl ⟨vs, q2, by cases q3 <;> rfl⟩, rfl, o H ι (Gr.refl _ _) s⟩
  | fn h => exact o.elim
theorem OutT.imp {G : Glob} {E : XK} {ι : List Addr} {H : Hp} {r : R Bool} {Q Q' : Bool → Hp → Prop} (o : OutT G E ι H r Q) (h : ∀ v H', Q v H' → Q' v H') : OutT G E ι H r Q' := by
  cases r with
  | ok x mh => exact fun H' ι' g s => h x H' (o H' ι' g s)
  | exc c w mh => exact o
  | stk => exact o
theorem OutA.imp {G : Glob} {E : XK} {ι : List Addr} {H : Hp} {r : R (List PV)} {Q Q' : List V → Hp → Prop} (o : OutA G E ι H r Q) (h : ∀ v H', Q v H' → Q' v H') : OutA G E ι H r Q' := by
  cases r with
  | ok x mh => exact fun v H' ι' g s p => h v H' (o v H' ι' g s p)
  | exc c w mh => exact o
  | stk => exact o
theorem ct_tru (ha : CE X T W a ma) (he : ∀ whole, isTrue a X.env whole = (do let v ← whole; standAt a.pos; holding [v] (truthy v))) : CT X T W a (tTru ma) := by
  refine (pt_truth ha he).mono fun σ H Q ⟨ι, mh, ps, sm, st, o⟩ => ?_
  refine ⟨ι, mh, ps, sm, st, (OutT.bindE o).imp fun x H1 ⟨ι1, mh1, px, g1, s1, r1, o1⟩ => ?_⟩
  obtain ⟨k, h1, _, h2⟩ := truth_ok s1 r1 o1
  exact ⟨k, h1, h2⟩
theorem boolP_ok {G : Glob} {ι : List Addr} {H : Hp} {mh : MH} {x : V} {px : PV} (s : Sim G ι H mh) (r : Rep G ι H x px) {E : XK} {Q : Bool → Hp → Prop} (o : OutT G E ι H (boolP px mh) Q) : ∃ k, x = .bl k ∧ Q k H := by
  cases r <;> first | exact o.elim | exact ⟨_, rfl, o H ι (Gr.refl _ _) s⟩
theorem ct_cmp {op : CmpOp} (hu : X.A.units + 65 < cLine) (ha : CE X T W a ma) (hb : CE X T W b mb) (hm : behindInMarks op b = false) : CT X T W (.Compare a [op] [b] pos) (tBl (eCmp op ma mb)) := by
  refine (pt_cmpR (op_cmpV (T := T) hu op) ha hb hm).mono fun σ H Q h => ?_
  obtain ⟨ι, mh, ps, sm, st, o⟩ := h
  show tOp _ _ _ σ H _
  refine rd_two (f := cmpV op) (fun _ _ _ _ q => q) (fun _ _ _ _ _ _ => cmpV_ne) ⟨ι, mh, ps, sm, st, ?_⟩
  refine (OutT.bindE o).imp fun x H1 ⟨ι1, mh1, px, g1, s1, r1, o1⟩ => ?_
  exact boolP_ok s1 r1 o1
theorem ct_not {m : TSm} (ha : CT X T W a m) : CT X T W (.UnaryOp .Not a pos) (tNotP m) := by
  refine (pt_not ha).mono fun σ H Q ⟨ι, mh, ps, sm, st, o⟩ => ?_
  refine ⟨ι, mh, ps, sm, st, (OutT.bindT o).imp fun k H1 ⟨ι1, mh1, g1, s1, o1⟩ => o1 H1 ι1 (Gr.refl _ _) s1⟩
/-- a test whatever its whole is -/
abbrev CW (X : Cx) (T : List (Addr × Str)) (W : WX) (e : Expr) (m : TSm) : Prop := PW X e (rdT (gl X T) W m)
theorem PW.mono {e : Expr} {t t' : TT} (h : PW X e t) (q : ∀ σ H Q, t' σ H Q → t σ H Q) : PW X e t' := ⟨fun wh pins s σ H Q I hw => h.run wh pins s σ H Q I (q σ H Q hw)⟩
variable {rest : List Expr} {m1 m2 : TSm}
theorem cw_and1 (ha : CT X T W a m1) : CW X T W (.BoolOp .And [a] pos) m1 := pw_and1 ha
theorem cw_or1 (ha : CT X T W a m1) : CW X T W (.BoolOp .Or [a] pos) m1 := pw_or1 ha
theorem cw_and (ha : CT X T W a m1) (hb : CW X T W (.BoolOp .And (b :: rest) pos) m2) : CW X T W (.BoolOp .And (a :: b :: rest) pos) (tAndP m1 m2) := by
  refine PW.mono (pw_and ha hb) fun σ H Q ⟨ι, mh, ps, sm, st, o⟩ => ?_
  refine ⟨ι, mh, ps, sm, st, (OutT.bindT o).imp fun k H1 ⟨ι1, mh1, g1, s1, o1⟩ => ?_⟩
  cases k with
  | true => exact ⟨ι1, mh1, ps, s1, st.mono g1, o1⟩
  | false => exact o1 H1 ι1 (Gr.refl _ _) s1
theorem cw_or (ha : CT X T W a m1) (hb : CW X T W (.BoolOp .Or (b :: rest) pos) m2) : CW X T W (.BoolOp .Or (a :: b :: rest) pos) (tOrP m1 m2) := by
  refine PW.mono (pw_or ha hb) fun σ H Q ⟨ι, mh, ps, sm, st, o⟩ => ?_
  refine ⟨ι, mh, ps, sm, st, (OutT.bindT o).imp fun k H1 ⟨ι1, mh1, g1, s1, o1⟩ => ?_⟩
  cases k with
  | true => exact o1 H1 ι1 (Gr.refl _ _) s1
  | false => exact ⟨ι1, mh1, ps, s1, st.mono g1, o1⟩
theorem ce_one {op} (h : CE X T W a ma) : CE X T W (.BoolOp op [a] pos) ma := pe_one h
theorem ce_and (ha : CE X T W a ma) (hb : CE X T W (.BoolOp .And (b :: rest) pos) mb) : CE X T W (.BoolOp .And (a :: b :: rest) pos) (eAnd ma mb) := by
  refine (pe_andT ha hb).mono fun σ H Q ⟨ι, mh, ps, sm, st, o⟩ => ?_
  refine ⟨ι, mh, ps, sm, st, (OutE.bindE o).imp fun x H1 ⟨ι1, mh1, px, g1, s1, r1, o1⟩ => ?_⟩
  obtain ⟨k, h1, h3, ι2, mh2, g2, s2, o2⟩ := truth_ok s1 r1 (OutE.bindT o1)
  refine ⟨k, h1, ?_⟩
  cases k with
  | true => exact ⟨ι2, mh2, ps, s2, (st.mono g1).mono g2, o2⟩
  | false => exact OutE.okI (x := px) o2 s2 (r1.mono g2)
theorem ce_or (ha : CE X T W a ma) (hb : CE X T W (.BoolOp .Or (b :: rest) pos) mb) : CE X T W (.BoolOp .Or (a :: b :: rest) pos) (eOr ma mb) := by
  refine (pe_orT ha hb).mono fun σ H Q ⟨ι, mh, ps, sm, st, o⟩ => ?_
  refine ⟨ι, mh, ps, sm, st, (OutE.bindE o).imp fun x H1 ⟨ι1, mh1, px, g1, s1, r1, o1⟩ => ?_⟩
  obtain ⟨k, h1, h3, ι2, mh2, g2, s2, o2⟩ := truth_ok s1 r1 (OutE.bindT o1)
  refine ⟨k, h1, ?_⟩
  cases k with
  | false => exact ⟨ι2, mh2, ps, s2, (st.mono g1).mono g2, o2⟩
  | true => exact OutE.okI (x := px) o2 s2 (r1.mono g2)
theorem ce_not (ha : CE X T W a ma) : CE X T W (.UnaryOp .Not a pos) (eNot ma) := by
  refine (pe_notT ha).mono fun σ H Q ⟨ι, mh, ps, sm, st, o⟩ => ?_
  refine ⟨ι, mh, ps, sm, st, (OutE.bindE o).imp fun x H1 ⟨ι1, mh1, px, g1, s1, r1, o1⟩ => ?_⟩
  obtain ⟨k, h1, h3, ι2, mh2, g2, s2, o2⟩ := truth_ok s1 r1 (OutE.bindT o1)
  exact ⟨k, h1, OutE.okI (x := PV.bl (!k)) o2 s2 (.bl _)⟩
theorem ce_neg (ha : CE X T W a ma) : CE X T W (.UnaryOp .USub a pos) (eNeg ma) := by
  refine (pe_un un_neg ha).mono fun σ H Q ⟨ι, mh, ps, sm, st, o⟩ => ?_
  refine ⟨ι, mh, ps, sm, st, (OutE.bindE o).imp fun x H1 ⟨ι1, mh1, px, g1, s1, r1, o1⟩ => ?_⟩
  cases r1 <;> first | exact o1.elim | exact ⟨_, rfl, OutE.okI o1 s1 (.int _)⟩
theorem ce_if {m : TSm} (hc : CT X T W c m) (ha : CE X T W a ma) (hb : CE X T W b mb) : CE X T W (.IfExp c a b pos) (eIf m ma mb) := by
  refine (pe_ifExp hc ha hb).mono fun σ H Q ⟨ι, mh, ps, sm, st, o⟩ => ?_
  refine ⟨ι, mh, ps, sm, st, (OutE.bindT o).imp fun k H1 ⟨ι1, mh1, g1, s1, o1⟩ => ?_⟩
  cases k with
  | true => exact ⟨ι1, mh1, ps, s1, st.mono g1, o1⟩
  | false => exact ⟨ι1, mh1, ps, s1, st.mono g1, o1⟩
/-! argument lists, displays -/
variable {es : List Expr} {mr : AS}
theorem ca_nil : CA X T W [] aNil := pa_nil.mono fun σ H Q ⟨ι, mh, ps, sm, st, o⟩ => o [] H ι (Gr.refl _ _) sm .nil
theorem ca_cons (ha : CE X T W a ma) (hr : CA X T W es mr) (hs : starEach (a :: es) X.env = (false, eval a X.env) :: starEach es X.env) : CA X T W (a :: es) (aCons ma mr) := by
  refine (pa_cons ha hr hs).mono fun σ H Q ⟨ι, mh, ps, sm, st, o⟩ => ?_
  refine ⟨ι, mh, ps, sm, st, (OutA.bindE o).imp fun x H1 ⟨ι1, mh1, px, g1, s1, r1, o1⟩ => ?_⟩
  refine ⟨ι1, mh1, ps, s1, st.mono g1, (OutA.bindA o1).imp fun xs H2 ⟨ι2, mh2, pxs, g2, s2, r2, o2⟩ => ?_⟩
  exact o2 (x :: xs) H2 ι2 (Gr.refl _ _) s2 (.cons (r1.mono g2) r2)
theorem ce_tup {k} (h : CA X T W es mr) : CE X T W (.Tuple es k pos) (eTup mr) := by
  refine (pe_tup h).mono fun σ H Q ⟨ι, mh, ps, sm, st, o⟩ => ?_
  refine ⟨ι, mh, ps, sm, st, (OutE.bindA o).imp fun xs H1 ⟨ι1, mh1, pxs, g1, s1, r1, o1⟩ => ?_⟩
  by_cases h : pxs.length ≤ sizeLine
  · simp only [if_pos h] at o1
    exact ⟨by rw [r1.length]; exact h, o1.okTup s1 r1⟩
  · simp only [if_neg h] at o1
    exact o1.elim
theorem ce_lst (h : CA X T W es mr) : CE X T W (.List es pos) (eLst mr) := by
  refine (pe_lst h).mono fun σ H Q ⟨ι, mh, ps, sm, st, o⟩ => ?_
  refine ⟨ι, mh, ps, sm, st, (OutE.bindA o).imp fun xs H1 ⟨ι1, mh1, pxs, g1, s1, r1, o1⟩ => ?_⟩
  by_cases h : pxs.length ≤ sizeLine
  · simp only [if_pos h] at o1
    exact ⟨by rw [r1.length]; exact h, o1.okNew s1 r1⟩
  · simp only [if_neg h] at o1
    exact o1.elim
/-! subscripts -/
theorem atI_rep {G : Glob} {ι : List Addr} {H : Hp} {vs : List V} {xs : List PV} (r : Reps G ι H vs xs) {i : Int} {x : PV} (h : atI xs i = some x) : ∃ v, atI vs i = some v ∧ Rep G ι H v x := by
  unfold atI at h ⊢
  rw [r.length]
  cases e : ixN xs.length i with
  | none => rw [e] at h; cases h
  | some j =>
    rw [e] at h
    exact r.get h
theorem ixP_ne {x y : PV} {mh : MH} {c w mh'} : ixP x y mh ≠ .exc c w mh' := by
  unfold ixP
  repeat' split
  all_goals (intro h; cases h; done)
theorem ix_ok : IxR X (rOp (gl X T) ixP) := by
  intro value slice pins s σ H x y v u Q I rx ry h hs
  obtain ⟨ι, mh, px, py, sm, r1, r2, o⟩ := h
  refine ix_seq value slice pins s σ H x y v u Q I rx ry ?_ hs
  have seq : ∀ xs i, itemsP px mh = some xs → y = .int i → (∀ v', atI xs i = some v' → OutE (gl X T) noX ι H (.ok v' mh) Q) → (atI xs i = none → False) → rIx X.K x y H Q := fun xs i e ey k1 k2 => by
    obtain ⟨a, vs, rfl, q1, q2⟩ := itemsP_ob sm r1 e
    subst ey
    cases e2 : atI xs i with
    | none => exact (k2 e2).elim
    | some v' =>
      obtain ⟨w, h1, h2⟩ := atI_rep q2 e2
      rcases q1 with q1 | q1
      · exact .inl ⟨a, vs, i, w, rfl, rfl, q1, h1, OutE.okI (k1 _ e2) sm h2⟩
      · exact .inr (.inl ⟨a, vs, i, w, rfl, rfl, q1, h1, OutE.okI (k1 _ e2) sm h2⟩)
  cases r2 with
  | int i =>
    have gen : (∀ z, px ≠ .str z) → OutE (gl X T) noX ι H (match itemsP px mh with
      | some xs => match atI xs i with
        | some v => .ok v mh
        | none => .stk
      | none => .stk) Q → rIx X.K x (.int i) H Q := fun _ o => by
      cases e : itemsP px mh with
      | none => rw [e] at o; exact o.elim
      | some xs =>
        rw [e] at o
        refine seq xs i e rfl (fun v' h => ?_) (fun h => ?_)
        · simp only [h] at o; exact o
        · simp only [h] at o; exact o
    cases r1 with
    | str z =>
      unfold ixP at o
      simp only at o
      by_cases hz : z.length ≤ sizeLine
      · rw [if_pos hz] at o
        cases e : atI z.cps.toList i with
        | none => rw [e] at o; exact o.elim
        | some c => rw [e] at o; exact .inr (.inr ⟨z, i, c, rfl, rfl, hz, e, o.okI sm (.str _)⟩)
      · rw [if_neg hz] at o
        exact o.elim
    | non => exact gen (fun z h => by cases h) o
    | bl b => exact gen (fun z h => by cases h) o
    | int i => exact gen (fun z h => by cases h) o
    | tup h r => exact gen (fun z h => by cases h) o
    | ref h => exact gen (fun z h => by cases h) o
    | fn h => exact gen (fun z h => by cases h) o
  | _ => cases r1 <;> exact o.elim
theorem ce_ix (ha : CE X T W a ma) (hb : CE X T W b mb) (hs : PlainIx b) : CE X T W (.Subscript a b pos) (eIx ma mb) :=
  (pe_ix (ix_ok (T := T)) ha hb hs).mono fun σ H Q h => rd_two (fun _ _ _ _ q => q) (fun _ _ _ _ _ _ => ixP_ne) h
end
end Px

set_option Elab.async false
set_option linter.all false
set_option maxRecDepth 100000
set_option maxHeartbeats 4000000
namespace Px
open PySem PySem.Spec PyProof.Rows L2

section
variable {X : Cx} {T : List (Addr × Str)} {W : WX} {a b c : Expr} {ma mb mc : ES} {pos : Pos}
/-! slices -/
abbrev CO (X : Cx) (T : List (Addr × Str)) (W : WX) (e : Option Expr) (m : OS) : Prop := PO X e fun σ H Q => ∃ ι mh ps, Sim (gl X T) ι H mh ∧ SimSt (gl X T) ι H σ ps ∧ (match m ps mh with
  | .ok o mh' => ∀ H' ι', Gr ι H ι' H' → Sim (gl X T) ι' H' mh' → Q o H'
  | .exc c w mh' => ∀ cv d H' ι', Gr ι H ι' H' → Sim (gl X T) ι' H' mh' → ExV (gl X T) ι' H' cv d c w → WE W σ cv d H'
  | .stk => False)
theorem _root_.L2.PO.mono {e : Option Expr} {t t' : TO} (h : PO X e t) (q : ∀ σ H Q, t' σ H Q → t σ H Q) : PO X e t' := ⟨fun pins s σ H Q I hw => h.run pins s σ H Q I (q σ H Q hw)⟩
theorem co_none : CO X T W none oNone := po_none.mono fun σ H Q ⟨ι, mh, ps, sm, st, o⟩ => o H ι (Gr.refl _ _) sm
theorem co_some (ha : CE X T W a ma) : CO X T W (some a) (oSome ma) := by
  refine (po_some ha).mono fun σ H Q ⟨ι, mh, ps, sm, st, o⟩ => ?_
  refine ⟨ι, mh, ps, sm, st, ?_⟩
  unfold oSome at o
  cases e : ma ps mh with
  | ok x mh1 =>
    rw [e] at o
    intro v H' ι' g s r
    cases r with
    | int i => exact ⟨i, rfl, o H' ι' g s⟩
    | _ => exact (show False from o).elim
  | exc c w mh1 =>
    rw [e] at o
    exact o
  | stk =>
    rw [e] at o
    exact o
theorem cut_rep {G : Glob} {ι : List Addr} {H : Hp} {vs : List V} {xs : List PV} (r : Reps G ι H vs xs) (lo hi : Option Int) : Reps G ι H (cutV vs lo hi) (cutP xs lo hi) := by
  unfold cutV cutP
  rw [r.length]
  exact (r.drop _).take _
theorem sl_ok : SlR X (fun x lo hi H Q => ∃ ι mh px, Sim (gl X T) ι H mh ∧ Rep (gl X T) ι H x px ∧ OutE (gl X T) noX ι H (sliceP px lo hi mh) Q) := by
  intro pins s σ H x v vl vu lo hi sl Q I rx hs pl pu ⟨ι, mh, px, sm, r, o⟩
  cases r with
  | @tup a vs xs h r =>
    refine sl_tupA pins s σ H _ v vl vu lo hi sl Q I rx hs pl pu ⟨a, vs, rfl, h, fun e => ?_, fun _ => o.okTup sm (cut_rep r lo hi)⟩
    have e2 : cutP xs lo hi = xs := by
      unfold cutP
      rw [← r.length, e.1, e.2, List.drop_zero, Nat.sub_zero, r.length, List.take_length]
    simp only [sliceP, e2] at o
    exact o.okI sm (.tup h r)
  | @ref a n h =>
    unfold sliceP at o
    simp only at o
    cases e : getL mh n with
    | none => rw [e] at o; exact o.elim
    | some xs =>
      rw [e] at o
      obtain ⟨a', vs, q1, q2, q3⟩ := getL_ob sm e
      rw [h] at q1; cases q1
      exact sl_list pins s σ H _ v vl vu lo hi sl Q I rx hs pl pu ⟨a, vs, rfl, q2, o.okNew sm (cut_rep q3 lo hi)⟩
  | str z =>
    unfold sliceP at o
    simp only at o
    by_cases hz : z.length ≤ sizeLine
    · rw [if_pos hz] at o
      exact sl_str pins s σ H _ v vl vu lo hi sl Q I rx hs pl pu ⟨z, rfl, hz, o.okI sm (.str _)⟩
    · rw [if_neg hz] at o
      exact o.elim
  | _ => exact (show False from o).elim
theorem sliceP_ne {x : PV} {lo hi : Option Int} {mh : MH} {c w mh'} : sliceP x lo hi mh ≠ .exc c w mh' := by
  unfold sliceP
  repeat' split
  all_goals (intro h; cases h; done)
theorem OutE.noexc {G : Glob} {E E' : XK} {ι : List Addr} {H : Hp} {r : R PV} {Q : VK} (o : OutE G E ι H r Q) (h : ∀ c w mh, r ≠ .exc c w mh) : OutE G E' ι H r Q := by
  cases r with
  | ok x mh => exact o
  | exc c w mh => exact (h _ _ _ rfl).elim
  | stk => exact o
theorem ce_sl {lo hi : Option Expr} {ml mu : OS} {p2 : Pos} (ha : CE X T W a ma) (hl : CO X T W lo ml) (hh : CO X T W hi mu) : CE X T W (.Subscript a (.Slice lo hi none p2) pos) (eSl ma ml mu) := by
  refine (pe_slice (sl_ok (T := T)) ha hl hh).mono fun σ H Q ⟨ι, mh, ps, sm, st, o⟩ => ?_
  refine ⟨ι, mh, ps, sm, st, (OutE.bindE o).imp fun x H1 ⟨ι1, mh1, px, g1, s1, r1, o1⟩ => ?_⟩
  refine ⟨ι1, mh1, ps, s1, st.mono g1, ?_⟩
  cases e : ml ps mh1 with
  | ok l mh2 =>
    rw [e] at o1
    intro H2 ι2 g2 s2
    refine ⟨ι2, mh2, ps, s2, (st.mono g1).mono g2, ?_⟩
    have o2 := OutE.mono (r := (mu ps mh2).bind fun h mh => sliceP px l h mh) g2 o1
    cases e2 : mu ps mh2 with
    | ok h mh3 =>
      rw [e2] at o2
      intro H3 ι3 g3 s3
      exact ⟨ι3, mh3, px, s3, (r1.mono g2).mono g3, OutE.noexc (OutE.mono (r := sliceP px l h mh3) g3 o2) fun _ _ _ => sliceP_ne⟩
    | exc c w mh3 => rw [e2] at o2; exact o2
    | stk => rw [e2] at o2; exact o2
  | exc c w mh2 => rw [e] at o1; exact o1
  | stk => rw [e] at o1; exact o1

/-! ## calls of the module's defs -/
/-- the promise of a def: it does what m says -/
def spF (G : Glob) (n : Nat) (m : List PV → MH → R PV) : Sp := fun vs H Q E => ∃ ι mh xs, Sim G ι H mh ∧ Reps G ι H vs xs ∧ xs.length = n ∧ OutE G E ι H (m xs mh) Q
theorem spF_len {G : Glob} {n : Nat} {m : List PV → MH → R PV} : ∀ vs H Q E, spF G n m vs H Q E → vs.length = n := fun vs H Q E ⟨_, _, _, _, r, l, _⟩ => r.length.trans l
def permL {α : Type} (π : List Nat) (l : List α) : List α := π.filterMap fun j => l[j]?
/-- how a call with keywords is written: so many positional ones, the names, where each parameter's value stands -/
structure KwP where
  n : Nat
  ks : List Str
  π : List Nat
/-- the module's name x holds a def of n parameters that does what m says -/
structure FnF (X : Cx) (T : List (Addr × Str)) (x : Str) (n : Nat) (m : List PV → MH → R PV) (kws : List KwP) : Prop where
  ex : ∃ (f : Addr) (fd : FuncData) (k : Nat) (ps : List Str), X.mg x = some (.ref f) ∧ PySem.W.keepIn X.K (.ref f) = true ∧ FnOk X.prog X.w X.K X.mg X.base (L2N.CX X.prog X.w) k f fd ps (spF (gl X T) n m) ∧ Room k X.A ∧ ps.length = n ∧
    (∀ us : List Value, us.length = n → bindArgs fd ⟨us, []⟩ = pure (ps.zip us)) ∧
    ∀ p ∈ kws, p.π.length = n ∧ (∀ j ∈ p.π, j < p.n + p.ks.length) ∧ ∀ us ws : List Value, us.length = p.n → ws.length = p.ks.length → bindArgs fd ⟨us, p.ks.zip ws⟩ = pure (ps.zip (permL p.π (us ++ ws)))
theorem Reps.perm {G : Glob} {ι : List Addr} {H : Hp} {vs : List V} {xs : List PV} (r : Reps G ι H vs xs) : ∀ π : List Nat, Reps G ι H (permL π vs) (permL π xs)
  | [] => .nil
  | j :: π => by
    unfold permL
    rw [List.filterMap_cons, List.filterMap_cons]
    cases e : xs[j]? with
    | none =>
      have e2 : vs[j]? = none := by
        rw [List.getElem?_eq_none_iff] at e ⊢
        rw [r.length]
        exact e
      rw [e2]
      exact Reps.perm r π
    | some x =>
      obtain ⟨v, h1, h2⟩ := r.get e
      rw [h1]
      exact .cons h2 (Reps.perm r π)
theorem permL_length {α : Type} {l : List α} : ∀ {π : List Nat}, (∀ j ∈ π, j < l.length) → (permL π l).length = π.length
  | [], _ => rfl
  | j :: π, h => by
    unfold permL
    rw [List.filterMap_cons, List.getElem?_eq_getElem (h j List.mem_cons_self)]
    show (permL π l).length + 1 = π.length + 1
    rw [permL_length fun k hk => h k (List.mem_cons_of_mem _ hk)]
theorem Vals.perm {vs : List V} {us : List Value} (r : Vals vs us) : ∀ π : List Nat, Vals (permL π vs) (permL π us)
  | [] => .nil
  | j :: π => by
    unfold permL
    rw [List.filterMap_cons, List.filterMap_cons]
    cases e : vs[j]? with
    | none =>
      rw [Vals.none_of r e]
      exact Vals.perm r π
    | some x =>
      obtain ⟨u, h1, h2⟩ := r.get e
      rw [h1]
      exact .cons h2 (Vals.perm r π)
/-- the callee runs -/
theorem run_fnP {CX : CXT} {k : Nat} {f : Addr} {fd : FuncData} {ps : List Str} {sp : Sp} {E : XK} {pins : List (Addr × Obj)} {σ : St} {H : Hp} {s : Shared} {Q : VK} {us full : List Value} {kw : List (Str × Value)} {vs : List V}
    (F : FnOk X.prog X.w X.K X.mg X.base CX k f fd ps sp) (hr : Room k X.A) (hx : PassesAt CX X σ E) (I : Inv X pins σ H s) (hb : bindArgs fd ⟨us, kw⟩ = pure (ps.zip full)) (r : Vals vs full) (h : sp vs H Q E) :
    wpAny (model X.prog X.w) X.A (call (.ref f) us kw) (EP X pins σ Q) X.xe s := by
  refine wpAny_call (codeAny_mono (F.run X.A X.stack s H ⟨us, kw⟩ full vs Q E hr I.env0 (.of_eq hb) r h) fun r s' hq => ?_)
  cases r with
  | error e => exact hx pins H s e s' I hq
  | ok fl =>
    cases fl with
    | ret u => exact I.after hq
    | next => exact False.elim hq
    | brk => exact False.elim hq
    | cont => exact False.elim hq
variable {x : Str} {n : Nat} {f : List PV → MH → R PV} {kws : List KwP} {p : Pos} {e : Expr} {es : List Expr} {mr : AS}
/-- x(e, ..), x a def of the module -/
theorem ce_call (F : FnF X T x n f kws) (tk : L2N.Takes X W) (hg : Gl X x) (hn : (e :: es).length = n) (ha : CA X T W (e :: es) mr) (hdb : (x == ("__debug__" : Str)) = false) (he : starEach (e :: es) X.env = (false, eval e X.env) :: starEach es X.env)
    (hpl : (backTo pos (starEach es X.env)).any (·.1) = false) (hlen : ∀ ps mh xs mh', mr ps mh = .ok xs mh' → xs.length = n) : CE X T W (.Call (.Name x p) (e :: es) [] pos) (eCall f mr) := by
  obtain ⟨fa, fd, k, ps', hm, hk, F, hr, hl, hb, _⟩ := F.ex
  refine ⟨fun pins s σ H Q I ⟨ι, mh, ps, sm, st, o⟩ => ?_⟩
  refine wpAny_Call_Name_kw (ld_glob I hg hm ?_ hdb)
  refine PySem.W.callWith_K (h₀ := X.base) I.ok.mod.kin hk ?_ he hpl
  refine thn (ha.run pos pins s σ H (fun vs H1 => spF (gl X T) n f vs H1 Q (WE W σ)) I ⟨ι, mh, ps, sm, st, ?_⟩) fun us s1 ⟨vs, H1, I1, r, q⟩ => ⟨I1.kIn, ?_⟩
  · cases ea : mr ps mh with
    | ok xs mh1 =>
      have o1 : OutE (gl X T) (WE W σ) ι H ((mr ps mh).bind f) Q := o
      rw [ea] at o1
      exact fun vs H1 ι1 g s r => ⟨ι1, mh1, xs, s, r, hlen _ _ _ _ ea, OutE.mono (r := f xs mh1) g o1⟩
    | exc c w mh1 =>
      have o1 : OutE (gl X T) (WE W σ) ι H ((mr ps mh).bind f) Q := o
      rw [ea] at o1
      exact o1
    | stk =>
      have o1 : OutE (gl X T) (WE W σ) ι H ((mr ps mh).bind f) Q := o
      rw [ea] at o1
      exact o1
  · have hl2 : us.length = n := by rw [← r.length]; exact spF_len _ _ _ _ q
    exact run_fnP (us := us) F hr (L2N.passAt tk σ) I1 (hb us hl2) r q
theorem ce_call0 (F : FnF X T x 0 f kws) (tk : L2N.Takes X W) (hg : Gl X x) (hdb : (x == ("__debug__" : Str)) = false) : CE X T W (.Call (.Name x p) [] [] pos) (eCall f aNil) := by
  obtain ⟨fa, fd, k, ps', hm, hk, F, hr, hl, hb, _⟩ := F.ex
  refine ⟨fun pins s σ H Q I ⟨ι, mh, ps, sm, st, o⟩ => ?_⟩
  refine wpAny_Call_Name_kw (ld_glob I hg hm ?_ hdb)
  refine PySem.W.callWith_K0 I.kIn hk (run_fnP (us := []) (vs := []) F hr (L2N.passAt tk σ) I (hb [] rfl) .nil ?_)
  exact ⟨ι, mh, [], sm, .nil, rfl, o⟩
/-- v(e, ..), v a local name that holds a def of the module -/
def eCallV (fns : List (Str × Nat × (List PV → MH → R PV))) (i : Nat) (a : AS) : ES := fun ps mh => match ps[i]? with
  | some (some (.fn x)) => match fns.lookup x with
    | some (n, f) => (a ps mh).bind fun xs mh => if xs.length = n then f xs mh else .stk
    | none => .stk
  | _ => .stk
theorem ce_callV {fns : List (Str × Nat × (List PV → MH → R PV))} {i : Nat} (Fs : ∀ y n f, fns.lookup y = some (n, f) → FnF X T y n f []) (tk : L2N.Takes X W) (hN : X.N[i]? = some x) (hv : Vis X.env.scope x) (ha : CA X T W (e :: es) mr) (hdb : (x == ("__debug__" : Str)) = false) (hcd : (x == ("__classdict__" : Str)) = false)
    (he : starEach (e :: es) X.env = (false, eval e X.env) :: starEach es X.env) (hpl : (backTo pos (starEach es X.env)).any (·.1) = false) : CE X T W (.Call (.Name x p) (e :: es) [] pos) (eCallV fns i mr) := by
  refine ⟨fun pins s σ H Q I ⟨ι, mh, ps, sm, st, o⟩ => ?_⟩
  unfold eCallV at o
  cases e1 : ps[i]? with
  | none => rw [e1] at o; exact o.elim
  | some z =>
    cases z with
    | none => rw [e1] at o; exact o.elim
    | some z =>
      rw [e1] at o
      obtain ⟨v, h1, h2⟩ := st.at_ i z e1
      cases h2 with
      | @fn fa y hy =>
        simp only at o
        cases e2 : fns.lookup y with
        | none => rw [e2] at o; exact o.elim
        | some nf =>
          obtain ⟨n, f⟩ := nf
          rw [e2] at o
          simp only at o
          obtain ⟨fa', fd, k, ps', hm, hk, F, hr, hl, hb, _⟩ := (Fs y n f e2).ex
          have ef : fa' = fa := by
            have z : some (Value.ref fa') = some (Value.ref fa) := hm.symm.trans hy
            cases z
            rfl
          subst ef
          refine wpAny_Call_Name_kw (thn ((pe_var (pos := p) hN hv hdb hcd).run pins s σ H (fun v H1 => v = .ref fa' ∧ H1 = H) I ⟨.ref fa', h1, rfl, rfl⟩) fun u s1 ⟨v, H1, I1, r1, q1⟩ => ?_)
          obtain ⟨ev, eH⟩ := q1
          subst ev
          rw [eH] at I1
          cases r1
          refine PySem.W.callWith_K (h₀ := X.base) I1.ok.mod.kin hk ?_ he hpl
          refine thn (ha.run pos pins s1 σ H (fun vs H1 => spF (gl X T) n f vs H1 Q (WE W σ)) I1 ⟨ι, mh, ps, sm, st, ?_⟩) fun us s2 ⟨vs, H2, I2, r, q⟩ => ⟨I2.kIn, ?_⟩
          · refine (OutE.bindA o).imp fun vs H1 ⟨ι1, mh1, xs, g1, s1, r1, o1⟩ => ?_
            by_cases hl : xs.length = n
            · rw [if_pos hl] at o1
              exact ⟨ι1, mh1, xs, s1, r1, hl, o1⟩
            · rw [if_neg hl] at o1
              exact o1.elim
          · have hl2 : us.length = n := by rw [← r.length]; exact spF_len _ _ _ _ q
            exact run_fnP (us := us) F hr (L2N.passAt tk σ) I2 (hb us hl2) r q
      | _ => exact (show False from o).elim
/-- x(e, .., k = v, ..) -/
def eCallK (f : List PV → MH → R PV) (π : List Nat) (a k : AS) : ES := fun ps mh => (a ps mh).bind fun us mh => (k ps mh).bind fun ws mh => f (permL π (us ++ ws)) mh
abbrev CK (X : Cx) (T : List (Addr × Str)) (W : WX) (e : List Keyword) (m : AS) : Prop := PK X e (rdA (gl X T) W m)
theorem _root_.L2.PK.mono {e : List Keyword} {t t' : TA} (h : PK X e t) (q : ∀ σ H Q, t' σ H Q → t σ H Q) : PK X e t' := ⟨fun pos pins s σ H Q I hw => h.run pos pins s σ H Q I (q σ H Q hw)⟩
theorem ck_nil : CK X T W [] aNil := pk_nil.mono fun σ H Q ⟨ι, mh, ps, sm, st, o⟩ => o [] H ι (Gr.refl _ _) sm .nil
theorem ck_cons {nm : Option Str} {kpos : Pos} {ks : List Keyword} (ha : CE X T W a ma) (hr : CK X T W ks mr) : CK X T W (⟨nm, a, kpos⟩ :: ks) (aCons ma mr) := by
  refine (pk_cons ha hr).mono fun σ H Q ⟨ι, mh, ps, sm, st, o⟩ => ?_
  refine ⟨ι, mh, ps, sm, st, (OutA.bindE o).imp fun x H1 ⟨ι1, mh1, px, g1, s1, r1, o1⟩ => ?_⟩
  refine ⟨ι1, mh1, ps, s1, st.mono g1, (OutA.bindA o1).imp fun xs H2 ⟨ι2, mh2, pxs, g2, s2, r2, o2⟩ => ?_⟩
  exact o2 (x :: xs) H2 ι2 (Gr.refl _ _) s2 (.cons (r1.mono g2) r2)
variable {ks : List Keyword} {mk : AS} {q : KwP}
theorem ce_callK (F : FnF X T x n f kws) (tk : L2N.Takes X W) (hq : q ∈ kws) (hg : Gl X x) (ha : CA X T W (e :: es) mr) (hk : CK X T W ks mk) (hdb : (x == ("__debug__" : Str)) = false) (he : starEach (e :: es) X.env = (false, eval e X.env) :: starEach es X.env)
    (hall : (backToKw pos (keywordEach ks X.env)).all (·.1.isSome) = true) (hks : (backToKw pos (keywordEach ks X.env)).filterMap (·.1) = q.ks)
    (hpl : ((backTo pos (starEach (e :: es) X.env)).any (·.1) || (backToKw pos (keywordEach ks X.env)).any (·.1.isNone)) = false) (h1 : ∀ ps mh xs mh', mr ps mh = .ok xs mh' → xs.length = q.n) (h2 : ∀ ps mh xs mh', mk ps mh = .ok xs mh' → xs.length = q.ks.length) :
    CE X T W (.Call (.Name x p) (e :: es) ks pos) (eCallK f q.π mr mk) := by
  obtain ⟨fa, fd, k, ps', hm, hkp, F, hr, hl, _, hb⟩ := F.ex
  obtain ⟨hb1, hb2, hb3⟩ := hb q hq
  refine ⟨fun pins s σ H Q I ⟨ι, mh, ps, sm, st, o⟩ => ?_⟩
  refine wpAny_Call_Name_kw (ld_glob I hg hm ?_ hdb)
  refine PySem.W.callWith_KW (h₀ := X.base) I.ok.mod.kin hkp hall ?_ hpl he
  refine thn (ha.run pos pins s σ H (fun vs H1 => vs.length = q.n ∧ ∃ ι1 mh1 xs, Gr ι H ι1 H1 ∧ Sim (gl X T) ι1 H1 mh1 ∧ Reps (gl X T) ι1 H1 vs xs ∧ OutE (gl X T) (WE W σ) ι1 H1 ((mk ps mh1).bind fun ws mh => f (permL q.π (xs ++ ws)) mh) Q) I ⟨ι, mh, ps, sm, st, ?_⟩) fun us s1 ⟨vs, H1, I1, r, hvl, ι1, mh1, xs, g1, s1', r1, o1⟩ => ?_
  · cases ea : mr ps mh with
    | ok xs mh1 =>
      have o1 : OutE (gl X T) (WE W σ) ι H ((mr ps mh).bind fun us mh => (mk ps mh).bind fun ws mh => f (permL q.π (us ++ ws)) mh) Q := o
      rw [ea] at o1
      exact fun vs H1 ι1 g s r => ⟨r.length.trans (h1 _ _ _ _ ea), ι1, mh1, xs, g, s, r, OutE.mono (r := (mk ps mh1).bind fun ws mh => f (permL q.π (xs ++ ws)) mh) g o1⟩
    | exc c w mh1 =>
      have o1 : OutE (gl X T) (WE W σ) ι H ((mr ps mh).bind fun us mh => (mk ps mh).bind fun ws mh => f (permL q.π (us ++ ws)) mh) Q := o
      rw [ea] at o1
      exact o1
    | stk =>
      have o1 : OutE (gl X T) (WE W σ) ι H ((mr ps mh).bind fun us mh => (mk ps mh).bind fun ws mh => f (permL q.π (us ++ ws)) mh) Q := o
      rw [ea] at o1
      exact o1
  · refine thn (hk.run pos pins s1 σ H1 (fun zs H2 => zs.length = q.ks.length ∧ spF (gl X T) n f (permL q.π (vs ++ zs)) H2 Q (WE W σ)) I1 ⟨ι1, mh1, ps, s1', st.mono g1, ?_⟩) fun ws s2 ⟨zs, H2, I2, rz, hzl, q2⟩ => ⟨I2.kIn, ?_⟩
    · cases ek : mk ps mh1 with
      | ok zs mh2 =>
        rw [ek] at o1
        refine fun vz H2 ι2 g s r => ⟨r.length.trans (h2 _ _ _ _ ek), ι2, mh2, permL q.π (xs ++ zs), s, ((r1.mono g).append r).perm _, ?_, OutE.mono (r := f (permL q.π (xs ++ zs)) mh2) g o1⟩
        have lx : xs.length = q.n := by rw [← r1.length]; exact hvl
        rw [permL_length (fun j hj => by rw [List.length_append, lx, h2 _ _ _ _ ek]; exact hb2 j hj), hb1]
      | exc c w mh2 => rw [ek] at o1; exact o1
      | stk => rw [ek] at o1; exact o1
    · rw [hks]
      have l1 : us.length = q.n := by rw [← r.length]; exact hvl
      have l2 : ws.length = q.ks.length := by rw [← rz.length]; exact hzl
      exact run_fnP (us := us) F hr (L2N.passAt tk σ) I2 (hb3 us ws l1 l2) (Vals.perm (r.append rz) q.π) q2
theorem ce_callK0 (F : FnF X T x n f kws) (tk : L2N.Takes X W) (hq : q ∈ kws) (h0 : q.n = 0) (hg : Gl X x) (hk : CK X T W ks mk) (hdb : (x == ("__debug__" : Str)) = false)
    (hall : (backToKw pos (keywordEach ks X.env)).all (·.1.isSome) = true) (hks : (backToKw pos (keywordEach ks X.env)).filterMap (·.1) = q.ks)
    (hpl : ((backTo pos (starEach [] X.env)).any (·.1) || (backToKw pos (keywordEach ks X.env)).any (·.1.isNone)) = false) (h2 : ∀ ps mh xs mh', mk ps mh = .ok xs mh' → xs.length = q.ks.length) :
    CE X T W (.Call (.Name x p) [] ks pos) (eCallK f q.π aNil mk) := by
  obtain ⟨fa, fd, k, ps', hm, hkp, F, hr, hl, _, hb⟩ := F.ex
  obtain ⟨hb1, hb2, hb3⟩ := hb q hq
  refine ⟨fun pins s σ H Q I ⟨ι, mh, ps, sm, st, o⟩ => ?_⟩
  refine wpAny_Call_Name_kw (ld_glob I hg hm ?_ hdb)
  refine PySem.W.callWith_KW0 (h₀ := X.base) I.ok.mod.kin hkp hall ?_ hpl
  refine thn (hk.run pos pins s σ H (fun zs H2 => zs.length = q.ks.length ∧ spF (gl X T) n f (permL q.π ([] ++ zs)) H2 Q (WE W σ)) I ⟨ι, mh, ps, sm, st, ?_⟩) fun ws s2 ⟨zs, H2, I2, rz, hzl, q2⟩ => ⟨I2.kIn, ?_⟩
  · have o1 : OutE (gl X T) (WE W σ) ι H ((mk ps mh).bind fun ws mh => f (permL q.π ([] ++ ws)) mh) Q := o
    cases ek : mk ps mh with
    | ok zs mh2 =>
      rw [ek] at o1
      refine fun vz H2 ι2 g s r => ⟨r.length.trans (h2 _ _ _ _ ek), ι2, mh2, permL q.π ([] ++ zs), s, (Reps.append .nil r).perm _, ?_, OutE.mono (r := f (permL q.π ([] ++ zs)) mh2) g o1⟩
      rw [permL_length (fun j hj => by rw [List.length_append, h2 _ _ _ _ ek]; have := hb2 j hj; rw [h0] at this; simpa using this), hb1]
    | exc c w mh2 => rw [ek] at o1; exact o1
    | stk => rw [ek] at o1; exact o1
  · rw [hks]
    have l2 : ws.length = q.ks.length := by rw [← rz.length]; exact hzl
    exact run_fnP (us := []) F hr (L2N.passAt tk σ) I2 (hb3 [] ws (by rw [h0]; rfl) l2) (Vals.perm (by simpa using rz) q.π) q2
end
end Px

set_option Elab.async false
set_option linter.all false
set_option maxRecDepth 100000
set_option maxHeartbeats 4000000
namespace Px
open PySem PySem.Spec PyProof.Rows L2

/-! ## built-in functions -/
def rCall (G : Glob) (f : List PV → MH → R PV) : List V → Hp → VK → Prop := fun vs H Q => ∃ ι mh xs, Sim G ι H mh ∧ Reps G ι H vs xs ∧ OutE G noX ι H (f xs mh) Q
def lenV (xs : List PV) (mh : MH) : R PV := match xs with
  | [.str z] => if z.length ≤ sizeLine then .ok (.int z.length) mh else .stk
  | [.tup ys] => .ok (.int ys.length) mh
  | [.ref n] => match getL mh n with
    | some ys => .ok (.int ys.length) mh
    | none => .stk
  | _ => .stk
def intV (xs : List PV) (mh : MH) : R PV := match xs with
  | [.int i] => .ok (.int i) mh
  | [.bl b] => .ok (.int (if b then 1 else 0)) mh
  | [.str a] => match PySem.intText? a with
    | some n => if a.length ≤ 640 then .ok (.int n) mh else .stk
    | none => .stk
  | _ => .stk
def absV1 (xs : List PV) (mh : MH) : R PV := match xs with
  | [.int i] => .ok (.int (if i < 0 then -i else i)) mh
  | _ => .stk
def maxV (xs : List PV) (mh : MH) : R PV := match xs with
  | [.int i, .int j] => .ok (.int (if j > i then j else i)) mh
  | _ => .stk
def minV (xs : List PV) (mh : MH) : R PV := match xs with
  | [.int i, .int j] => .ok (.int (if j < i then j else i)) mh
  | _ => .stk
def gcdV (xs : List PV) (mh : MH) : R PV := match xs with
  | [.int i, .int j] => .ok (.int ((Nat.gcd i.natAbs j.natAbs : Nat) : Int)) mh
  | _ => .stk
def tupleV (xs : List PV) (mh : MH) : R PV := match xs with
  | [.tup ys] => .ok (.tup ys) mh
  | [.ref n] => match getL mh n with
    | some ys => .ok (.tup ys) mh
    | none => .stk
  | _ => .stk
def listV (xs : List PV) (mh : MH) : R PV := match xs with
  | [.tup ys] => newL ys mh
  | [.ref n] => match getL mh n with
    | some ys => newL ys mh
    | none => .stk
  | _ => .stk
section
variable {X : Cx} {T : List (Addr × Str)} {W : WX}
theorem CallR.by {f : Value} {g : List PV → MH → R PV}
    (h : ∀ (H : Hp) (vs : List V) (Q : VK) (ι : List Addr) (mh : MH) (xs : List PV), Sim (gl X T) ι H mh → Reps (gl X T) ι H vs xs → OutE (gl X T) noX ι H (g xs mh) Q → ∃ r, CallR X f r ∧ r vs H Q) : CallR X f (rCall (gl X T) g) := by
  intro pins s σ H vs us Q I rv ⟨ι, mh, xs, sm, r1, o⟩
  obtain ⟨r, h1, h2⟩ := h H vs Q ι mh xs sm r1 o
  exact h1 pins s σ H vs us Q I rv h2
theorem Reps.inv1 {G : Glob} {ι : List Addr} {H : Hp} {vs : List V} {x : PV} (r : Reps G ι H vs [x]) : ∃ v, vs = [v] ∧ Rep G ι H v x := by
  cases r with
  | cons h r => cases r; exact ⟨_, rfl, h⟩
theorem Reps.inv2 {G : Glob} {ι : List Addr} {H : Hp} {vs : List V} {x y : PV} (r : Reps G ι H vs [x, y]) : ∃ v w, vs = [v, w] ∧ Rep G ι H v x ∧ Rep G ι H w y := by
  cases r with
  | cons h r =>
    obtain ⟨w, rfl, h2⟩ := r.inv1
    exact ⟨_, _, rfl, h, h2⟩
theorem Rep.intI {G : Glob} {ι : List Addr} {H : Hp} {v : V} {i : Int} (r : Rep G ι H v (.int i)) : v = .int i := by cases r; rfl
theorem Rep.blI {G : Glob} {ι : List Addr} {H : Hp} {v : V} {b : Bool} (r : Rep G ι H v (.bl b)) : v = .bl b := by cases r; rfl
theorem Rep.strI {G : Glob} {ι : List Addr} {H : Hp} {v : V} {z : Str} (r : Rep G ι H v (.str z)) : v = .str z := by cases r; rfl
theorem Rep.tupI {G : Glob} {ι : List Addr} {H : Hp} {v : V} {xs : List PV} (r : Rep G ι H v (.tup xs)) : ∃ a vs, v = .ref a ∧ SqT G.K H a vs ∧ Reps G ι H vs xs := by
  cases r with
  | tup h r => exact ⟨_, _, rfl, h, r⟩
theorem Rep.lstI {G : Glob} {ι : List Addr} {H : Hp} {mh : MH} {v : V} {n : Nat} {xs : List PV} (r : Rep G ι H v (.ref n)) (s : Sim G ι H mh) (e : getL mh n = some xs) : ∃ a vs, v = .ref a ∧ SqL G.K H a vs ∧ Reps G ι H vs xs := by
  obtain ⟨a, vs, q1, q2, q3⟩ := getL_ob s e
  exact ⟨a, vs, r.refAt q1, q2, q3⟩
theorem cr_len : CallR X (.builtin "len") (rCall (gl X T) lenV) := by
  refine CallR.by fun H vs Q ι mh xs sm r o => ?_
  unfold lenV at o
  split at o
  · rename_i z
    obtain ⟨v, rfl, r1⟩ := r.inv1
    cases r1.strI
    by_cases hz : z.length ≤ sizeLine
    · rw [if_pos hz] at o
      exact ⟨_, call_len, _, _, rfl, ⟨hz, rfl⟩, o.okI sm (.int _)⟩
    · rw [if_neg hz] at o
      exact o.elim
  · obtain ⟨v, rfl, r1⟩ := r.inv1
    obtain ⟨a, vs, rfl, q1, q2⟩ := r1.tupI
    refine ⟨_, call_len, _, _, rfl, .inr ⟨vs, q1, rfl⟩, ?_⟩
    rw [q2.length]
    exact o.okI sm (.int _)
  · rename_i n
    obtain ⟨v, rfl, r1⟩ := r.inv1
    cases e : getL mh n with
    | none => rw [e] at o; exact o.elim
    | some ys =>
      rw [e] at o
      obtain ⟨a, vs, rfl, q1, q2⟩ := r1.lstI sm e
      refine ⟨_, call_len, _, _, rfl, .inl ⟨vs, q1, rfl⟩, ?_⟩
      rw [q2.length]
      exact o.okI sm (.int _)
  · exact o.elim
theorem cr_int : CallR X (.type "int") (rCall (gl X T) intV) := by
  refine CallR.by fun H vs Q ι mh xs sm r o => ?_
  unfold intV at o
  split at o
  · obtain ⟨v, rfl, r1⟩ := r.inv1
    cases r1.intI
    exact ⟨_, call_int1, .inl ⟨_, rfl, o.okI sm (.int _)⟩⟩
  · obtain ⟨v, rfl, r1⟩ := r.inv1
    cases r1.blI
    exact ⟨_, call_int1, .inr ⟨_, rfl, o.okI sm (.int _)⟩⟩
  · rename_i a
    obtain ⟨v, rfl, r1⟩ := r.inv1
    cases r1.strI
    cases e : PySem.intText? a with
    | none => rw [e] at o; exact o.elim
    | some n =>
      rw [e] at o
      by_cases hz : a.length ≤ 640
      · simp only [if_pos hz] at o
        exact ⟨_, call_int_str, a, n, rfl, e, hz, o.okI sm (.int _)⟩
      · simp only [if_neg hz] at o
        exact o.elim
  · exact o.elim
theorem cr_abs : CallR X (.builtin "abs") (rCall (gl X T) absV1) := by
  refine CallR.by fun H vs Q ι mh xs sm r o => ?_
  unfold absV1 at o
  split at o
  · obtain ⟨v, rfl, r1⟩ := r.inv1
    cases r1.intI
    exact ⟨_, call_abs, _, rfl, o.okI sm (.int _)⟩
  · exact o.elim
theorem cr_max2 (hc : X.calm = true) : CallR X (.builtin "max") (rCall (gl X T) maxV) := by
  refine CallR.by fun H vs Q ι mh xs sm r o => ?_
  unfold maxV at o
  split at o
  · obtain ⟨v, w, rfl, r1, r2⟩ := r.inv2
    cases r1.intI
    cases r2.intI
    exact ⟨_, call_max2 hc, _, _, rfl, o.okI sm (.int _)⟩
  · exact o.elim
theorem cr_min2 (hc : X.calm = true) : CallR X (.builtin "min") (rCall (gl X T) minV) := by
  refine CallR.by fun H vs Q ι mh xs sm r o => ?_
  unfold minV at o
  split at o
  · obtain ⟨v, w, rfl, r1, r2⟩ := r.inv2
    cases r1.intI
    cases r2.intI
    exact ⟨_, call_min2 hc, _, _, rfl, o.okI sm (.int _)⟩
  · exact o.elim
theorem cr_gcdV : CallR X (.builtin "math.gcd") (rCall (gl X T) gcdV) := by
  refine CallR.by fun H vs Q ι mh xs sm r o => ?_
  unfold gcdV at o
  split at o
  · obtain ⟨v, w, rfl, r1, r2⟩ := r.inv2
    cases r1.intI
    cases r2.intI
    exact ⟨_, cr_gcd, _, _, rfl, o.okI sm (.int _)⟩
  · exact o.elim
theorem cr_tuple : CallR X (.type "tuple") (rCall (gl X T) tupleV) := by
  refine CallR.by fun H vs Q ι mh xs sm r o => ?_
  unfold tupleV at o
  split at o
  · obtain ⟨v, rfl, r1⟩ := r.inv1
    obtain ⟨a, vs, rfl, q1, q2⟩ := r1.tupI
    exact ⟨_, call_tuple_of, a, vs, rfl, .inr ⟨q1, o.okI sm (.tup q1 q2)⟩⟩
  · rename_i n
    obtain ⟨v, rfl, r1⟩ := r.inv1
    cases e : getL mh n with
    | none => rw [e] at o; exact o.elim
    | some ys =>
      rw [e] at o
      obtain ⟨a, vs, rfl, q1, q2⟩ := r1.lstI sm e
      exact ⟨_, call_tuple_of, a, vs, rfl, .inl ⟨q1, OutE.okTup o sm q2⟩⟩
  · exact o.elim
theorem cr_list : CallR X (.type "list") (rCall (gl X T) listV) := by
  refine CallR.by fun H vs Q ι mh xs sm r o => ?_
  unfold listV at o
  split at o
  · obtain ⟨v, rfl, r1⟩ := r.inv1
    obtain ⟨a, vs, rfl, q1, q2⟩ := r1.tupI
    exact ⟨_, call_list_of, a, vs, rfl, .inr q1, o.okNew sm q2⟩
  · rename_i n
    obtain ⟨v, rfl, r1⟩ := r.inv1
    cases e : getL mh n with
    | none => rw [e] at o; exact o.elim
    | some ys =>
      rw [e] at o
      obtain ⟨a, vs, rfl, q1, q2⟩ := r1.lstI sm e
      exact ⟨_, call_list_of, a, vs, rfl, .inl q1, o.okNew sm q2⟩
  · exact o.elim
/-! the call's rule -/
variable {x : Str} {p pos : Pos} {e : Expr} {es : List Expr} {mr : AS} {f : List PV → MH → R PV} {id Ty : String}
theorem rd_call (hf : ∀ xs mh c w mh', f xs mh ≠ .exc c w mh') {σ : St} {H : Hp} {Q : VK} (h : rdE (gl X T) W (eCall f mr) σ H Q) : tCB (rCall (gl X T) f) (rdA (gl X T) W mr) σ H Q := by
  obtain ⟨ι, mh, ps, sm, st, o⟩ := h
  exact ⟨ι, mh, ps, sm, st, (OutE.bindA o).imp fun vs H1 ⟨ι1, mh1, xs, g1, s1, r1, o1⟩ => ⟨ι1, mh1, xs, s1, r1, o1.noexc fun _ _ _ => hf _ _ _ _ _⟩⟩
theorem ce_callB (hf : ∀ xs mh c w mh', f xs mh ≠ .exc c w mh') (hc : CallR X (.builtin id) (rCall (gl X T) f)) (hg : Gl X x) (hm : X.mg x = none) (hv : bootBuiltins x = some (.builtin id)) (ha : CA X T W (e :: es) mr) (hn : x ≠ "__name__") (hdb : (x == ("__debug__" : Str)) = false)
    (he : starEach (e :: es) X.env = (false, eval e X.env) :: starEach es X.env) (hpl : (backTo pos (starEach es X.env)).any (·.1) = false) : CE X T W (.Call (.Name x p) (e :: es) [] pos) (eCall f mr) :=
  (pe_callB hc hg hm hv ha hn hdb he hpl).mono fun σ H Q h => rd_call hf h
theorem ce_callTy (hf : ∀ xs mh c w mh', f xs mh ≠ .exc c w mh') (hc : CallR X (.type Ty) (rCall (gl X T) f)) (hg : Gl X x) (hm : X.mg x = none) (hv : bootBuiltins x = some (.type Ty)) (ha : CA X T W (e :: es) mr) (hn : x ≠ "__name__") (hdb : (x == ("__debug__" : Str)) = false)
    (he : starEach (e :: es) X.env = (false, eval e X.env) :: starEach es X.env) (hpl : (backTo pos (starEach es X.env)).any (·.1) = false) : CE X T W (.Call (.Name x p) (e :: es) [] pos) (eCall f mr) :=
  (pe_callTy hc hg hm hv ha hn hdb he hpl).mono fun σ H Q h => rd_call hf h
theorem ce_callBf (hf : ∀ xs mh c w mh', f xs mh ≠ .exc c w mh') (hc : CallR X (.builtin id) (rCall (gl X T) f)) (hg : Gl X x) (hm : X.mg x = some (.builtin id)) (ha : CA X T W (e :: es) mr) (hdb : (x == ("__debug__" : Str)) = false)
    (he : starEach (e :: es) X.env = (false, eval e X.env) :: starEach es X.env) (hpl : (backTo pos (starEach es X.env)).any (·.1) = false) : CE X T W (.Call (.Name x p) (e :: es) [] pos) (eCall f mr) :=
  (pe_callBfun hc hg hm ha hdb he hpl).mono fun σ H Q h => rd_call hf h
/-! isinstance(e, T), T one of these -/
inductive Ty5 where
  | tInt | tBool | tStr | tTuple | tList
def Ty5.name : Ty5 → String
  | .tInt => "int" | .tBool => "bool" | .tStr => "str" | .tTuple => "tuple" | .tList => "list"
def isTyP (t : Ty5) (x : PV) (mh : MH) : R PV := match x with
  | .non => .ok (.bl false) mh
  | .bl _ => .ok (.bl (match t with | .tInt => true | .tBool => true | _ => false)) mh
  | .int _ => .ok (.bl (match t with | .tInt => true | _ => false)) mh
  | .str _ => .ok (.bl (match t with | .tStr => true | _ => false)) mh
  | .tup _ => .ok (.bl (match t with | .tTuple => true | _ => false)) mh
  | .ref n => match getL mh n with
    | some _ => .ok (.bl (match t with | .tList => true | _ => false)) mh
    | none => .stk
  | .fn _ => .stk
def eIsTy (t : Ty5) (a : ES) : ES := fun ps mh => (a ps mh).bind fun x mh => isTyP t x mh
theorem kit5 (t : Ty5) : kitB "NoneType" t.name = some false ∧ kitB "bool" t.name = some (match t with | .tInt => true | .tBool => true | _ => false) ∧ kitB "int" t.name = some (match t with | .tInt => true | _ => false) ∧
    kitB "str" t.name = some (match t with | .tStr => true | _ => false) ∧ kitB "tuple" t.name = some (match t with | .tTuple => true | _ => false) ∧ kitB "list" t.name = some (match t with | .tList => true | _ => false) := by
  cases t <;> decide +kernel
theorem tyX_list {K : PySem.W.Frag} {H : Hp} {a : Addr} {vs : List V} (h : SqL K H a vs) : TyX K H (.ref a) (.type "list") := by
  rcases h with (h | ⟨o, h⟩) | ⟨o, its, n, h1, h2, _⟩
  · exact .base (.lst h)
  · exact .base (.frz h)
  · exact .kList h1 h2
theorem tyX_tup {K : PySem.W.Frag} {H : Hp} {a : Addr} {vs : List V} (h : SqT K H a vs) : TyX K H (.ref a) (.type "tuple") := by
  rcases h with (h | ⟨o, h⟩) | ⟨o, its, n, h1, h2, _⟩
  · exact .base (.tup h)
  · exact .fTuple h
  · exact .kTuple h1 h2
theorem ce_isTy {a : Expr} {ma : ES} {t : Ty5} {y : Str} {p2 : Pos} (hg : Gl X x) (hm : X.mg x = none) (hv : bootBuiltins x = some (.builtin "isinstance")) (hgy : Gl X y) (hmy : X.mg y = none) (hvy : bootBuiltins y = some (.type t.name)) (ha : CE X T W a ma)
    (hn : x ≠ "__name__") (hdb : (x == ("__debug__" : Str)) = false) (hny : y ≠ "__name__") (hdby : (y == ("__debug__" : Str)) = false)
    (he : starEach [a, .Name y p2] X.env = (false, eval a X.env) :: starEach [.Name y p2] X.env) :
    CE X T W (.Call (.Name x p) [a, .Name y p2] [] pos) (eIsTy t ma) := by
  have hy : PE X (.Name y p2) (tC (.ty t.name)) := pe_bltn hgy hmy hvy rfl hny hdby
  refine (pe_callB call_isi hg hm hv (pa_cons ha (pa_cons hy pa_nil rfl) he) hn hdb he rfl).mono fun σ H Q ⟨ι, mh, ps, sm, st, o⟩ => ?_
  refine ⟨ι, mh, ps, sm, st, (OutE.bindE o).imp fun v H1 ⟨ι1, mh1, px, g1, s1, r1, o1⟩ => ?_⟩
  obtain ⟨k1, k2, k3, k4, k5, k6⟩ := kit5 t
  show rIsi X.K [v, .ty t.name] H1 Q
  unfold isTyP at o1
  cases r1 with
  | non => exact ⟨_, _, _, _, _, rfl, .ty _, .base .non, kit_ty k1, OutE.okI o1 s1 (.bl _)⟩
  | bl b => exact ⟨_, _, _, _, _, rfl, .ty _, .base (.bl b), kit_ty k2, OutE.okI o1 s1 (.bl _)⟩
  | int i => exact ⟨_, _, _, _, _, rfl, .ty _, .base (.int i), kit_ty k3, OutE.okI o1 s1 (.bl _)⟩
  | str z => exact ⟨_, _, _, _, _, rfl, .ty _, .base (.str z), kit_ty k4, OutE.okI o1 s1 (.bl _)⟩
  | tup h r => exact ⟨_, _, _, _, _, rfl, .ty _, tyX_tup h, kit_ty k5, OutE.okI o1 s1 (.bl _)⟩
  | @ref a n h =>
    simp only at o1
    cases e : getL mh1 n with
    | none => rw [e] at o1; exact o1.elim
    | some xs =>
      rw [e] at o1
      obtain ⟨a', vs, q1, q2, q3⟩ := getL_ob s1 e
      rw [h] at q1; cases q1
      exact ⟨_, _, _, _, _, rfl, .ty _, tyX_list q2, kit_ty k6, OutE.okI o1 s1 (.bl _)⟩
  | fn h => exact o1.elim
end
end Px

set_option Elab.async false
set_option linter.all false
set_option maxRecDepth 100000
set_option maxHeartbeats 4000000
namespace Px
open PySem PySem.Spec PyProof.Rows L2

/-! ## statements: the combinators -/
def sNext : SS := fun ps mh => .ok .nx ps mh
def sBreak : SS := fun ps mh => .ok .bk ps mh
def sCont : SS := fun ps mh => .ok .ct ps mh
def sSeq (a b : SS) : SS := fun ps mh => match a ps mh with
  | .ok .nx ps mh => b ps mh
  | r => r
def sExpr (e : ES) : SS := fun ps mh => (e ps mh).bindS ps fun _ mh => .ok .nx ps mh
def sRet (e : ES) : SS := fun ps mh => (e ps mh).bindS ps fun x mh => .ok (.rt x) ps mh
def sRetN : SS := fun ps mh => .ok (.rt .non) ps mh
def sIf (c : TSm) (a b : SS) : SS := fun ps mh => (c ps mh).bindS ps fun k mh => if k = true then a ps mh else b ps mh
/-- a target -/
abbrev GS := PV → PSt → MH → RS
def gNm (i : Nat) : GS := fun x ps mh => .ok .nx (ps.set i (some x)) mh
abbrev GsS := List PV → PSt → MH → RS
def gsNil : GsS := fun xs ps mh => match xs with
  | [] => .ok .nx ps mh
  | _ => .stk
def gsCons (g : GS) (r : GsS) : GsS := fun xs ps mh => match xs with
  | x :: xs => (match g x ps mh with
    | .ok .nx ps mh => r xs ps mh
    | .ok _ _ _ => .stk
    | r => r)
  | [] => .stk
def gTupS (n : Nat) (gs : GsS) : GS := fun x ps mh => match x with
  | .tup xs => if xs.length = n then gs xs ps mh else .stk
  | _ => .stk
def setV (o i v : PV) (ps : PSt) (mh : MH) : RS := match o, i with
  | .ref n, .int k => match getM mh n with
    | some xs => match ixN xs.length k with
      | some j => .ok .nx ps (mh.set n (.lst (xs.set j v)))
      | none => .stk
    | none => .stk
  | _, _ => .stk
def gSubS (o i : ES) : GS := fun x ps mh => (o ps mh).bindS ps fun ov mh => (i ps mh).bindS ps fun iv mh => setV ov iv x ps mh
def onlyNx (r : RS) : RS := match r with
  | .ok .nx ps mh => .ok .nx ps mh
  | .ok _ _ _ => .stk
  | .exc c w ps mh => .exc c w ps mh
  | .stk => .stk
def sAsg (e : ES) (g : GS) : SS := fun ps mh => (e ps mh).bindS ps fun x mh => onlyNx (g x ps mh)
/-- a, b = x, y: names of the def's own -/
def sPar (i j : Nat) (a : AS) : SS := fun ps mh => (a ps mh).bindS ps fun xs mh => match xs with
  | [x, y] => .ok .nx ((ps.set i (some x)).set j (some y)) mh
  | _ => .stk

abbrev CSt (X : Cx) (T : List (Addr × Str)) (W : WX) (s : Stmt) (m : SS) : Prop := PS X s (rdS (gl X T) W m)
abbrev CSs (X : Cx) (T : List (Addr × Str)) (W : WX) (s : List Stmt) (m : SS) : Prop := PSs X s (rdS (gl X T) W m)
/-- a target's reading; is: the slots that it may change -/
def rdG (G : Glob) (W : WX) (is : List Nat) (g : GS) : TG := fun v σ H Q => ∃ ι mh ps x, Sim G ι H mh ∧ SimSt G ι H σ ps ∧ Rep G ι H v x ∧ OutS G W { nx := fun σ' H' => wipe σ' is = wipe σ is → Q σ' H', rt := fun _ _ => False } ι H (g x ps mh)
def rdGs (G : Glob) (W : WX) (is : List Nat) (g : GsS) : TGs := fun vs σ H Q => ∃ ι mh ps xs, Sim G ι H mh ∧ SimSt G ι H σ ps ∧ Reps G ι H vs xs ∧ OutS G W { nx := fun σ' H' => wipe σ' is = wipe σ is → Q σ' H', rt := fun _ _ => False } ι H (g xs ps mh)
abbrev CG (X : Cx) (T : List (Addr × Str)) (W : WX) (is : List Nat) (e : Expr) (g : GS) : Prop := PG X e (rdG (gl X T) W is g)
abbrev CGs (X : Cx) (T : List (Addr × Str)) (W : WX) (is : List Nat) (e : List Expr) (g : GsS) : Prop := PGs X e (rdGs (gl X T) W is g)
theorem _root_.L2.PG.mono {X : Cx} {e : Expr} {t t' : TG} (h : PG X e t) (q : ∀ v σ H Q, t' v σ H Q → t v σ H Q) : PG X e t' := ⟨fun pins s σ H v u Q I r hw => h.run pins s σ H v u Q I r (q v σ H Q hw)⟩
theorem _root_.L2.PGs.mono {X : Cx} {e : List Expr} {t t' : TGs} (h : PGs X e t) (q : ∀ v σ H Q, t' v σ H Q → t v σ H Q) : PGs X e t' := ⟨fun pins s σ H v u Q I r hw => h.run pins s σ H v u Q I r (q v σ H Q hw)⟩
theorem _root_.L2.PI.mono {X : Cx} {tg e : Expr} {t t' : TI} (h : PI X tg e t) (q : ∀ σ H R, t' σ H R → t σ H R) : PI X tg e t' := ⟨fun pins s σ H R I hw => h.run pins s σ H R I (q σ H R hw)⟩
theorem wipe_set {σ : St} {i : Nat} {x : Option V} : ∀ {is : List Nat}, i ∈ is → wipe (σ.set i x) is = wipe σ is
  | j :: is, h => by
    unfold wipe
    by_cases hj : i ∈ is
    · rw [wipe_set hj]
    · have e : i = j := (List.mem_cons.mp h).elim id fun z => (hj z).elim
      subst e
      have q : ∀ {ks : List Nat}, i ∉ ks → wipe (σ.set i x) ks = (wipe σ ks).set i x := fun {ks} => by
        induction ks with
        | nil => intro _; rfl
        | cons k ks ih =>
          intro hk
          unfold wipe
          rw [ih fun z => hk (List.mem_cons_of_mem _ z), List.set_comm _ _ (fun z => hk (by rw [z]; exact List.mem_cons_self))]
      rw [q hj, List.set_set]
section
variable {X : Cx} {T : List (Addr × Str)} {W : WX} {is : List Nat} {a b c e : Expr} {ma mb mc me : ES} {pos : Pos} {st : Stmt} {sts : List Stmt} {m1 m2 : SS}
theorem css_nil : CSs X T W [] sNext := pss_nil.mono fun D σ H ⟨ι, mh, ps, sm, st, o⟩ => o σ H ι (Gr.refl _ _) sm st
theorem css_cons (h1 : CSt X T W st m1) (h2 : CSs X T W sts m2) : CSs X T W (st :: sts) (sSeq m1 m2) := by
  refine (pss_cons h1 h2).mono fun D σ H ⟨ι, mh, ps, sm, st, o⟩ => ?_
  refine ⟨ι, mh, ps, sm, st, ?_⟩
  unfold sSeq at o
  cases e : m1 ps mh with
  | ok f ps1 mh1 =>
    rw [e] at o
    cases f with
    | nx => exact fun σ' H' ι' g s t => ⟨ι', mh1, ps1, s, t, OutS.mono (r := m2 ps1 mh1) g o⟩
    | bk => exact o
    | ct => exact o
    | rt x => exact o
  | exc c w ps1 mh1 => rw [e] at o; exact o
  | stk => rw [e] at o; exact o
theorem cs_pass : CSt X T W (.Pass pos) sNext := ps_pass.mono fun D σ H ⟨ι, mh, ps, sm, st, o⟩ => o σ H ι (Gr.refl _ _) sm st
theorem cs_break : CSt X T W (.Break pos) sBreak := ps_break.mono fun D σ H ⟨ι, mh, ps, sm, st, o⟩ => o σ H ι (Gr.refl _ _) sm st
theorem cs_continue : CSt X T W (.Continue pos) sCont := ps_continue.mono fun D σ H ⟨ι, mh, ps, sm, st, o⟩ => o σ H ι (Gr.refl _ _) sm st
theorem cs_expr (he : CE X T W e me) (hs : swapsWith e none pos.line X.env = pure false) : CSt X T W (.Expr e pos) (sExpr me) := by
  refine (ps_expr he hs).mono fun D σ H ⟨ι, mh, ps, sm, st, o⟩ => ?_
  exact ⟨ι, mh, ps, sm, st, (OutS.bindE st o).imp fun v H1 ⟨ι1, mh1, x, g1, s1, r1, o1⟩ => o1 σ H1 ι1 (Gr.refl _ _) s1 (st.mono g1)⟩
theorem cs_ret (he : CE X T W e me) : CSt X T W (.Return (some e) pos) (sRet me) := by
  refine (ps_ret he).mono fun D σ H ⟨ι, mh, ps, sm, st, o⟩ => ?_
  exact ⟨ι, mh, ps, sm, st, (OutS.bindE st o).imp fun v H1 ⟨ι1, mh1, x, g1, s1, r1, o1⟩ => o1 v H1 ι1 (Gr.refl _ _) s1 r1⟩
theorem cs_retN : CSt X T W (.Return none pos) sRetN := ps_retN.mono fun D σ H ⟨ι, mh, ps, sm, st, o⟩ => o .non H ι (Gr.refl _ _) sm .non
theorem cs_if {mt : TSm} {s1 s2 : List Stmt} (hc : CT X T W c mt) (h1 : CSs X T W s1 m1) (h2 : CSs X T W s2 m2) : CSt X T W (.If c s1 s2 pos) (sIf mt m1 m2) := by
  refine (ps_if hc h1 h2).mono fun D σ H ⟨ι, mh, ps, sm, st, o⟩ => ?_
  refine ⟨ι, mh, ps, sm, st, (OutS.bindT st o).imp fun k H1 ⟨ι1, mh1, g1, s1, o1⟩ => ?_⟩
  cases k with
  | true => exact ⟨ι1, mh1, ps, s1, st.mono g1, o1⟩
  | false => exact ⟨ι1, mh1, ps, s1, st.mono g1, o1⟩
/-! targets -/
theorem cg_name {i : Nat} {x : Str} (hN : X.N.Nodup) (hi : X.N[i]? = some x) (hx : Loc X.env.scope x) (hf : X.fn x = true ∨ X.env.scope.names.lookup x = some .local) (hm : i ∈ is) : CG X T W is (.Name x pos) (gNm i) := by
  refine (pg_name hN hi hx hf).mono fun v σ H Q ⟨ι, mh, ps, px, sm, st, r, o⟩ => ?_
  exact o _ H ι (Gr.refl _ _) sm (st.set i r) (wipe_set hm)
theorem cgs_nil : CGs X T W is [] gsNil := by
  refine pgs_nil.mono fun vs σ H Q ⟨ι, mh, ps, xs, sm, st, r, o⟩ => ?_
  cases r with
  | nil => exact ⟨rfl, o σ H ι (Gr.refl _ _) sm st rfl⟩
  | cons _ _ => exact (show False from o).elim
theorem cgs_cons {es : List Expr} {g : GS} {gs : GsS} (h1 : CG X T W is e g) (h2 : CGs X T W is es gs) (hs : (assignEach (e :: es) X.env).map (·.2) = assign e X.env :: (assignEach es X.env).map (·.2)) : CGs X T W is (e :: es) (gsCons g gs) := by
  refine (pgs_cons h1 h2 hs).mono fun vs σ H Q ⟨ι, mh, ps, xs, sm, st, r, o⟩ => ?_
  cases r with
  | nil => exact (show False from o).elim
  | @cons v x vs xs h r =>
    refine ⟨v, vs, rfl, ι, mh, ps, x, sm, st, h, ?_⟩
    unfold gsCons at o
    simp only at o
    cases e1 : g x ps mh with
    | ok f ps1 mh1 =>
      rw [e1] at o
      cases f with
      | nx =>
        simp only at o
        intro σ' H' ι' g' s' t' hw
        refine ⟨ι', mh1, ps1, xs, s', t', r.mono g', ?_⟩
        rw [hw]
        exact OutS.mono (r := gs xs ps1 mh1) g' o
      | bk => exact (show False from o).elim
      | ct => exact (show False from o).elim
      | rt _ => exact (show False from o).elim
    | exc c w ps1 mh1 => rw [e1] at o; exact o
    | stk => rw [e1] at o; exact o
theorem cg_tup {es : List Expr} {k n : Nat} {gs : GsS} (hc : X.calm = true) (h : CGs X T W is es gs) (hn : (assignEach es X.env).length = n) (hst : (assignEach es X.env).findIdx? (·.1) = none) : CG X T W is (.Tuple es k pos) (gTupS n gs) := by
  refine (pg_tup hc h hn hst).mono fun v σ H Q ⟨ι, mh, ps, x, sm, st, r, o⟩ => ?_
  unfold gTupS at o
  cases r with
  | @tup a vs xs h r =>
    simp only at o
    by_cases hl : xs.length = n
    · rw [if_pos hl] at o
      exact ⟨a, vs, rfl, h, by rw [r.length]; exact hl, ι, mh, ps, xs, sm, st, r, o⟩
    · rw [if_neg hl] at o
      exact (show False from o).elim
  | _ => exact (show False from o).elim
theorem set_okV {pins : List (Addr × Obj)} {s : Shared} {σ : St} {H : Hp} {o i v : V} {ov iv u : Value} {Q : Hp → Prop} (I : Inv X pins σ H s) (ro : RelV o ov) (ri : RelV i iv) (rv : RelV v u)
    (h : ∃ ι mh ps po pi pv, Sim (gl X T) ι H mh ∧ Rep (gl X T) ι H o po ∧ Rep (gl X T) ι H i pi ∧ Rep (gl X T) ι H v pv ∧ SimSt (gl X T) ι H σ ps ∧ OutS (gl X T) W { nx := fun _ H' => Q H', rt := fun _ _ => False } ι H (setV po pi pv ps mh)) :
    wpAny (model X.prog X.w) X.A (setItem ov iv u) (fun _ s' => ∃ H', Inv X pins σ H' s' ∧ Q H') X.xe s := by
  obtain ⟨ι, mh, ps, po, pi, pv, sm, r1, r2, r3, st, out⟩ := h
  unfold setV at out
  split at out
  · rename_i n k
    cases e : getM mh n with
    | none => rw [e] at out; exact (show False from out).elim
    | some xs =>
      rw [e] at out
      simp only at out
      cases e2 : ixN xs.length k with
      | none => rw [e2] at out; exact (show False from out).elim
      | some j =>
        rw [e2] at out
        simp only at out
        obtain ⟨a, vs, q1, q2, q3⟩ := getM_ob sm e
        cases r1.refAt q1
        cases r2.intI
        refine set_list pins s σ H _ _ v ov iv u Q I ro ri rv ⟨a, vs, k, j, rfl, rfl, q2, by rw [q3.length]; exact e2, ?_⟩
        exact out σ _ ι (Gr.wrLst q2) (sm.wrLst (getM_at e) q1 q2 (Reps.set r3 j q3)) (st.mono (Gr.wrLst q2))
  · exact (show False from out).elim
theorem cg_sub {o i : Expr} {mo mi : ES} (ho : CE X T W o mo) (hi : CE X T W i mi) (ha : ∀ v, assign (.Subscript o i pos) X.env v = (do
      let ov ← holding [v] (eval o X.env)
      let iv ← holding [v, ov] (eval i X.env)
      standAt pos
      holding [v, ov, iv] (setItem ov iv v)
      release [v, ov, iv] [])) : CG X T W is (.Subscript o i pos) (gSubS mo mi) := by
  refine ⟨fun pins s σ H v u Q I r ⟨ι, mh, ps, x, sm, st, rx, out⟩ => ?_⟩
  rw [ha]
  refine wpAny_bind (wpAny_holding (thn (ho.run pins s σ H (fun ov H1 => ∃ ι1 mh1 po, Gr ι H ι1 H1 ∧ Sim (gl X T) ι1 H1 mh1 ∧ Rep (gl X T) ι1 H1 ov po ∧
    OutS (gl X T) W { nx := fun σ' H' => wipe σ' is = wipe σ is → Q σ' H', rt := fun _ _ => False } ι1 H1 ((mi ps mh1).bindS ps fun iv mh => setV po iv x ps mh)) I ⟨ι, mh, ps, sm, st, ?_⟩) fun ov s1 ⟨xo, H1, I1, r1, ι1, mh1, po, g1, s1', rp, o1⟩ => ?_))
  · exact OutS.bindE st out
  refine wpAny_bind (wpAny_holding (thn (hi.run pins s1 σ H1 (fun iv H2 => ∃ ι2 mh2 pi, Gr ι1 H1 ι2 H2 ∧ Sim (gl X T) ι2 H2 mh2 ∧ Rep (gl X T) ι2 H2 iv pi ∧
    OutS (gl X T) W { nx := fun σ' H' => wipe σ' is = wipe σ is → Q σ' H', rt := fun _ _ => False } ι2 H2 (setV po pi x ps mh2)) I1 ⟨ι1, mh1, ps, s1', st.mono g1, ?_⟩) fun iv s2 ⟨xi, H2, I2, r2, ι2, mh2, pi, g2, s2', rp2, o2⟩ => ?_))
  · exact OutS.bindE (st.mono g1) o1
  refine wpAny_bind (wpAny_standAt (wpAny_bind (wpAny_holding (thn (set_okV (T := T) (W := W) (Q := fun H' => Q σ H') I2 r1 r2 r ⟨ι2, mh2, ps, po, pi, x, s2', rp.mono g2, rp2, rx.mono (g1.trans g2), (st.mono g1).mono g2, ?_⟩) fun _ s3 ⟨H3, I3, q3⟩ => ?_))))
  · unfold setV at o2 ⊢
    cases po with
    | ref n => ?_
    | _ => exact o2
    cases pi with
    | int k => ?_
    | _ => exact o2
    simp only at o2 ⊢
    cases e : getM mh2 n with
    | none => rw [e] at o2; exact o2
    | some xs =>
      rw [e] at o2
      simp only at o2 ⊢
      cases e2 : ixN xs.length k with
      | none => rw [e2] at o2; exact o2
      | some j =>
        rw [e2] at o2
        exact fun σ' H' ι' g s t => o2 σ H' ι' g s (((st.mono g1).mono g2).mono g) rfl
  · exact wpAny_release ⟨σ, H3, I3, q3⟩
/-! assignments -/
theorem cs_asg {tg : Expr} {g : GS} (he : CE X T W e me) (hg : CG X T W is tg g) (hs : swapsWithSole [tg] e pos.line X.env = pure false) (hw : swappedStores [tg] e X.env = pure none) (h1 : (assignEach [tg] X.env).map (·.2) = [assign tg X.env]) :
    CSt X T W (.Assign [tg] e pos) (sAsg me g) := by
  refine (ps_asg he hg hs hw h1).mono fun D σ H ⟨ι, mh, ps, sm, st, o⟩ => ?_
  refine ⟨ι, mh, ps, sm, st, (OutS.bindE st o).imp fun v H1 ⟨ι1, mh1, x, g1, s1, r1, o1⟩ => ?_⟩
  refine ⟨ι1, mh1, ps, x, s1, st.mono g1, r1, ?_⟩
  cases e1 : g x ps mh1 with
  | ok f ps2 mh2 =>
    rw [e1] at o1
    cases f with
    | nx => exact fun σ' H' ι' g s t _ => o1 σ' H' ι' g s t
    | bk => exact (show False from o1).elim
    | ct => exact (show False from o1).elim
    | rt _ => exact (show False from o1).elim
  | exc c w ps2 mh2 => rw [e1] at o1; exact o1
  | stk => rw [e1] at o1; exact o1
theorem cs_par {i j : Nat} {x y : Str} {px py pt : Pos} {kt k2 pt2} {mr : AS} (hc : X.calm = true) (hN : X.N.Nodup) (hi : X.N[i]? = some x) (hj : X.N[j]? = some y) (hij : i ≠ j)
    (hx : X.env.scope.names.lookup x = some .local) (hy : X.env.scope.names.lookup y = some .local) (ha : CA X T W [a, b] mr)
    (hw : swappedStores [.Tuple [.Name x px, .Name y py] kt pt] (.Tuple [a, b] k2 pt2) X.env = pure (some [x, y])) (hs : swapsWithSole [.Tuple [.Name x px, .Name y py] kt pt] (.Tuple [a, b] k2 pt2) pos.line X.env = pure false) :
    CSt X T W (.Assign [.Tuple [.Name x px, .Name y py] kt pt] (.Tuple [a, b] k2 pt2) pos) (sPar i j mr) := by
  refine (ps_par hc hN hi hj hij hx hy ha hw hs).mono fun D σ H ⟨ι, mh, ps, sm, st, o⟩ => ?_
  refine ⟨ι, mh, ps, sm, st, (OutS.bindA st o).imp fun vs H1 ⟨ι1, mh1, xs, g1, s1, r1, o1⟩ => ?_⟩
  split at o1
  · obtain ⟨v, w, rfl, q1, q2⟩ := r1.inv2
    exact ⟨v, w, rfl, o1 _ H1 ι1 (Gr.refl _ _) s1 (((st.mono g1).set i q1).set j q2)⟩
  · exact (show False from o1).elim
end
end Px

set_option Elab.async false
set_option linter.all false
set_option maxRecDepth 100000
set_option maxHeartbeats 4000000
namespace Px
open PySem PySem.Spec PyProof.Rows L2

/-! ## loops: what is walked -/
/-- turn by turn: the next item, or none; at most so many turns -/
structure ItP where
  nxt : Nat → MH → R (Option PV)
  most : Nat
abbrev IS := PSt → MH → R ItP
def itList (n len : Nat) : ItP := ⟨fun i mh => match getL mh n with
  | some xs => .ok xs[i]? mh
  | none => .stk, len⟩
def itVals (xs : List PV) : ItP := ⟨fun i mh => .ok xs[i]? mh, xs.length⟩
def itRange (lo : Int) (n : Nat) : ItP := ⟨fun i mh => .ok (if i < n then some (.int (lo + i)) else none) mh, n⟩
/-- the items of a list or a tuple -/
def iterP (x : PV) (mh : MH) : R ItP := match x with
  | .tup xs => .ok (itVals xs) mh
  | .ref n => match getL mh n with
    | some xs => .ok (itList n xs.length) mh
    | none => .stk
  | _ => .stk
def iSeqP (e : ES) : IS := fun ps mh => (e ps mh).bind iterP
def rng1P (x : PV) (mh : MH) : R ItP := match x with
  | .int j => if -(2 ^ 62) ≤ j ∧ j < 2 ^ 62 then .ok (itRange 0 j.toNat) mh else .stk
  | _ => .stk
def rng2P (x y : PV) (mh : MH) : R ItP := match x, y with
  | .int i, .int j => if -(2 ^ 62) ≤ i ∧ i < 2 ^ 62 ∧ -(2 ^ 62) ≤ j ∧ j < 2 ^ 62 then .ok (itRange i (j - i).toNat) mh else .stk
  | _, _ => .stk
def iRng1P (a : ES) : IS := fun ps mh => (a ps mh).bind rng1P
def iRng2P (a b : ES) : IS := fun ps mh => (a ps mh).bind fun x mh => (b ps mh).bind fun y mh => rng2P x y mh
/-- the model's iterator does what the plain one does -/
def MatchIt (G : Glob) (J : It) (it : ItP) (ι0 : List Addr) (H0 : Hp) : Prop := ∀ (ι : List Addr) (H : Hp) (mh : MH) (i : Nat), Gr ι0 H0 ι H → Sim G ι H mh → match it.nxt i mh with
  | .ok none _ => J.stop i H
  | .ok (some x) mh' => J.go i H ∧ ∀ v H', J.yld i H v H' → ∃ ι', Gr ι H ι' H' ∧ Sim G ι' H' mh' ∧ Rep G ι' H' v x
  | _ => True
def OutI (G : Glob) (E : XK) (ι : List Addr) (H : Hp) (r : R ItP) (Rq : It → Hp → Prop) : Prop := match r with
  | .ok it mh => ∀ J H' ι', Gr ι H ι' H' → Sim G ι' H' mh → MatchIt G J it ι' H' → Rq J H'
  | .exc c w mh => ∀ cv d H' ι', Gr ι H ι' H' → Sim G ι' H' mh → ExV G ι' H' cv d c w → E cv d H'
  | .stk => False
def rdI (G : Glob) (W : WX) (m : IS) : TI := fun σ H Rq => ∃ ι mh ps, Sim G ι H mh ∧ SimSt G ι H σ ps ∧ OutI G (WE W σ) ι H (m ps mh) Rq
abbrev CI (X : Cx) (T : List (Addr × Str)) (W : WX) (tg it : Expr) (m : IS) : Prop := PI X tg it (rdI (gl X T) W m)
theorem match_list {G : Glob} {ι : List Addr} {H : Hp} {n len : Nat} {a : Addr} (h : ι[n]? = some a) : MatchIt G (Itl G.K a) (itList n len) ι H := by
  intro ι1 H1 mh i g s
  unfold itList
  simp only
  cases e : getL mh n with
  | none => trivial
  | some xs =>
    obtain ⟨a', vs, q1, q2, q3⟩ := getL_ob s e
    rw [g.ix h] at q1; cases q1
    simp only
    cases e2 : xs[i]? with
    | none =>
      refine ⟨vs, q2, ?_⟩
      rw [q3.length]
      exact List.getElem?_eq_none_iff.mp e2
    | some x =>
      obtain ⟨v, h1, h2⟩ := q3.get e2
      refine ⟨⟨vs, v, q2, h1⟩, fun v' H' ⟨eH, hy⟩ => ?_⟩
      subst eH
      have z := hy vs q2
      rw [h1] at z; cases z
      exact ⟨ι1, Gr.refl _ _, s, h2⟩
theorem match_tup {G : Glob} {ι : List Addr} {H : Hp} {a : Addr} {vs : List V} {xs : List PV} (h : SqT G.K H a vs) (r : Reps G ι H vs xs) : MatchIt G (Itt G.K a) (itVals xs) ι H := by
  intro ι1 H1 mh i g s
  unfold itVals
  simp only
  have q2 := g.sqT h
  have q3 := r.mono g
  cases e2 : xs[i]? with
  | none =>
    refine ⟨vs, q2, ?_⟩
    rw [q3.length]
    exact List.getElem?_eq_none_iff.mp e2
  | some x =>
    obtain ⟨v, h1, h2⟩ := q3.get e2
    refine ⟨⟨vs, v, q2, h1⟩, fun v' H' ⟨eH, hy⟩ => ?_⟩
    subst eH
    have z := hy vs q2
    rw [h1] at z; cases z
    exact ⟨ι1, Gr.refl _ _, s, h2⟩
theorem match_range {G : Glob} {ι : List Addr} {H : Hp} {lo : Int} {n : Nat} : MatchIt G (Itr lo n) (itRange lo n) ι H := by
  intro ι1 H1 mh i g s
  unfold itRange
  simp only
  by_cases h : i < n
  · rw [if_pos h]
    refine ⟨h, fun v H' ⟨eH, ev⟩ => ?_⟩
    subst eH ev
    exact ⟨ι1, Gr.refl _ _, s, .int _⟩
  · rw [if_neg h]
    exact Nat.le_of_not_lt h

/-! ## loops: the combinators -/
def forL (nxt : Nat → MH → R (Option PV)) (g : GS) (body : SS) : Nat → Nat → PSt → MH → RS
  | fuel, i, ps, mh => match nxt i mh with
    | .ok none _ => .ok .nx ps mh
    | .ok (some x) mh1 => match fuel with
      | 0 => .stk
      | fuel + 1 => match onlyNx (g x ps mh1) with
        | .ok _ ps mh => match body ps mh with
          | .ok .nx ps mh => forL nxt g body fuel (i + 1) ps mh
          | .ok .ct ps mh => forL nxt g body fuel (i + 1) ps mh
          | .ok .bk ps mh => .ok .nx ps mh
          | .ok (.rt x) ps mh => .ok (.rt x) ps mh
          | .exc c w ps mh => .exc c w ps mh
          | .stk => .stk
        | .exc c w ps mh => .exc c w ps mh
        | .stk => .stk
    | _ => .stk
def sFor (it : IS) (g : GS) (body : SS) : SS := fun ps mh => (it ps mh).bindS ps fun I mh => forL I.nxt g body I.most 0 ps mh
def whileN (c : TSm) (body : SS) : Nat → PSt → MH → RS
  | 0, _, _ => .stk
  | n + 1, ps, mh => (c ps mh).bindS ps fun k mh => if k = true then (match body ps mh with
    | .ok .nx ps mh => whileN c body n ps mh
    | .ok .ct ps mh => whileN c body n ps mh
    | .ok .bk ps mh => .ok .nx ps mh
    | .ok (.rt x) ps mh => .ok (.rt x) ps mh
    | .exc c w ps mh => .exc c w ps mh
    | .stk => .stk) else .ok .nx ps mh
open Classical in
noncomputable def sWhile (c : TSm) (body : SS) : SS := fun ps mh => if h : ∃ n, whileN c body n ps mh ≠ .stk then whileN c body h.choose ps mh else .stk
/-- nothing but what was told may leave -/
def lcL (nxt : Nat → MH → R (Option PV)) (g : GS) (c : TSm) (e : ES) (n : Nat) (ps0 : PSt) : Nat → Nat → MH → R PV
  | fuel, i, mh => match nxt i mh with
    | .ok none _ => .ok (.ref n) mh
    | .ok (some x) mh1 => match fuel with
      | 0 => .stk
      | fuel + 1 => match onlyNx (g x ps0 mh1) with
        | .ok _ ps mh => match c ps mh with
          | .ok true mh => match e ps mh with
            | .ok y mh => match getM mh n with
              | some acc => if acc.length < sizeLine then lcL nxt g c e n ps0 fuel (i + 1) (mh.set n (.lst (acc ++ [y]))) else .stk
              | none => .stk
            | _ => .stk
          | .ok false mh => lcL nxt g c e n ps0 fuel (i + 1) mh
          | _ => .stk
        | _ => .stk
    | _ => .stk
def wipeP (ps : PSt) : List Nat → PSt
  | [] => ps
  | v :: vs => (wipeP ps vs).set v none
def eLc (it : IS) (g : GS) (c : TSm) (e : ES) (vs : List Nat) : ES := fun ps mh => (it ps mh).bind fun I mh => lcL I.nxt g c e mh.length (wipeP ps vs) I.most 0 (mh ++ [.lst []])
def tTrueP : TSm := fun _ mh => .ok true mh

section
variable {X : Cx} {T : List (Addr × Str)} {W : WX} {is : List Nat} {a b c e tg : Expr} {ma mb mc me : ES} {pos : Pos} {sts : List Stmt} {m : SS} {mi : IS} {g : GS} {mt : TSm}
theorem OutS.bindI {G : Glob} {W : WX} {D : Ends} {ι : List Addr} {H : Hp} {σ : St} {ps : PSt} {r : R ItP} {f : ItP → MH → RS} (st : SimSt G ι H σ ps) (o : OutS G W D ι H (r.bindS ps f)) :
    OutI G (WE W σ) ι H r fun J H1 => ∃ ι1 mh it, Gr ι H ι1 H1 ∧ Sim G ι1 H1 mh ∧ MatchIt G J it ι1 H1 ∧ OutS G W D ι1 H1 (f it mh) := by
  cases r with
  | ok x mh => exact fun J H' ι' g s p => ⟨ι', mh, x, g, s, p, OutS.mono (r := f x mh) g o⟩
  | exc c w mh => exact fun cv d H' ι' g s e => o cv d σ H' ι' g s (st.mono g) e
  | stk => exact o
theorem OutE.bindI {G : Glob} {E : XK} {ι : List Addr} {H : Hp} {r : R ItP} {f : ItP → MH → R PV} {Q : VK} (o : OutE G E ι H (r.bind f) Q) :
    OutI G E ι H r fun J H1 => ∃ ι1 mh it, Gr ι H ι1 H1 ∧ Sim G ι1 H1 mh ∧ MatchIt G J it ι1 H1 ∧ OutE G E ι1 H1 (f it mh) Q := by
  cases r with
  | ok x mh => exact fun J H' ι' g s p => ⟨ι', mh, x, g, s, p, OutE.mono (r := f x mh) g o⟩
  | exc c w mh => exact o
  | stk => exact o
theorem OutI.imp {G : Glob} {E : XK} {ι : List Addr} {H : Hp} {r : R ItP} {Q Q' : It → Hp → Prop} (o : OutI G E ι H r Q) (h : ∀ v H', Q v H' → Q' v H') : OutI G E ι H r Q' := by
  cases r with
  | ok x mh => exact fun v H' ι' g s p => h v H' (o v H' ι' g s p)
  | exc c w mh => exact o
  | stk => exact o
/-- e is a list or a tuple -/
theorem ci_seq (he : CE X T W e me) : CI X T W tg e (iSeqP me) := by
  refine ⟨fun pins s σ H Rq I ⟨ι, mh, ps, sm, st, o⟩ => ?_⟩
  unfold iSeqP at o
  cases e1 : me ps mh with
  | ok x mh1 =>
    rw [e1] at o
    cases x with
    | tup xs =>
      refine (pi_tup he).run pins s σ H Rq I ⟨ι, mh, ps, sm, st, ?_⟩
      rw [e1]
      intro v H' ι' g s r
      obtain ⟨a, vs, rfl, q1, q2⟩ := r.tupI
      exact ⟨a, rfl, ⟨vs, q1⟩, o _ H' ι' g s (match_tup q1 q2)⟩
    | ref n =>
      refine (pi_list he).run pins s σ H Rq I ⟨ι, mh, ps, sm, st, ?_⟩
      rw [e1]
      have o1 : OutI (gl X T) (WE W σ) ι H (iterP (.ref n) mh1) Rq := o
      unfold iterP at o1
      simp only at o1
      cases e2 : getL mh1 n with
      | none => rw [e2] at o1; exact o1.elim
      | some xs =>
        rw [e2] at o1
        intro v H' ι' g s r
        obtain ⟨a, vs, q1, q2, q3⟩ := getL_ob s e2
        cases r.refAt q1
        exact ⟨a, rfl, ⟨vs, q2⟩, o1 _ H' ι' g s (match_list q1)⟩
    | _ => exact (show False from o).elim
  | exc c w mh1 =>
    rw [e1] at o
    refine (pi_list he).run pins s σ H Rq I ⟨ι, mh, ps, sm, st, ?_⟩
    rw [e1]
    exact o
  | stk =>
    rw [e1] at o
    exact (show False from o).elim
theorem OutI.mono {G : Glob} {E : XK} {ι ι1 : List Addr} {H H1 : Hp} {r : R ItP} {Q : It → Hp → Prop} (g : Gr ι H ι1 H1) (o : OutI G E ι H r Q) : OutI G E ι1 H1 r Q := by
  cases r with
  | ok x mh => exact fun v H' ι' g' => o v H' ι' (g.trans g')
  | exc c w mh => exact fun cv d H' ι' g' => o cv d H' ι' (g.trans g')
  | stk => exact o
theorem OutI.bindE {G : Glob} {E : XK} {ι : List Addr} {H : Hp} {r : R PV} {f : PV → MH → R ItP} {Q : It → Hp → Prop} (o : OutI G E ι H (r.bind f) Q) :
    OutE G E ι H r fun v H1 => ∃ ι1 mh x, Gr ι H ι1 H1 ∧ Sim G ι1 H1 mh ∧ Rep G ι1 H1 v x ∧ OutI G E ι1 H1 (f x mh) Q := by
  cases r with
  | ok x mh => exact fun v H' ι' g s p => ⟨ι', mh, x, g, s, p, OutI.mono (r := f x mh) g o⟩
  | exc c w mh => exact o
  | stk => exact o
theorem ci_range1 {p : Pos} (hg : Gl X "range") (hm : X.mg "range" = none) (ha : CE X T W a ma) (hs : starEach [a] X.env = [(false, eval a X.env)]) : CI X T W tg (.Call (.Name "range" p) [a] [] pos) (iRng1P ma) := by
  refine (pi_range1 hg hm (pa_cons ha pa_nil hs) hs).mono fun σ H Rq ⟨ι, mh, ps, sm, st, o⟩ => ?_
  refine ⟨ι, mh, ps, sm, st, (OutI.bindE o).imp fun v H1 ⟨ι1, mh1, x, g1, s1, r1, o1⟩ => ?_⟩
  unfold rng1P at o1
  cases r1 with
  | int j =>
    simp only at o1
    split at o1
    · rename_i h
      exact ⟨_, rfl, h.1, h.2, o1 _ H1 ι1 (Gr.refl _ _) s1 match_range⟩
    · exact o1.elim
  | _ => exact (show False from o1).elim
theorem ci_range2 {p : Pos} (hg : Gl X "range") (hm : X.mg "range" = none) (ha : CE X T W a ma) (hb : CE X T W b mb) (hs : starEach [a, b] X.env = [(false, eval a X.env), (false, eval b X.env)]) (hs2 : starEach [b] X.env = [(false, eval b X.env)]) :
    CI X T W tg (.Call (.Name "range" p) [a, b] [] pos) (iRng2P ma mb) := by
  refine (pi_range2 hg hm (pa_cons ha (pa_cons hb pa_nil hs2) (by rw [hs, hs2])) hs hs2).mono fun σ H Rq ⟨ι, mh, ps, sm, st, o⟩ => ?_
  refine ⟨ι, mh, ps, sm, st, (OutI.bindE o).imp fun v H1 ⟨ι1, mh1, x, g1, s1, r1, o1⟩ => ?_⟩
  refine ⟨ι1, mh1, ps, s1, st.mono g1, (OutI.bindE o1).imp fun w H2 ⟨ι2, mh2, y, g2, s2, r2, o2⟩ => ?_⟩
  unfold rng2P at o2
  cases r1 with
  | int i =>
    cases r2 with
    | int j =>
      simp only at o2
      split at o2
      · rename_i h
        exact ⟨_, _, rfl, h, o2 _ H2 ι2 (Gr.refl _ _) s2 match_range⟩
      · exact o2.elim
    | _ => exact (show False from o2).elim
  | _ => cases r2 <;> exact (show False from o2).elim
/-! the for -/
theorem cs_for {iter : Expr} {body : List Stmt} (hp : PassesOwn (model X.prog X.w) X.A X.env X.xe) (hc : X.calm = true) (hi : CI X T W tg iter mi) (hg : CG X T W is tg g) (hb : CSs X T W body m)
    (hs : ∀ x, foldedSetIterable iter X.env x = pure x) : CSt X T W (.For tg iter body [] pos) (sFor mi g m) := by
  refine (ps_for hp hc hi hg hb hs).mono fun D σ H ⟨ι, mh, ps, sm, st, o⟩ => ?_
  refine ⟨ι, mh, ps, sm, st, (OutS.bindI st o).imp fun J H1 ⟨ι1, mh1, it, g1, s1, mt, o1⟩ => ?_⟩
  refine ⟨fun i n σ' H' => ∃ ι' mh' ps', Gr ι1 H1 ι' H' ∧ Sim (gl X T) ι' H' mh' ∧ SimSt (gl X T) ι' H' σ' ps' ∧ OutS (gl X T) W D ι' H' (forL it.nxt g m n i ps' mh'), ⟨it.most, ι1, mh1, ps, Gr.refl _ _, s1, st.mono g1, o1⟩, ?_⟩
  rintro i n σ2 H2 ⟨ι2, mh2, ps2, g2, s2, t2, o2⟩
  have q := mt ι2 H2 mh2 i g2 s2
  cases e : it.nxt i mh2 with
  | exc c w mh3 =>
    cases n <;> (unfold forL at o2; rw [e] at o2; exact (show False from o2).elim)
  | stk =>
    cases n <;> (unfold forL at o2; rw [e] at o2; exact (show False from o2).elim)
  | ok z mh3 =>
    rw [e] at q
    cases z with
    | none =>
      have o3 : OutS (gl X T) W D ι2 H2 (.ok .nx ps2 mh2) := by
        cases n <;> (unfold forL at o2; rw [e] at o2; exact o2)
      exact .inl ⟨q, o3 σ2 H2 ι2 (Gr.refl _ _) s2 t2⟩
    | some x =>
      obtain ⟨q1, q2⟩ := q
      refine .inr ⟨q1, ?_⟩
      cases n with
      | zero =>
        unfold forL at o2
        rw [e] at o2
        exact (show False from o2).elim
      | succ n =>
        refine ⟨_, fun σ' H' h => ⟨n, Nat.lt_succ_self n, h⟩, fun v H3 hy => ?_⟩
        obtain ⟨ι3, g3, s3, r3⟩ := q2 v H3 hy
        refine ⟨ι3, mh3, ps2, x, s3, t2.mono g3, r3, ?_⟩
        unfold forL at o2
        rw [e] at o2
        simp only at o2
        cases e2 : g x ps2 mh3 with
        | ok f ps4 mh4 =>
          rw [e2] at o2
          cases f with
          | nx =>
            simp only [onlyNx] at o2
            intro σ4 H4 ι4 g4 s4 t4 _
            refine ⟨ι4, mh4, ps4, s4, t4, ?_⟩
            have gg : Gr ι2 H2 ι4 H4 := g3.trans g4
            cases e3 : m ps4 mh4 with
            | ok f ps5 mh5 =>
              rw [e3] at o2
              cases f with
              | nx => exact fun σ' H' ι' g' s' t' => ⟨ι', mh5, ps5, (g2.trans gg).trans g', s', t', OutS.mono (r := forL it.nxt g m n (i + 1) ps5 mh5) (gg.trans g') o2⟩
              | ct => exact fun σ' H' ι' g' s' t' => ⟨ι', mh5, ps5, (g2.trans gg).trans g', s', t', OutS.mono (r := forL it.nxt g m n (i + 1) ps5 mh5) (gg.trans g') o2⟩
              | bk => exact fun σ' H' ι' g' s' t' => o2 σ' H' ι' (gg.trans g') s' t'
              | rt y => exact fun v' H' ι' g' s' r' => o2 v' H' ι' (gg.trans g') s' r'
            | exc c w ps5 mh5 =>
              rw [e3] at o2
              exact fun cv d σ' H' ι' g' s' t' x' => o2 cv d σ' H' ι' (gg.trans g') s' t' x'
            | stk => rw [e3] at o2; exact o2
          | bk => exact (show False from o2).elim
          | ct => exact (show False from o2).elim
          | rt y => exact (show False from o2).elim
        | exc c w ps4 mh4 =>
          rw [e2] at o2
          exact fun cv d σ' H' ι' g' s' t' x' => o2 cv d σ' H' ι' (g3.trans g') s' t' x'
        | stk => rw [e2] at o2; exact (show False from o2).elim
/-! the while -/
theorem cs_while {body : List Stmt} (hp : PassesOwn (model X.prog X.w) X.A X.env X.xe) (hc : CT X T W c mt) (hb : CSs X T W body m) : CSt X T W (.While c body [] pos) (sWhile mt m) := by
  refine (ps_while hp hc hb).mono fun D σ H ⟨ι, mh, ps, sm, st, o⟩ => ?_
  unfold sWhile at o
  split at o
  · rename_i hex
    refine ⟨fun n σ' H' => ∃ ι' mh' ps', Sim (gl X T) ι' H' mh' ∧ SimSt (gl X T) ι' H' σ' ps' ∧ OutS (gl X T) W D ι' H' (whileN mt m n ps' mh'), ⟨_, ι, mh, ps, sm, st, o⟩, ?_⟩
    rintro n σ2 H2 ⟨ι2, mh2, ps2, s2, t2, o2⟩
    cases n with
    | zero => exact (show False from o2).elim
    | succ n =>
      unfold whileN at o2
      refine ⟨ι2, mh2, ps2, s2, t2, (OutS.bindT t2 o2).imp fun k H3 ⟨ι3, mh3, g3, s3, o3⟩ => ?_⟩
      cases k with
      | false => exact o3 σ2 H3 ι3 (Gr.refl _ _) s3 (t2.mono g3)
      | true =>
        refine ⟨_, fun σ' H' h => ⟨n, Nat.lt_succ_self n, h⟩, ι3, mh3, ps2, s3, t2.mono g3, ?_⟩
        simp only [if_true] at o3
        cases e3 : m ps2 mh3 with
        | ok f ps5 mh5 =>
          rw [e3] at o3
          cases f with
          | nx => exact fun σ' H' ι' g' s' t' => ⟨ι', mh5, ps5, s', t', OutS.mono (r := whileN mt m n ps5 mh5) g' o3⟩
          | ct => exact fun σ' H' ι' g' s' t' => ⟨ι', mh5, ps5, s', t', OutS.mono (r := whileN mt m n ps5 mh5) g' o3⟩
          | bk => exact o3
          | rt y => exact o3
        | exc c w ps5 mh5 => rw [e3] at o3; exact o3
        | stk => rw [e3] at o3; exact o3
  · exact (show False from o).elim
/-! list comprehensions -/
theorem SimSt.wipe {G : Glob} {ι : List Addr} {H : Hp} {σ : St} {ps : PSt} (s : SimSt G ι H σ ps) : ∀ vs : List Nat, SimSt G ι H (L2.wipe σ vs) (wipeP ps vs)
  | [] => s
  | v :: vs => by
    have ih := SimSt.wipe s vs
    unfold L2.wipe wipeP
    refine ⟨by simp [ih.len], fun j y e => ?_⟩
    by_cases h : v = j
    · subst h
      have hi : v < (wipeP ps vs).length := by
        have := (List.getElem?_eq_some_iff.mp e).1
        simpa using this
      rw [List.getElem?_set_self hi] at e
      cases e
    · rw [List.getElem?_set_ne h] at e ⊢
      exact ih.at_ j y e
theorem cts_nil {XX : Cx} {WW : WX} : PTs XX [] (rdT (gl XX T) WW tTrueP) := ⟨fun pins s σ H Q I ⟨ι, mh, ps, sm, st, o⟩ => pts_nil.run pins s σ H Q I (o H ι (Gr.refl _ _) sm)⟩
theorem cts_one {XX : Cx} {WW : WX} {c : Expr} {m : TSm} (h : CT XX T WW c m) : PTs XX [c] (rdT (gl XX T) WW m) := pts_one h
def noW : WX := fun _ _ _ _ => False
theorem wipe_in {σ : St} {i : Nat} : ∀ {vs : List Nat}, i ∈ vs → i < σ.length → (wipe σ vs)[i]? = some none
  | v :: vs, h, hl => by
    unfold wipe
    by_cases e : v = i
    · subst e
      rw [List.getElem?_set_self (by rw [wipe_length]; exact hl)]
    · rw [List.getElem?_set_ne e]
      exact wipe_in ((List.mem_cons.mp h).elim (fun z => (e z.symm).elim) id) hl
theorem wipe_wipe (σ : St) (vs : List Nat) : wipe (wipe σ vs) vs = wipe σ vs := by
  refine List.ext_getElem? fun i => ?_
  by_cases h : i ∈ vs
  · by_cases hl : i < σ.length
    · rw [wipe_in h (by rw [wipe_length]; exact hl), wipe_in h hl]
    · rw [List.getElem?_eq_none (by rw [wipe_length, wipe_length]; omega), List.getElem?_eq_none (by rw [wipe_length]; omega)]
  · rw [wipe_out h]
theorem lc_read {G : Glob} {vs : List Nat} {σ : St} {H : Hp} {Q : VK} (hh : rdE G W (eLc mi g mt me vs) σ H Q) : tLc (rdI G W mi) (rdG G noW vs g) (rdT G noW mt) (rdE G noW me) vs σ H Q := by
  obtain ⟨ι, mh, ps, sm, st, o⟩ := hh
  refine ⟨ι, mh, ps, sm, st, (OutE.bindI o).imp fun J H1 ⟨ι1, mh1, it, g1, s1, mt', o1⟩ => ?_⟩
  intro D hD
  have gD : Gr ι1 H1 (ι1 ++ [D]) (upd H1 D (.lst [])) := Gr.newLst hD
  have sD := s1.newLst hD (vs := []) (xs := []) .nil
  have iD : (ι1 ++ [D])[mh1.length]? = some D := by rw [← s1.len]; simp
  refine ⟨fun i n H' => ∃ ι' mh', Gr (ι1 ++ [D]) (upd H1 D (.lst [])) ι' H' ∧ Sim G ι' H' mh' ∧ OutE G (WE W σ) ι' H' (lcL it.nxt g mt me mh1.length (wipeP ps vs) n i mh') Q,
    ⟨it.most, ι1 ++ [D], mh1 ++ [.lst []], Gr.refl _ _, sD, OutE.mono (r := lcL it.nxt g mt me mh1.length (wipeP ps vs) it.most 0 (mh1 ++ [.lst []])) gD o1⟩, ?_⟩
  rintro i n H2 ⟨ι2, mh2, g2, s2, o2⟩
  have q := mt' ι2 H2 mh2 i (gD.trans g2) s2
  have t2 : SimSt G ι2 H2 (L2.wipe σ vs) (wipeP ps vs) := ((st.mono g1).mono (gD.trans g2)).wipe vs
  cases e : it.nxt i mh2 with
  | exc c w mh3 =>
    cases n <;> (unfold lcL at o2; rw [e] at o2; exact (show False from o2).elim)
  | stk =>
    cases n <;> (unfold lcL at o2; rw [e] at o2; exact (show False from o2).elim)
  | ok z mh3 =>
    rw [e] at q
    cases z with
    | none =>
      have o3 : OutE G (WE W σ) ι2 H2 (.ok (.ref mh1.length) mh2) Q := by
        cases n <;> (unfold lcL at o2; rw [e] at o2; exact o2)
      exact .inl ⟨q, o3.okI s2 (.ref (g2.ix iD))⟩
    | some x =>
      obtain ⟨q1, q2⟩ := q
      refine .inr ⟨q1, ?_⟩
      cases n with
      | zero =>
        unfold lcL at o2
        rw [e] at o2
        exact (show False from o2).elim
      | succ n =>
        refine ⟨_, fun H' h => ⟨n, Nat.lt_succ_self n, h⟩, fun v H3 hy => ?_⟩
        obtain ⟨ι3, g3, s3, r3⟩ := q2 v H3 hy
        refine ⟨ι3, mh3, wipeP ps vs, x, s3, t2.mono g3, r3, ?_⟩
        unfold lcL at o2
        rw [e] at o2
        simp only at o2
        cases e2 : g x (wipeP ps vs) mh3 with
        | ok f ps4 mh4 =>
          rw [e2] at o2
          cases f with
          | nx =>
            simp only [onlyNx] at o2
            intro σ4 H4 ι4 g4 s4 t4 hw
            refine ⟨hw.trans ?_, ι4, mh4, ps4, s4, t4, ?_⟩
            · exact wipe_wipe σ vs
            have gg : Gr ι2 H2 ι4 H4 := g3.trans g4
            cases e3 : mt ps4 mh4 with
            | ok k mh5 =>
              rw [e3] at o2
              intro H5 ι5 g5 s5
              have g25 : Gr ι2 H2 ι5 H5 := gg.trans g5
              cases k with
              | false => exact ⟨ι5, mh5, g2.trans g25, s5, OutE.mono (r := lcL it.nxt g mt me mh1.length (wipeP ps vs) n (i + 1) mh5) g25 o2⟩
              | true =>
                refine ⟨ι5, mh5, ps4, s5, t4.mono g5, ?_⟩
                simp only at o2
                cases e4 : me ps4 mh5 with
                | ok y mh6 =>
                  rw [e4] at o2
                  intro w H6 ι6 g6 s6 r6
                  simp only at o2
                  cases e5 : getM mh6 mh1.length with
                  | none => rw [e5] at o2; exact (show False from o2).elim
                  | some acc =>
                    rw [e5] at o2
                    simp only at o2
                    by_cases hz : acc.length < sizeLine
                    · rw [if_pos hz] at o2
                      obtain ⟨a, ws, k1, k2, k3⟩ := getM_ob s6 e5
                      have ea : a = D := by
                        have z := ((g2.trans g25).trans g6).ix iD
                        rw [k1] at z; cases z
                        rfl
                      subst ea
                      have gw : Gr ι6 H6 ι6 (upd H6 a (.lst (ws ++ [w]))) := Gr.wrLst k2
                      exact ⟨ws, k2, by rw [k3.length]; exact hz, ι6, _, ((g2.trans g25).trans g6).trans gw, s6.wrLst (getM_at e5) k1 k2 (k3.append (.one r6)), OutE.mono (r := lcL it.nxt g mt me mh1.length (wipeP ps vs) n (i + 1) (mh6.set mh1.length (.lst (acc ++ [y])))) ((g25.trans g6).trans gw) o2⟩
                    · rw [if_neg hz] at o2
                      exact (show False from o2).elim
                | exc c w mh6 => rw [e4] at o2; exact (show False from o2).elim
                | stk => rw [e4] at o2; exact (show False from o2).elim
            | exc c w mh5 => rw [e3] at o2; exact (show False from o2).elim
            | stk => rw [e3] at o2; exact (show False from o2).elim
          | bk => exact (show False from o2).elim
          | ct => exact (show False from o2).elim
          | rt y => exact (show False from o2).elim
        | exc c w ps4 mh4 => rw [e2] at o2; exact (show False from o2).elim
        | stk => rw [e2] at o2; exact (show False from o2).elim
theorem ce_lc {iter : Expr} {ifs : List Expr} {scope : Scope} {own : List (Str × Nat)} (hc : X.calm = true) (hN : X.N.Nodup) (hi : CI X T W tg iter mi) (ok : BlkOk X.N X.env.scope scope own)
    (hg : ∀ (s : Shared) (H : Hp) (C : Addr) (cl : List (Str × Addr)) (fp : List Addr), CG (X.blk s H scope (compEnvC scope cl C X.env) fp) T noW (own.map (·.2)) tg g)
    (ht : ∀ (s : Shared) (H : Hp) (C : Addr) (cl : List (Str × Addr)) (fp : List Addr), PTs (X.blk s H scope (compEnvC scope cl C X.env) fp) ifs (rdT (gl X T) noW mt))
    (he : ∀ (s : Shared) (H : Hp) (C : Addr) (cl : List (Str × Addr)) (fp : List Addr), CE (X.blk s H scope (compEnvC scope cl C X.env) fp) T noW e me) (hs : ∀ x, foldedSetIterable iter X.env x = pure x) :
    CE X T W (.ListComp e [⟨tg, iter, ifs, 0⟩] scope pos) (eLc mi g mt me (own.map (·.2))) := by
  refine (pe_lc (g := rdG (gl X T) noW (own.map (·.2)) g) (tt := rdT (gl X T) noW mt) (te := rdE (gl X T) noW me) hc hN hi ok hg ht he hs).mono fun σ H Q hh => ?_
  exact lc_read hh
end
end Px

set_option Elab.async false
set_option linter.all false
set_option maxRecDepth 100000
set_option maxHeartbeats 4000000
namespace Px
open PySem PySem.Spec PyProof.Rows L2

/-! ## what a def leaves behind that nobody reaches is dropped -/
mutual
def refsV : PV → List Nat
  | .tup xs => refsVs xs
  | .ref n => [n]
  | .non => []
  | .bl _ => []
  | .int _ => []
  | .str _ => []
  | .fn _ => []
def refsVs : List PV → List Nat
  | [] => []
  | x :: xs => refsV x ++ refsVs xs
end
def refsO : MO → List Nat
  | .lst xs => refsVs xs
  | .frz xs => refsVs xs
def GcOk (mh mh' : MH) (v : PV) : Prop := mh.length ≤ mh'.length ∧ (∀ r ∈ refsV v, r < mh.length) ∧ ∀ i, i < mh.length → mh'[i]? = mh[i]? ∨ ∃ o, mh'[i]? = some o ∧ ∀ r ∈ refsO o, r < mh.length
open Classical in
noncomputable def gc (mh : MH) (r : R PV) : R PV := match r with
  | .ok v mh' => if GcOk mh mh' v then .ok v (mh'.take mh.length) else .ok v mh'
  | .exc c w mh' => if GcOk mh mh' w then .exc c w (mh'.take mh.length) else .exc c w mh'
  | .stk => .stk
mutual
theorem Rep.refs {G : Glob} {ι : List Addr} {H : Hp} : ∀ {v : V} {x : PV}, Rep G ι H v x → ∀ r ∈ refsV x, r < ι.length
  | _, _, .tup _ q => fun r hr => Reps.refs q r (by simpa only [refsV] using hr)
  | _, _, .ref h => fun r hr => by
    simp only [refsV, List.mem_singleton] at hr
    subst hr
    exact (List.getElem?_eq_some_iff.mp h).1
  | _, _, .non => fun r hr => by simp [refsV] at hr
  | _, _, .bl _ => fun r hr => by simp [refsV] at hr
  | _, _, .int _ => fun r hr => by simp [refsV] at hr
  | _, _, .str _ => fun r hr => by simp [refsV] at hr
  | _, _, .fn _ => fun r hr => by simp [refsV] at hr
theorem Reps.refs {G : Glob} {ι : List Addr} {H : Hp} : ∀ {vs : List V} {xs : List PV}, Reps G ι H vs xs → ∀ r ∈ refsVs xs, r < ι.length
  | _, _, .nil => fun r hr => by simp [refsVs] at hr
  | _, _, .cons h q => fun r hr => by
    simp only [refsVs, List.mem_append] at hr
    exact hr.elim (Rep.refs h r) (Reps.refs q r)
end
mutual
theorem Rep.less {G : Glob} {ι ι' : List Addr} {H : Hp} (hp : ∃ t, ι' = ι ++ t) : ∀ {v : V} {x : PV}, Rep G ι' H v x → (∀ r ∈ refsV x, r < ι.length) → Rep G ι H v x
  | _, _, .tup h q, hr => .tup h (Reps.less hp q fun r z => hr r (by simpa only [refsV] using z))
  | _, _, .ref (n := n) h, hr => .ref (by
    obtain ⟨t, e⟩ := hp
    have hl := hr n (by simp [refsV])
    rw [e, List.getElem?_append_left hl] at h
    exact h)
  | _, _, .non, _ => .non
  | _, _, .bl b, _ => .bl b
  | _, _, .int i, _ => .int i
  | _, _, .str x, _ => .str x
  | _, _, .fn h, _ => .fn h
theorem Reps.less {G : Glob} {ι ι' : List Addr} {H : Hp} (hp : ∃ t, ι' = ι ++ t) : ∀ {vs : List V} {xs : List PV}, Reps G ι' H vs xs → (∀ r ∈ refsVs xs, r < ι.length) → Reps G ι H vs xs
  | _, _, .nil, _ => .nil
  | _, _, .cons h q, hr => .cons (Rep.less hp h fun r z => hr r (by simp only [refsVs, List.mem_append]; exact .inl z)) (Reps.less hp q fun r z => hr r (by simp only [refsVs, List.mem_append]; exact .inr z))
end
theorem ObR.less {G : Glob} {ι ι' : List Addr} {H : Hp} (hp : ∃ t, ι' = ι ++ t) {a : Addr} {o : MO} (h : ObR G ι' H a o) (hr : ∀ r ∈ refsO o, r < ι.length) : ObR G ι H a o := by
  cases o with
  | lst xs => obtain ⟨vs, h1, h2⟩ := h; exact ⟨vs, h1, h2.less hp hr⟩
  | frz xs => obtain ⟨vs, h1, h2⟩ := h; exact ⟨vs, h1, h2.less hp hr⟩
theorem ObR.refs {G : Glob} {ι : List Addr} {H : Hp} {a : Addr} {o : MO} (h : ObR G ι H a o) : ∀ r ∈ refsO o, r < ι.length := by
  cases o with
  | lst xs => obtain ⟨vs, h1, h2⟩ := h; exact h2.refs
  | frz xs => obtain ⟨vs, h1, h2⟩ := h; exact h2.refs
theorem gc_sim {G : Glob} {ι ι' : List Addr} {H H' : Hp} {mh mh' : MH} {v : PV} (s : Sim G ι H mh) (g : Gr ι H ι' H') (s' : Sim G ι' H' mh') (ok : GcOk mh mh' v) : Gr ι H ι H' ∧ Sim G ι H' (mh'.take mh.length) := by
  obtain ⟨hl, hv, ho⟩ := ok
  have tk : ∀ {n : Nat} {o : MO}, (mh'.take mh.length)[n]? = some o → n < mh.length ∧ mh'[n]? = some o := fun {n o} e => by
    have hn : n < mh.length := by
      have := (List.getElem?_eq_some_iff.mp e).1
      rw [List.length_take] at this
      omega
    rw [List.getElem?_take_of_lt hn] at e
    exact ⟨hn, e⟩
  refine ⟨⟨⟨[], by simp⟩, g.tup, g.frz, g.xt⟩, ⟨?_, fun n o e => ?_, fun n m a o u e1 e2 h1 h2 m1 m2 => ?_, s'.tabs⟩⟩
  · rw [List.length_take, s.len]; omega
  · obtain ⟨hn, e⟩ := tk e
    obtain ⟨a', q1, q2⟩ := s'.obj n o e
    have hni : n < ι.length := by rw [s.len]; exact hn
    have q3 : ι[n]? = some a' := by
      obtain ⟨t, et⟩ := g.pre
      rw [et, List.getElem?_append_left hni] at q1
      exact q1
    refine ⟨a', q3, q2.less g.pre fun r hr => ?_⟩
    rcases ho n hn with z | ⟨o', z1, z2⟩
    · rw [e] at z
      obtain ⟨a, k1, k2⟩ := s.obj n o z.symm
      exact k2.refs r hr
    · rw [e] at z1; cases z1
      rw [s.len]
      exact z2 r hr
  · exact s'.inj n m a o u (g.ix e1) (g.ix e2) (tk h1).2 (tk h2).2 m1 m2
theorem OutE.ungc {G : Glob} {E : XK} {ι : List Addr} {H : Hp} {mh : MH} {r : R PV} {Q : VK} (s : Sim G ι H mh) (o : OutE G E ι H (gc mh r) Q) : OutE G E ι H r Q := by
  cases r with
  | ok x mh' =>
    unfold gc at o
    simp only at o
    split at o
    · rename_i ok
      intro v H' ι' g s' rp
      obtain ⟨g1, s1⟩ := gc_sim s g s' ok
      exact o v H' ι g1 s1 (rp.less g.pre (by rw [s.len]; exact ok.2.1))
    · exact o
  | exc c w mh' =>
    unfold gc at o
    simp only at o
    split at o
    · rename_i ok
      intro cv d H' ι' g s' x'
      obtain ⟨g1, s1⟩ := gc_sim s g s' ok
      obtain ⟨C, dd, v, x1, x2, x3, x4, x5⟩ := x'
      exact o cv d H' ι g1 s1 ⟨C, dd, v, x1, x2, x3, x4, x5.less g.pre (by rw [s.len]; exact ok.2.1)⟩
    · exact o
  | stk => exact o

/-! ## a def by its body -/
def endB (r : RS) : R PV := match r with
  | .ok .nx _ mh => .ok .non mh
  | .ok (.rt x) _ mh => .ok x mh
  | .ok _ _ _ => .stk
  | .exc c w _ mh => .exc c w mh
  | .stk => .stk
/-- a def with more names than parameters by so many -/
noncomputable def runB (more : Nat) (m : SS) (xs : List PV) (mh : MH) : R PV := gc mh (endB (m (xs.map some ++ List.replicate more none) mh))
section
variable {P : Program} {w : World} {K : PySem.W.Frag} {mg : Str → Option Value} {base : Heap} {T : List (Addr × Str)} {x qual : Str} {params : Arguments} {body : List Stmt} {scope : Scope} {dvs : List V} {kws : List (Str × V)} {f : Addr} {fd : FuncData}
theorem SimSt.start {G : Glob} {ι : List Addr} {H : Hp} {vs : List V} {xs : List PV} {N : List Str} (r : Reps G ι H vs xs) : SimSt G ι H (L2.start N vs) (xs.map some ++ List.replicate (N.length - xs.length) none) := by
  unfold L2.start
  refine ⟨by simp [r.length], fun i y e => ?_⟩
  by_cases h : i < xs.length
  · rw [List.getElem?_append_left (by simpa using h), List.getElem?_map] at e
    cases e2 : xs[i]? with
    | none => rw [e2] at e; cases e
    | some z =>
      rw [e2] at e
      cases e
      obtain ⟨v, h1, h2⟩ := r.get e2
      refine ⟨v, ?_, h2⟩
      rw [List.getElem?_append_left (by simpa [r.length] using h), List.getElem?_map, h1]
      rfl
  · rw [List.getElem?_append_right (by simpa using h), List.getElem?_replicate] at e
    split at e <;> cases e
/-- THE RULE: a def of the module does what its body's combinator says -/
theorem fn_ok {N ps : List Str} {k : Nat} {m : SS} (F : FunD K x qual params body scope dvs kws f fd) (S : FnScope N ps scope)
    (hbody : ∀ (cdv : Value) (A : Around) (outer : List Env) (s : Shared) (H : Hp) (E : XK), Room k (A.deeper (envOfC qual scope s.heap.objs.size f cdv)) →
      CSs (cxOf (L2N.CX P w) P w K mg base N qual scope f cdv A outer s H E) T (fun cls d _ H => E cls d H) body m) :
    FnOk P w K mg base (L2N.CX P w) (k + 1) f fd ps (spF ⟨K, mg, T⟩ ps.length (runB (N.length - ps.length) m)) := by
  refine F.ok S (fun vs H Q E h => spF_len _ _ _ _ h) fun cdv A outer s H vs Q E hr h => ?_
  obtain ⟨ι, mh, xs, sm, r, hl, o⟩ := h
  refine ⟨_, hbody cdv A outer s H E hr, ι, mh, xs.map some ++ List.replicate (N.length - xs.length) none, sm, SimSt.start r, ?_⟩
  unfold runB at o
  have o1 := OutE.ungc sm o
  rw [hl]
  cases e : m (xs.map some ++ List.replicate (N.length - ps.length) none) mh with
  | ok fl ps1 mh1 =>
    rw [e] at o1
    cases fl with
    | nx => exact fun σ' H' ι' g s' t' => o1 .non H' ι' g s' .non
    | rt y => exact fun v H' ι' g s' r' => o1 v H' ι' g s' r'
    | bk => exact (show False from o1).elim
    | ct => exact (show False from o1).elim
  | exc c w' ps1 mh1 =>
    rw [e] at o1
    exact fun cv d σ' H' ι' g s' t' x' => o1 cv d H' ι' g s' x'
  | stk => rw [e] at o1; exact o1
end

/-! ## methods of lists and texts -/
def appendV (x y : PV) (mh : MH) : R PV := match x with
  | .ref n => match getM mh n with
    | some xs => if xs.length < sizeLine then .ok .non (mh.set n (.lst (xs ++ [y]))) else .stk
    | none => .stk
  | _ => .stk
/-- o.m(a): o a list -/
def eMeth1 (f : PV → PV → MH → R PV) (o a : ES) : ES := fun ps mh => (o ps mh).bind fun x mh => match x with
  | .ref n => match getL mh n with
    | some _ => (a ps mh).bind fun y mh => f (.ref n) y mh
    | none => .stk
  | _ => .stk
def popV (x : PV) (mh : MH) : R PV := match x with
  | .ref n => match getM mh n with
    | some xs => match xs[xs.length - 1]? with
      | some y => .ok y (mh.set n (.lst xs.dropLast))
      | none => .stk
    | none => .stk
  | _ => .stk
def eMeth0 (f : PV → MH → R PV) (o : ES) : ES := fun ps mh => (o ps mh).bind f
def extendV (x y : PV) (mh : MH) : R PV := match x, y with
  | .ref n, .ref k => match getM mh n, getM mh k with
    | some xs, some ys => if xs.length + ys.length ≤ sizeLine then .ok .non (mh.set n (.lst (xs ++ ys))) else .stk
    | _, _ => .stk
  | _, _ => .stk
def strsP : List PV → Option (List Str)
  | [] => some []
  | .str z :: r => (strsP r).map (z :: ·)
  | _ :: _ => none
def joinV (x y : PV) (mh : MH) : R PV := match x with
  | .str a => match (itemsP y mh).bind strsP with
    | some ys => if (ys.map (·.length)).sum + ys.length * a.length ≤ 16777216 then .ok (.str (Txt.join a ys)) mh else .stk
    | none => .stk
  | _ => .stk
/-- t.join(a): t a text -/
def eJoin (o a : ES) : ES := fun ps mh => (o ps mh).bind fun x mh => match x with
  | .str z => (a ps mh).bind fun y mh => joinV (.str z) y mh
  | _ => .stk
theorem Reps.dropLast {G : Glob} {ι : List Addr} {H : Hp} {vs : List V} {xs : List PV} (r : Reps G ι H vs xs) : Reps G ι H vs.dropLast xs.dropLast := by
  rw [List.dropLast_eq_take, List.dropLast_eq_take, r.length]
  exact r.take _
theorem strsP_rep {G : Glob} {ι : List Addr} {H : Hp} : ∀ {xs : List PV} {vs : List V} {ys : List Str}, Reps G ι H vs xs → strsP xs = some ys → vs = ys.map V.str
  | [], _, _, .nil, e => by cases e; rfl
  | x :: xs, _, ys, .cons h r, e => by
    cases h with
    | str z =>
      unfold strsP at e
      obtain ⟨zs, e1, rfl⟩ := Option.map_eq_some_iff.mp e
      rw [strsP_rep r e1]
      rfl
    | _ => cases e
section
variable {X : Cx} {T : List (Addr × Str)} {W : WX} {o a : Expr} {mo ma : ES} {apos cpos : Pos}
theorem lst_ne {fx : PV → PV → MH → R PV} : True := trivial
/-- o.m(a) of a list -/
theorem ce_lmeth {name : Str} {id : String} {f : PV → PV → MH → R PV} (hf : ∀ x y mh c w mh', f x y mh ≠ .exc c w mh') (pa : PlainAttrs "list") (slot : Slot "list" name id) (hty : typeOf (.builtin id) = pure (.type "method_descriptor"))
    (hm : ∀ {r : V → List V → Hp → VK → Prop} , (∀ x xs H Q, r x xs H Q → ∃ ι mh n y v, xs = [v] ∧ Sim (gl X T) ι H mh ∧ Rep (gl X T) ι H x (.ref n) ∧ Rep (gl X T) ι H v y ∧ OutE (gl X T) noX ι H (f (.ref n) y mh) Q) → MtR X id r)
    (ho : CE X T W o mo) (ha : CE X T W a ma) (hbase : attributeBase o name X.env (eval o X.env) = eval o X.env)
    (hs : starEach (a :: []) X.env = (false, eval a X.env) :: starEach [] X.env)
    (hfew : ((backTo cpos (starEach (a :: []) X.env)).all (fun x => !x.1) && (backToKw cpos (keywordEach [] X.env)).all (fun x => x.1.isSome) && decide ((a :: []).length + ([] : List Keyword).length + (if ([] : List Keyword).isEmpty then 0 else 1) < 30)) = true)
    (hline : (apos.endLine == cpos.line) = true) : CE X T W (.Call (.Attribute o name apos) [a] [] cpos) (eMeth1 f mo ma) := by
  let r : V → List V → Hp → VK → Prop := fun x xs H Q => ∃ ι mh n y v, xs = [v] ∧ Sim (gl X T) ι H mh ∧ Rep (gl X T) ι H x (.ref n) ∧ Rep (gl X T) ι H v y ∧ OutE (gl X T) noX ι H (f (.ref n) y mh) Q
  refine (pe_bm (r := r) pa slot hty (hm fun x xs H Q h => h) ho (pa_cons ha pa_nil hs) hbase hfew hline hs rfl).mono fun σ H Q ⟨ι, mh, ps, sm, st, out⟩ => ?_
  refine ⟨ι, mh, ps, sm, st, (OutE.bindE out).imp fun x H1 ⟨ι1, mh1, px, g1, s1, r1, o1⟩ => ?_⟩
  cases px with
  | ref n =>
    simp only at o1
    cases e : getL mh1 n with
    | none => rw [e] at o1; exact o1.elim
    | some xs =>
      rw [e] at o1
      obtain ⟨ad, vs, q1, q2, q3⟩ := getL_ob s1 e
      cases r1.refAt q1
      refine ⟨.inl ⟨rfl, vs, q2⟩, ι1, mh1, ps, s1, st.mono g1, (OutE.bindE o1).imp fun v H2 ⟨ι2, mh2, y, g2, s2, r2, o2⟩ => ?_⟩
      exact ⟨ι2, mh2, n, y, v, rfl, s2, r1.mono g2, r2, o2.noexc fun _ _ _ => hf _ _ _ _ _ _⟩
  | _ => exact (show False from o1).elim
theorem appendV_ne : ∀ x y mh c w mh', appendV x y mh ≠ .exc c w mh' := by
  intro x y mh c w mh'
  unfold appendV
  repeat' split
  all_goals (intro h; cases h; done)
theorem extendV_ne : ∀ x y mh c w mh', extendV x y mh ≠ .exc c w mh' := by
  intro x y mh c w mh'
  unfold extendV
  repeat' split
  all_goals (intro h; cases h; done)
theorem mt_appendV {r : V → List V → Hp → VK → Prop} (h : ∀ x xs H Q, r x xs H Q → ∃ ι mh n y v, xs = [v] ∧ Sim (gl X T) ι H mh ∧ Rep (gl X T) ι H x (.ref n) ∧ Rep (gl X T) ι H v y ∧ OutE (gl X T) noX ι H (appendV (.ref n) y mh) Q) : MtR X "list.append" r := by
  intro pins s σ H x xs v us Q I rx rs hr
  obtain ⟨ι, mh, n, y, w, rfl, sm, r1, r2, o⟩ := h _ _ _ _ hr
  unfold appendV at o
  simp only at o
  cases e : getM mh n with
  | none => rw [e] at o; exact o.elim
  | some ys =>
    rw [e] at o
    simp only at o
    obtain ⟨a, vs, q1, q2, q3⟩ := getM_ob sm e
    cases r1.refAt q1
    by_cases hz : ys.length < sizeLine
    · rw [if_pos hz] at o
      refine mt_append pins s σ H _ _ v us Q I rx rs ⟨a, vs, w, rfl, rfl, q2, by rw [q3.length]; exact hz, ?_⟩
      exact o .non _ ι (Gr.wrLst q2) (sm.wrLst (getM_at e) q1 q2 (q3.append (.one r2))) .non
    · rw [if_neg hz] at o
      exact o.elim
theorem mt_extendV {r : V → List V → Hp → VK → Prop} (h : ∀ x xs H Q, r x xs H Q → ∃ ι mh n y v, xs = [v] ∧ Sim (gl X T) ι H mh ∧ Rep (gl X T) ι H x (.ref n) ∧ Rep (gl X T) ι H v y ∧ OutE (gl X T) noX ι H (extendV (.ref n) y mh) Q) : MtR X "list.extend" r := by
  intro pins s σ H x xs v us Q I rx rs hr
  obtain ⟨ι, mh, n, y, w, rfl, sm, r1, r2, o⟩ := h _ _ _ _ hr
  unfold extendV at o
  cases y with
  | ref k =>
    simp only at o
    cases e : getM mh n with
    | none => rw [e] at o; exact o.elim
    | some ys =>
      cases e' : getM mh k with
      | none => rw [e, e'] at o; exact o.elim
      | some zs =>
        rw [e, e'] at o
        simp only at o
        obtain ⟨a, vs, q1, q2, q3⟩ := getM_ob sm e
        obtain ⟨b, ws, p1, p2, p3⟩ := getM_ob sm e'
        cases r1.refAt q1
        cases r2.refAt p1
        by_cases hz : ys.length + zs.length ≤ sizeLine
        · rw [if_pos hz] at o
          refine mt_extend pins s σ H _ _ v us Q I rx rs ⟨a, b, vs, ws, rfl, rfl, q2, p2, by rw [q3.length, p3.length]; exact hz, ?_⟩
          exact o .non _ ι (Gr.wrLst q2) (sm.wrLst (getM_at e) q1 q2 (q3.append p3)) .non
        · rw [if_neg hz] at o
          exact o.elim
  | _ => exact (show False from o).elim
theorem ce_append (ho : CE X T W o mo) (ha : CE X T W a ma) (hbase : attributeBase o "append" X.env (eval o X.env) = eval o X.env) (hs : starEach (a :: []) X.env = (false, eval a X.env) :: starEach [] X.env)
    (hfew : ((backTo cpos (starEach (a :: []) X.env)).all (fun x => !x.1) && (backToKw cpos (keywordEach [] X.env)).all (fun x => x.1.isSome) && decide ((a :: []).length + ([] : List Keyword).length + (if ([] : List Keyword).isEmpty then 0 else 1) < 30)) = true)
    (hline : (apos.endLine == cpos.line) = true) : CE X T W (.Call (.Attribute o "append" apos) [a] [] cpos) (eMeth1 appendV mo ma) :=
  ce_lmeth appendV_ne PySem.F.plainAttrs_list PySem.F.slot_list_append PySem.F.type_list_append mt_appendV ho ha hbase hs hfew hline
theorem ce_extend (ho : CE X T W o mo) (ha : CE X T W a ma) (hbase : attributeBase o "extend" X.env (eval o X.env) = eval o X.env) (hs : starEach (a :: []) X.env = (false, eval a X.env) :: starEach [] X.env)
    (hfew : ((backTo cpos (starEach (a :: []) X.env)).all (fun x => !x.1) && (backToKw cpos (keywordEach [] X.env)).all (fun x => x.1.isSome) && decide ((a :: []).length + ([] : List Keyword).length + (if ([] : List Keyword).isEmpty then 0 else 1) < 30)) = true)
    (hline : (apos.endLine == cpos.line) = true) : CE X T W (.Call (.Attribute o "extend" apos) [a] [] cpos) (eMeth1 extendV mo ma) :=
  ce_lmeth extendV_ne PySem.F.plainAttrs_list PySem.F.slot_list_extend PySem.F.type_list_extend mt_extendV ho ha hbase hs hfew hline
theorem joinV_ne : ∀ x y mh c w mh', joinV x y mh ≠ .exc c w mh' := by
  intro x y mh c w mh'
  unfold joinV
  repeat' split
  all_goals (intro h; cases h; done)
theorem ce_join (ho : CE X T W o mo) (ha : CE X T W a ma) (hbase : attributeBase o "join" X.env (eval o X.env) = eval o X.env) (hs : starEach (a :: []) X.env = (false, eval a X.env) :: starEach [] X.env)
    (hfew : ((backTo cpos (starEach (a :: []) X.env)).all (fun x => !x.1) && (backToKw cpos (keywordEach [] X.env)).all (fun x => x.1.isSome) && decide ((a :: []).length + ([] : List Keyword).length + (if ([] : List Keyword).isEmpty then 0 else 1) < 30)) = true)
    (hline : (apos.endLine == cpos.line) = true) : CE X T W (.Call (.Attribute o "join" apos) [a] [] cpos) (eJoin mo ma) := by
  refine (pe_bm PySem.F.plainAttrs_str PySem.F.slot_str_join PySem.F.type_str_join mt_join ho (pa_cons ha pa_nil hs) hbase hfew hline hs rfl).mono fun σ H Q ⟨ι, mh, ps, sm, st, out⟩ => ?_
  refine ⟨ι, mh, ps, sm, st, (OutE.bindE out).imp fun x H1 ⟨ι1, mh1, px, g1, s1, r1, o1⟩ => ?_⟩
  cases r1 with
  | str z =>
    refine ⟨rfl, ι1, mh1, ps, s1, st.mono g1, (OutE.bindE o1).imp fun v H2 ⟨ι2, mh2, y, g2, s2, r2, o2⟩ => ?_⟩
    unfold joinV at o2
    simp only at o2
    cases e : itemsP y mh2 with
    | none => rw [e] at o2; exact (show False from o2).elim
    | some xs =>
      rw [e] at o2
      simp only [Option.bind_some] at o2
      cases e2 : strsP xs with
      | none => rw [e2] at o2; exact (show False from o2).elim
      | some ys =>
        rw [e2] at o2
        simp only at o2
        obtain ⟨ad, vs, rfl, q1, q2⟩ := itemsP_ob s2 r2 e
        have ev := strsP_rep q2 e2
        subst ev
        split at o2
        · rename_i hz
          exact ⟨z, ad, ys, rfl, rfl, q1, hz, o2.okI s2 (.str _)⟩
        · exact o2.elim
  | _ => exact (show False from o1).elim
end
end Px

set_option Elab.async false
set_option linter.all false
set_option maxRecDepth 100000
set_option maxHeartbeats 4000000
namespace Px
open PySem PySem.Spec PyProof.Rows L2

/-! ## an own exception whose __init__ goes up by super() -/
abbrev clsEnv (qual : Str) (scope : Scope) (L f : Addr) (cd : Value) (cc : Addr) : Env := PySem.W.envX qual scope L f cd [("__class__", cc)]
/-- the context of the body of an __init__ that says super() -/
def clsCx (P : Program) (w : World) (K : PySem.W.Frag) (mg : Str → Option Value) (base : Heap) (N : List Str) (qual : Str) (scope : Scope) (f : Addr) (cd : Value) (cc : Addr) (A : Around) (outer : List Env) (s : Shared) (H : Hp) (E : XK) : Cx where
  prog := P
  w := w
  K := K
  mg := mg
  base := base
  A := A.deeper (clsEnv qual scope s.heap.objs.size f cd cc)
  N := N
  s_0 := s
  H_0 := H
  env := clsEnv qual scope s.heap.objs.size f cd cc
  outer := outer
  stack := clsEnv qual scope s.heap.objs.size f cd cc :: outer
  ex := []
  calm := true
  fn := fun _ => false
  pn := []
  xe := fun e s' => wpAny (model P w) (A.deeper (clsEnv qual scope s.heap.objs.size f cd cc)) (leaving (clsEnv qual scope s.heap.objs.size f cd cc) e) (fun _ s'' => L2N.CX P w outer H s E e s'') (fun e' s'' => L2N.CX P w outer H s E e' s'') s'
/-- its names: parameters, super, __class__ -/
structure ClsScope (scope : Scope) : Prop where
  kind : scope.kind = .function
  co : scope.isCoroutine = false
  gen : scope.isGenerator = false
  nocell : ∀ y ∈ scope.names, y.2 ≠ .cell
  free : ∀ y ∈ scope.names, y.2 = .free → y.1 = ("__class__" : Str)
  sup : scope.names.lookup ("super" : Str) = some .globalImplicit
  cls : scope.names.lookup ("__class__" : Str) = some .free
  slf : scope.names.lookup ("self" : Str) = some .local
/-- what the written part says of such an __init__, at f, of the class at D -/
structure IniF (P : Program) (K : PySem.W.Frag) (D f : Addr) (qual : Str) (params : Arguments) (body : List Stmt) (scope : Scope) (cda cc : Addr) (fd : FuncData) : Prop where
  at_ : ∃ oc od dV kV doc pm an ct osl, fd = PySem.W.ksFn "__init__" qual params body scope dV kV doc pm an (.ref cda) ct cc ∧ K.lookup f = some ⟨oc, od, .func fd, osl⟩
  rec_ : PySem.W.codeIn K (.ref cda) qual = true
  code : ∃ ccl cdd vs ccs file tf, K.lookup cda = some ⟨ccl, cdd, .fields vs, ccs⟩ ∧ vs[2]? = some (.str file tf) ∧ ((P.main.file : Str) == file) = true
  cell : ∃ cl cld csl, K.lookup cc = some ⟨cl, cld, .cell (some (.ref D)), csl⟩
  cls : ∃ cd, PySem.W.clsIn K D = some cd
  top : (P.main.scope.names.lookup ("super" : Str)).isSome = false
  par : (params.posonlyargs ++ params.args).head?.map (·.arg) = some ("self" : Str)
section
variable {P : Program} {w : World} {K : PySem.W.Frag} {mg : Str → Option Value} {base : Heap} {N : List Str} {qual : Str} {params : Arguments} {body : List Stmt} {scope : Scope} {D f cda cc : Addr} {fd : FuncData} {A : Around} {outer : List Env} {s : Shared} {H : Hp} {E : XK}
theorem inv_startC {σ : L2.St} {h₀ : Heap} {t : Nat} {m : Str → Option Value} (S : ClsScope scope) (T : IniF P K D f qual params body scope cda cc fd) (hd : A.handled = none) (e0 : Env0 P w K mg base A outer s H) (hl : σ.length = N.length)
    (hns : h₀.Ns s.heap.objs.size m) (kp : ∀ b o, s.heap.get? b = some o → h₀.get? b = some o)
    (hm : ∀ (i : Nat) (x : Str) (v : V), N[i]? = some x → σ[i]? = some (some v) → ∃ u, RelV v u ∧ scope.names.lookup x = some .local ∧ m x = some u) :
    Inv (clsCx P w K mg base N qual scope f (.ref cda) cc A outer s H E) [] σ H { s with heap := h₀, toks := t } := by
  have noA : ∀ b : Addr, b ∉ (clsCx P w K mg base N qual scope f (.ref cda) cc A outer s H E).ex := fun b z => absurd (show b ∈ ([] : List Addr) from z) (by simp)
  have look : ∀ {y : Str} {c : Addr}, ([("__class__", cc)] : List (Str × Addr)).lookup y = some c → y = ("__class__" : Str) ∧ c = cc := fun {y c} e => by
    simp only [List.lookup] at e
    split at e
    · rename_i h
      exact ⟨by simpa using h, (Option.some.inj e).symm⟩
    · cases e
  obtain ⟨cl, cld, csl, lc⟩ := T.cell
  have bc := e0.mod.kin _ _ lc
  refine ⟨⟨e0.mod, S.kind, rfl, rfl, Nat.le_refl _, fun x y c h1 h2 => (look h1).1.trans (look h2).1.symm, fun y hy => ?_, fun y c z _ => Bool.noConfusion (show false = true from z), fun _ => hd, Around.frames_deeper e0.frames, .inr ⟨rfl, rfl⟩, fun b z => absurd z (noA b), e0.bs, e0.bsz, fun b _ _ => noA b,
      fun b z => absurd z (noA b), e0.funs, e0.frf⟩,
    rfl, e0.bare, Un.kept kp, ⟨m, hns, fun i x v e1 e2 _ => ?_⟩, fun y c e => ?_, e0.hok.fresh (Nat.le_refl _), fun y c e => ?_, fun q hq => absurd (show q ∈ ([] : List (Addr × Obj)) ++ [] from hq) (by simp), e0.hok.kept kp, hl⟩
  · have hy : scope.names.lookup y = some .cell ∨ scope.names.lookup y = some .free := hy
    rcases hy with hy | hy
    · exact absurd rfl (S.nocell _ (PySem.mem_of_lookup hy))
    · obtain rfl : y = "__class__" := S.free _ (PySem.mem_of_lookup hy) rfl
      exact ⟨cc, by simp [clsCx, clsEnv]⟩
  · obtain ⟨u, r, k, q⟩ := hm i x v e1 e2
    exact ⟨u, r, .inl ⟨k, q⟩⟩
  · obtain ⟨rfl, rfl⟩ := look e
    exact ⟨_, _, kp _ _ (e0.bs _ _ bc).1, rfl⟩
  · obtain ⟨rfl, rfl⟩ := look e
    exact (e0.bs _ _ bc).2
theorem cref_ne {H : Hp} {x C : Addr} {h : Heap} {cd : ClassData} (hok : HOk P w H h) (X : K.In h) (e : H x = some (exo x C none)) (hc : PySem.W.clsIn K C = some cd) : x ≠ C := by
  obtain ⟨t1, ho⟩ := exo_at hok e
  rintro rfl
  unfold PySem.W.clsIn at hc
  split at hc
  · rename_i c d cd' sl q
    have e := X _ _ q
    rw [ho] at e
    cases e
  · cases hc
/-- super(), its first step -/
theorem super_at {σ : L2.St} {s' : Shared} {H' : Hp} {x C : Addr} {p0 p1 : Pos} {whole : Sem Value} {Q : Value → Shared → Prop} {Er : Value → Shared → Prop} (S : ClsScope scope) (T : IniF P K D f qual params body scope cda cc fd)
    (I : Inv (clsCx P w K mg base N qual scope f (.ref cda) cc A outer s H E) [] σ H' s') (h0 : N[0]? = some ("self" : Str)) (hσ : σ[0]? = some (some (.ref x))) (hx : H' x = some (exo x C none)) (hsub : PySem.W.mroIn K C (.ref D) = some true) (hsup : mg ("super" : Str) = none)
    (h : ∀ so h', Inv (clsCx P w K mg base N qual scope f (.ref cda) cc A outer s H E) [] σ H' { s' with heap := h' } → h'.get? so = some (PySem.W.ks_superObj D x C) → Q (.ref so) { s' with heap := h' }) :
    _root_.PySem.wpAt (model P w) (A.deeper (clsEnv qual scope s.heap.objs.size f (.ref cda) cc)) (.func body (clsEnv qual scope s.heap.objs.size f (.ref cda) cc)) (attributeBase (.Call (.Name "super" p0) [] [] p1) "__init__" (clsEnv qual scope s.heap.objs.size f (.ref cda) cc) whole) Q Er s' := by
  have X : K.In s'.heap := I.kIn
  obtain ⟨t1, ho⟩ := exo_at I.hok hx
  obtain ⟨oc, od, dV, kV, doc, pm, an, ct, osl, rfl, lf⟩ := T.at_
  obtain ⟨ccl, cdd, vs, ccs, file, tf, lcd, hvs, hfile⟩ := T.code
  obtain ⟨cl, cld, csl, lc⟩ := T.cell
  obtain ⟨cdD, hD⟩ := T.cls
  obtain ⟨oD, hD1, hD2⟩ : ∃ oD, s'.heap.get? D = some oD ∧ oD.data = .cls cdD := by
    unfold PySem.W.clsIn at hD
    split at hD
    · rename_i c d cd' sl ho
      cases hD
      exact ⟨_, X _ _ ho, rfl⟩
    · cases hD
  obtain ⟨ar, har, hself⟩ := Option.map_eq_some_iff.mp T.par
  obtain ⟨mm, hns, hlk⟩ := I.loc
  obtain ⟨u, ru, lu⟩ := hlk 0 "self" _ h0 hσ (.inl S.slf)
  obtain rfl : u = .ref x := ru
  have hself' : mm ar.arg = some (.ref x) := by
    rw [hself]
    rcases lu with ⟨_, q⟩ | ⟨q, _⟩
    · exact q
    · have q : scope.names.lookup ("self" : Str) = some .cell ∨ scope.names.lookup ("self" : Str) = some .free := q
      rw [S.slf] at q
      rcases q with q | q <;> cases q
  have hgl : s'.heap.Ns mainGlobals mg := I.mod.glob.keeps I.bk
  obtain ⟨mb, hb1, hb2⟩ := I.mod.blt
  obtain ⟨hh, g, d, t, os⟩ := s'
  refine ks_wpAt_super_base (env := clsEnv qual scope s.heap.objs.size f (.ref cda) cc) S.sup S.cls (by decide) rfl (X _ _ lf) rfl har rfl (X _ _ lcd) rfl hvs hfile T.top ?_
  refine PySem.W.ks_loadName_global S.kind S.sup (Calls.loadGlobal_builtin (env := clsEnv qual scope s.heap.objs.size f (.ref cda) cc) hgl hsup (hb1.keeps I.bk) ((hb2 _ (by decide)).trans (by decide +kernel)) ⟨rfl, ?_⟩)
  refine wpAny_loadName_free S.kind S.cls rfl ⟨_, X _ _ lc, rfl⟩ ?_
  refine wpAny_loadName_local S.kind (by rw [hself]; exact S.slf) hns hself' ?_
  refine ks_wpAny_isType_cls hD1 hD2 ⟨rfl, ?_⟩
  refine ks_wpAny_call_super hD1 hD2 ho rfl (fun c e => by cases e) (PySem.W.looks_mroIn X hsub) (fun h' e k => ?_)
  exact h _ h' (I.kept (t' := t) k) e
end
end Px

set_option Elab.async false
set_option linter.all false
set_option maxRecDepth 100000
set_option maxHeartbeats 4000000
namespace Px
open PySem PySem.Spec PyProof.Rows L2
section
variable {P : Program} {w : World} {K : PySem.W.Frag} {mg : Str → Option Value} {base : Heap} {N : List Str} {qual : Str} {params : Arguments} {body : List Stmt} {scope : Scope} {D f cda cc : Addr} {fd : FuncData} {A : Around} {outer : List Env} {s : Shared} {H : Hp} {E : XK}
open PySem.W in
/-- ValueError.__init__, bound to the exception that is made -/
theorem call_mwV {h : Heap} {g : Array GenState} {d : Drawn} {t : Nat} {os : OsState} {Er : Value → Shared → Prop} {nm q : Str} {C N u e t0 : Addr} {bs bm : List Value} {hdct : Bool} {sn : List Str} {sub : List Value} {ab : Bool} {col : Option Bool} {dd : Option Addr} {k0 k1 k2 k3 k5 : Option Value} {rest : List Value} {Q : Value → Shared → Prop}
    (hC : h.get? C = some (excClassObj nm q C N bs bm hdct sn sub ab col dd k0 k1 k2 k3 k5 "ValueError.__new__")) (he : h.get? e = some (HandSPX.excO C t0)) (hu : h.get? u = some (kxs_mw "ValueError.__init__" e)) (hrest : rest.length ≤ sizeLine)
    (hq : ∀ h' t1, (∀ b o, b ≠ e → h.get? b = some o → h'.get? b = some o) → h'.get? e = some (HandSPX.excO C t1) → Q .none ⟨h', g, d, t, os⟩) :
    wpAny (model P w) A (call (.ref u) rest) Q Er ⟨h, g, d, t, os⟩ := by
  refine wpAny_call (codeAny_of_tree ?_)
  show wpAny _ A.in1 (callAny (.ref u) ⟨rest, []⟩) _ _ _
  simp only [callAny]
  refine wpAny_bind (wpAny_load hu ?_)
  simp only [kxs_mw, show (Value.type "method-wrapper" == Value.type "method" || Value.type "method-wrapper" == Value.type "builtin_function_or_method" || Value.type "method-wrapper" == Value.type "method-wrapper") = true by decide, if_true]
  refine PySem.W.KFB.if_so (by decide) ?_
  refine wpAny_bind (PySem.ESX.check_bound F.excBase_ValueError hC he rfl ?_)
  refine wpAny_bind (wpAny_pure (wpAny_pure ?_))
  refine ⟨Code.quiet_builtin _ (by decide +kernel), codeAny_builtin F.excBase_ValueError.initEntry ?_⟩
  rw [Around.under_plainId F.excBase_ValueError.init.plain _]
  wp_walk
  refine hq _ h.objs.size (fun b o hb ho => ?_) ?_
  · rw [Heap.get?_update_other _ _ (Ne.symm hb)]
    exact Heap.get?_push_of_some _ ho
  · rw [Heap.get?_update_self _ (Heap.get?_push_of_some _ he) rfl]
    rfl
theorem meth_eq {o : Expr} {name : Str} {apos pos : Pos} {args : List Expr} {env : Env} (hform : methodCallForm (args.length + ([] : List Keyword).length) (backTo pos (starEach args env)) (backToKw pos (keywordEach [] env)) = true) (hline : (apos.endLine == pos.line) = true) :
    eval (.Call (.Attribute o name apos) args [] pos) env = (do
      let ov ← attributeBase o name env (eval o env)
      standAt apos.atName
      let (f, first) ← holding [ov] (getMethod ov name (do return (← importBound o env).getD true))
      callWith pos f first (backTo pos (starEach args env)) []) := by
  have hpos : methodCallPos true o env apos pos = pure pos := by unfold methodCallPos; simp [hline]
  rw [arm_eval_Call]
  unfold methodCall
  rw [hform]
  simp only [hpos, pure_bind]
  rfl
abbrev rPs : List Str := ["self", "what", "word"]
abbrev bPs : List Str := ["self", "what"]
/-- Refused's own __init__ -/
abbrev rB (p0 p1 p2 p3 p4 p5 q1 q2 q3 q4 r1 r2 r3 r4 : Pos) : List Stmt := [.Expr (.Call (.Attribute (.Call (.Name "super" p0) [] [] p1) "__init__" p2) [.Name "what" p3] [] p4) p5, .Assign [.Attribute (.Name "self" q1) "what" q2] (.Name "what" q3) q4, .Assign [.Attribute (.Name "self" r1) "word" r2] (.Name "word" r3) r4]
/-- that of a class over it -/
abbrev bB (nm : Str) (j : Nat) (p0 p1 p2 p3 p4 p5 p6 : Pos) : List Stmt := [.Expr (.Call (.Attribute (.Call (.Name "super" p0) [] [] p1) "__init__" p2) [.Name "what" p3, .Constant (.str nm) j p6] [] p4) p5]
/-- the exception at a is new; its dict holds what and word -/
def spRef (C : Addr) : Sp := fun vs H Q _ => ∃ (a : Addr) (v : V) (z : Str), vs = [.ref a, v, .str z] ∧ H a = some (exo a C none) ∧
  ∀ d, H d = none → d ≠ a → Q .non (upd (upd (upd H d (exd d [("what", v)])) a (exo a C (some d))) d (exd d [("word", .str z), ("what", v)]))
def spBad (C : Addr) (nm : Str) : Sp := fun vs H Q _ => ∃ (a : Addr) (v : V), vs = [.ref a, v] ∧ H a = some (exo a C none) ∧
  ∀ d, H d = none → d ≠ a → Q .non (upd (upd (upd H d (exd d [("what", v)])) a (exo a C (some d))) d (exd d [("word", .str nm), ("what", v)]))
/-- what the written part says of the class at C, over the one at D, and of super() from D -/
structure UpF (K : PySem.W.Frag) (C D : Addr) (up : Value) : Prop where
  sub : PySem.W.mroIn K C (.ref D) = some true
  third : PySem.W.nsIn K cStatics "thirdparty.any" = some none
  to : PySem.W.ks_superIn K C D "__init__" = some (some up)
theorem clsIn_of {C : Addr} (T : OexC K C) : ∃ cd, PySem.W.clsIn K C = some cd := by
  obtain ⟨nm, q, N, bs, bm, sn, sub, ab, col, dd, k0, k1, k2, k3, k5, hC, hbm⟩ := T.cls
  exact ⟨{ name := nm, bases := bs, mro := .ref C :: bm, ns := N, qualname := q, hasDict := true, slotNames := sn, subclasses := sub, abstract := ab, collection := col, hasDel := false }, by unfold PySem.W.clsIn; rw [hC] <;> rfl⟩
theorem ref_init {C : Addr} {qual : Str} {p0 p1 p2 p3 p4 p5 q1 q2 q3 q4 r1 r2 r3 r4 : Pos} (S : ClsScope scope) (T : IniF P K D f qual params (rB p0 p1 p2 p3 p4 p5 q1 q2 q3 q4 r1 r2 r3 r4) scope cda cc fd) (TC : OexC K C)
    (hwhat : scope.names.lookup ("what" : Str) = some .local) (hword : scope.names.lookup ("word" : Str) = some .local) (hsup : mg ("super" : Str) = none) (U : UpF K C D (.builtin "ValueError.__init__")) (hVE : PySem.W.subIn K (.ref C) (.type "ValueError") = some true)
    (hl1 : (p2.endLine == p4.line) = true) (n1 : PySem.W.findIn K (.ref C) "what" = some none) (n2 : PySem.W.findIn K (.ref C) "word" = some none) : FnOk P w K mg base (L2N.CX P w) 1 f fd rPs (spRef C) := by
  refine ⟨fun vs H Q E ⟨a, v, z, e, _⟩ => by rw [e]; rfl, fun A outer s H args us vs Q E hr e0 hb r hsp => ?_⟩
  obtain ⟨x, v, z, rfl, hx, hq⟩ := hsp
  obtain ⟨oc, od, dV, kV, doc, pm, an, ct, osl, efd, lk⟩ := T.at_
  cases r with
  | cons ra r =>
    cases r with
    | cons rv r =>
      cases r with
      | cons rz r =>
        cases r with
        | nil =>
          rename_i ua uv uz
          obtain rfl : ua = .ref x := ra
          subst efd
          have KX : K.In s.heap := e0.mod.kin.keeps fun b o e => (e0.bs b o e).1
          have lim : s.heap.NoLimit := e0.mod.nolimit.keeps fun b o e => (e0.bs b o e).1
          refine ks_codeAny_call_defAt (binds := rPs.zip [.ref x, uv, uz]) hr.depth (KX _ _ lk) rfl lim (PySem.W.codeRec_of KX T.rec_) rfl hb S.nocell (by
            intro y hy
            simp only [rPs, List.zip_cons_cons, List.zip_nil_right, List.mem_cons, List.mem_nil_iff, or_false] at hy
            rcases hy with rfl | rfl | rfl
            · exact S.slf
            · exact hwhat
            · exact hword) (fun h₀ hns kp => ?_) S.co S.gen S.kind
          have I : Inv (clsCx P w K mg base rPs qual scope f (.ref cda) cc A outer s H E) [] [some (.ref x), some v, some (.str z)] H { s with heap := h₀, toks := s.toks + (rPs.zip [Value.ref x, uv, uz]).length } :=
            inv_startC S T hr.hd e0 rfl hns kp fun i y u e1 e2 => by
              match i, e1, e2 with
              | 0, e1, e2 => cases e1; cases e2; exact ⟨_, rfl, S.slf, rfl⟩
              | 1, e1, e2 => cases e1; cases e2; exact ⟨_, rv, hwhat, rfl⟩
              | 2, e1, e2 => cases e1; cases e2; exact ⟨_, rz, hword, rfl⟩
          show _root_.PySem.wpAt (model P w) (A.deeper (clsEnv qual scope s.heap.objs.size f (.ref cda) cc)) (.func (rB p0 p1 p2 p3 p4 p5 q1 q2 q3 q4 r1 r2 r3 r4) (clsEnv qual scope s.heap.objs.size f (.ref cda) cc)) (execs (rB p0 p1 p2 p3 p4 p5 q1 q2 q3 q4 r1 r2 r3 r4) (clsEnv qual scope s.heap.objs.size f (.ref cda) cc)) _ _ _
          have gv : ∀ {i : Nat} {y : Str} {p : Pos} {X : Cx}, X.N = rPs → X.env.scope = scope → rPs[i]? = some y → scope.names.lookup y = some .local → (y == ("__debug__" : Str)) = false → (y == ("__classdict__" : Str)) = false → PE X (.Name y p) (tVar i) := fun {i y p X} eN eS h1 h2 h3 h4 =>
            pe_var (by rw [eN]; exact h1) (.inl (by rw [eS]; exact h2)) h3 h4
          have hint : interactive (clsEnv qual scope s.heap.objs.size f (.ref cda) cc) = false := by
            unfold interactive
            rw [show (clsEnv qual scope s.heap.objs.size f (.ref cda) cc).scope.kind = .function from S.kind]
            rfl
          obtain ⟨cdC, hcdC⟩ := clsIn_of TC
          refine ks_wpAt_execs_cons (ks_wpAt_Expr_any (ks_wpAt_MethodCall (super_at S T I rfl rfl hx U.sub hsup fun so h' I1 hso => ?_) (meth_eq (by rfl) hl1)) hint rfl)
          have X1 : K.In h' := I1.kIn
          have hI : PySem.W.Looks (model P w) h' (isInstance (.ref x) (.type "ValueError")) true := by
            obtain ⟨t1, ho⟩ := exo_at I1.hok hx
            exact (show PySem.W.Looks (model P w) h' (typeOf (.ref x)) (.ref C) from fun A Q E s k q => wpAny_typeOf_ref (k _ _ ho) q).andThen (PySem.W.looks_subIn X1 hVE)
          have hm := U.to
          unfold PySem.W.ks_superIn at hm
          rw [hcdC] at hm
          refine PySem.W.kxs_getMethod PySem.W.kxs_ValueError hso (PySem.W.looks_opaque X1 U.third) (l₀ := cdC.mro) (fun A Q E s k q => wpAny_bind ((PySem.W.looks_clsIn X1 hcdC) A _ E s k (wpAny_pure q))) rfl X1 hm hI (cref_ne I1.hok X1 hx hcdC) (by decide) ?_
          have I2 : Inv (clsCx P w K mg base rPs qual scope f (.ref cda) cc A outer s H E) [] [some (.ref x), some v, some (.str z)] H ⟨h'.push (PySem.W.kxs_mw "ValueError.__init__" x), s.gens, s.drawn, s.toks + (rPs.zip [Value.ref x, uv, uz]).length + 1, s.os⟩ :=
            I1.kept (t' := s.toks + (rPs.zip [Value.ref x, uv, uz]).length + 1) fun b o e => Heap.get?_push_of_some _ e
          have hu0 : (h'.push (PySem.W.kxs_mw "ValueError.__init__" x)).get? h'.objs.size = some (PySem.W.kxs_mw "ValueError.__init__" x) := Heap.get?_push_at rfl rfl
          have I3 := I2.pins_of (pins' := [(h'.objs.size, PySem.W.kxs_mw "ValueError.__init__" x)]) fun q hq => by
            obtain rfl : q = (h'.objs.size, PySem.W.kxs_mw "ValueError.__init__" x) := by simpa using hq
            exact ⟨hu0, I1.hok.fresh (Nat.le_refl _), fun e => Nat.lt_irrefl _ (show h'.objs.size < h'.objs.size by have h1 := I1.lt; rw [← e] at h1; exact h1), I1.nofs (Nat.le_refl _), fun v e => by cases e⟩
          refine PySem.W.kxs_callWith (i := "ValueError.__init__") (x := x) rfl (Calls.evalArgs_plain (thn ((pa_cons (gv (i := 1) (X := clsCx P w K mg base rPs qual scope f (.ref cda) cc A outer s H E) rfl rfl rfl hwhat (by decide) (by decide)) pa_nil).run p4 _ _ _ _ (fun vs H1 => vs = [v] ∧ H1 = H) I3 ⟨v, rfl, rfl, rfl⟩) fun us s1 ⟨vs, H1, J, ru, ev, eH⟩ => ?_))
          subst ev
          rw [eH] at J
          cases ru with
          | cons w1 w2 =>
            cases w2
            obtain ⟨nm, q, N', bs, bm, sn, sub, ab, col, dd, k0, k1, k2, k3, k5, hC, hbm⟩ := id TC.cls
            have pu := (J.pin (h'.objs.size, PySem.W.kxs_mw "ValueError.__init__" x) (by exact List.mem_cons_self)).1
            have J' := J.pins_of (pins' := []) fun q hq => absurd (show q ∈ ([] : List (Addr × Obj)) from hq) (by simp)
            obtain ⟨t1, ho⟩ := exo_at J'.hok hx
            refine ⟨pu, ?_⟩
            obtain ⟨h5, g5, d5, t5, os5⟩ := s1
            refine call_mwV (J'.kIn _ _ hC) ho pu (by rw [sizeLine_eq]; exact (by decide : (1 : Nat) ≤ 16777216)) fun h6 t6 k hx6 => ?_
            have J6 := J'.write (t' := t5) (x := x) (e := x) (o := exo x C none) (by rw [hx]; exact True.intro) (.inl rfl) k ⟨_, hx6⟩ (exo_ok hx6)
            have eu : upd H x (exo x C none) = H := by
              funext b
              by_cases hb : b = x
              · rw [hb, upd_same, hx]
              · rw [upd_ne hb]
            rw [eu] at J6
            refine wpAt_of_wpAny ?_
            have gx := gv (i := 0) (p := q1) (X := clsCx P w K mg base rPs qual scope f (.ref cda) cc A outer s H E) rfl rfl rfl S.slf (by decide) (by decide)
            have gx' := gv (i := 0) (p := r1) (X := clsCx P w K mg base rPs qual scope f (.ref cda) cc A outer s H E) rfl rfl rfl S.slf (by decide) (by decide)
            have g1 := gv (i := 1) (p := q3) (X := clsCx P w K mg base rPs qual scope f (.ref cda) cc A outer s H E) rfl rfl rfl hwhat (by decide) (by decide)
            have g2 := gv (i := 2) (p := r3) (X := clsCx P w K mg base rPs qual scope f (.ref cda) cc A outer s H E) rfl rfl rfl hword (by decide) (by decide)
            have body_ := pss_cons (ps_ost (f := "what") (p' := q2) (pos := q4) gx g1) (pss_one (ps_ost (f := "word") (p' := r2) (pos := r4) gx' g2))
            refine wpAny_mono (body_.run [] _ _ H { nx := fun _ H' => Q .non H', rt := Q } J6 ?_) (fun fl s' hs => ?_) fun e s' he => he
            · refine ⟨v, rfl, .ref x, rfl, x, C, rfl, TC, n1, .inl ⟨hx, fun dx nd ne => ?_⟩⟩
              refine ⟨.str z, rfl, .ref x, rfl, x, C, rfl, TC, n2, .inr ⟨dx, [("what", v)], upd_same, by rw [upd_ne ne, upd_same], (by decide : 1 ≤ 900), ?_⟩⟩
              exact hq dx nd ne
            · have fin : ∀ {σ' : L2.St} {H' : Hp} {v' : V} {u : Value}, Inv (clsCx P w K mg base rPs qual scope f (.ref cda) cc A outer s H E) [] σ' H' s' → RelV v' u → Q v' H' → L2.CE outer P w H s Q u s' :=
                fun {σ' H' v' u} J rv q => ⟨v', H', J.os, J.bare, J.base, J.hok, rv, q⟩
              cases fl with
              | next =>
                obtain ⟨σ', H', J, q⟩ := hs
                exact fin (v' := V.non) (u := Value.none) J rfl q
              | ret u =>
                obtain ⟨v', σ', H', J, rv, q⟩ := hs
                exact fin J rv q
              | brk =>
                obtain ⟨_, _, _, q⟩ := hs
                exact False.elim q
              | cont =>
                obtain ⟨_, _, _, q⟩ := hs
                exact False.elim q
theorem bad_init {C fR : Addr} {nm : Str} {j : Nat} {kk : Nat} {fdR : FuncData} {p0 p1 p2 p3 p4 p5 p6 : Pos} (S : ClsScope scope) (T : IniF P K C f qual params (bB nm j p0 p1 p2 p3 p4 p5 p6) scope cda cc fd) (TC : OexC K C)
    (hwhat : scope.names.lookup ("what" : Str) = some .local) (hsup : mg ("super" : Str) = none) (U : UpF K C C (.ref fR)) (hl1 : (p2.endLine == p4.line) = true)
    (FR : FnOk P w K mg base (L2N.CX P w) kk fR fdR rPs (spRef C)) (bR : L2.Binds K fdR rPs []) (oR : ∃ o, K.lookup fR = some o ∧ o.cls = .type "function") (kR : PySem.W.fnIn K fR = true) : FnOk P w K mg base (L2N.CX P w) (kk + 2) f fd bPs (spBad C nm) := by
  refine ⟨fun vs H Q E ⟨a, v, e, _⟩ => by rw [e]; rfl, fun A outer s H args us vs Q E hr e0 hb r hsp => ?_⟩
  obtain ⟨x, v, rfl, hx, hq⟩ := hsp
  obtain ⟨oc, od, dV, kV, doc, pm, an, ct, osl, efd, lk⟩ := T.at_
  cases r with
  | cons ra r =>
    cases r with
    | cons rv r =>
      cases r with
      | nil =>
          rename_i ua uv
          obtain rfl : ua = .ref x := ra
          subst efd
          have KX : K.In s.heap := e0.mod.kin.keeps fun b o e => (e0.bs b o e).1
          have lim : s.heap.NoLimit := e0.mod.nolimit.keeps fun b o e => (e0.bs b o e).1
          refine ks_codeAny_call_defAt (binds := bPs.zip [.ref x, uv]) (hr.mono (by omega : 1 ≤ kk + 2)).depth (KX _ _ lk) rfl lim (PySem.W.codeRec_of KX T.rec_) rfl hb S.nocell (by
            intro y hy
            simp only [bPs, List.zip_cons_cons, List.zip_nil_right, List.mem_cons, List.mem_nil_iff, or_false] at hy
            rcases hy with rfl | rfl
            · exact S.slf
            · exact hwhat) (fun h₀ hns kp => ?_) S.co S.gen S.kind
          have I : Inv (clsCx P w K mg base bPs qual scope f (.ref cda) cc A outer s H E) [] [some (.ref x), some v] H { s with heap := h₀, toks := s.toks + (bPs.zip [Value.ref x, uv]).length } :=
            inv_startC S T hr.hd e0 rfl hns kp fun i y u e1 e2 => by
              match i, e1, e2 with
              | 0, e1, e2 => cases e1; cases e2; exact ⟨_, rfl, S.slf, rfl⟩
              | 1, e1, e2 => cases e1; cases e2; exact ⟨_, rv, hwhat, rfl⟩
          show _root_.PySem.wpAt (model P w) (A.deeper (clsEnv qual scope s.heap.objs.size f (.ref cda) cc)) (.func (bB nm j p0 p1 p2 p3 p4 p5 p6) (clsEnv qual scope s.heap.objs.size f (.ref cda) cc)) (execs (bB nm j p0 p1 p2 p3 p4 p5 p6) (clsEnv qual scope s.heap.objs.size f (.ref cda) cc)) _ _ _
          have gv : ∀ {i : Nat} {y : Str} {p : Pos} {X : Cx}, X.N = bPs → X.env.scope = scope → bPs[i]? = some y → scope.names.lookup y = some .local → (y == ("__debug__" : Str)) = false → (y == ("__classdict__" : Str)) = false → PE X (.Name y p) (tVar i) := fun {i y p X} eN eS h1 h2 h3 h4 =>
            pe_var (by rw [eN]; exact h1) (.inl (by rw [eS]; exact h2)) h3 h4
          have hint : interactive (clsEnv qual scope s.heap.objs.size f (.ref cda) cc) = false := by
            unfold interactive
            rw [show (clsEnv qual scope s.heap.objs.size f (.ref cda) cc).scope.kind = .function from S.kind]
            rfl
          obtain ⟨cdC, hcdC⟩ := clsIn_of TC
          obtain ⟨oR, loR, hoR⟩ := oR
          refine ks_wpAt_execs_cons (ks_wpAt_Expr_any (ks_wpAt_MethodCall (super_at S T I rfl rfl hx U.sub hsup fun so h' I1 hso => ?_) (meth_eq (by rfl) hl1)) hint rfl)
          have X1 : K.In h' := I1.kIn
          have hm := U.to
          unfold PySem.W.ks_superIn at hm
          rw [hcdC] at hm
          refine ks_wpAny_getMethod_super hso (PySem.W.looks_opaque X1 U.third) (l₀ := cdC.mro) (fun A Q E s k q => wpAny_bind ((PySem.W.looks_clsIn X1 hcdC) A _ E s k (wpAny_pure q))) rfl X1 hm (X1 _ _ loR) hoR (cref_ne I1.hok X1 hx hcdC) (by decide) ?_
          have I2 : Inv (clsCx P w K mg base bPs qual scope f (.ref cda) cc A outer s H E) [] [some (.ref x), some v] H ⟨h'.push { cls := .type "method", data := .fields #[.ref fR, .ref x] }, s.gens, s.drawn, s.toks + (bPs.zip [Value.ref x, uv]).length + 1, s.os⟩ :=
            I1.kept (t' := s.toks + (bPs.zip [Value.ref x, uv]).length + 1) fun b o e => Heap.get?_push_of_some _ e
          have hu0 : (h'.push { cls := .type "method", data := .fields #[.ref fR, .ref x] }).get? h'.objs.size = some (PySem.W.methodObj (.ref fR) (.ref x)) := Heap.get?_push_at rfl rfl
          have I3 := I2.pins_of (pins' := [(h'.objs.size, PySem.W.methodObj (.ref fR) (.ref x))]) fun q hq => by
            obtain rfl : q = (h'.objs.size, PySem.W.methodObj (.ref fR) (.ref x)) := by simpa using hq
            exact ⟨hu0, I1.hok.fresh (Nat.le_refl _), fun e => Nat.lt_irrefl _ (show h'.objs.size < h'.objs.size by have h1 := I1.lt; rw [← e] at h1; exact h1), I1.nofs (Nat.le_refl _), fun v e => by cases e⟩
          refine PySem.W.callWith_of (by rfl) (PySem.W.keeps_M (K := K) (f := fR) (self := .ref x) kR) (Calls.evalArgs_plain (thn ((pa_cons (gv (i := 1) (X := clsCx P w K mg base bPs qual scope f (.ref cda) cc A outer s H E) rfl rfl rfl hwhat (by decide) (by decide)) (pa_cons pe_str pa_nil)).run p4 _ _ _ _ (fun vs H1 => vs = [v, .str nm] ∧ H1 = H) I3 ⟨v, rfl, rfl, rfl⟩) fun us s1 ⟨vs, H1, J, ru, ev, eH⟩ => ?_))
          subst ev
          rw [eH] at J
          have pu := (J.pin (h'.objs.size, PySem.W.methodObj (.ref fR) (.ref x)) (by exact List.mem_cons_self)).1
          have J' := J.pins_of (pins' := []) fun q hq => absurd (show q ∈ ([] : List (Addr × Obj)) from hq) (by simp)
          refine ⟨⟨pu, J'.kIn⟩, ?_⟩
          have hrd : Room kk (A.deeper (clsEnv qual scope s.heap.objs.size f (.ref cda) cc)) := (hr.mono (by omega : kk + 1 ≤ kk + 2)).deeper _
          refine wpAny_call (ks_codeAny_call_bound pu ?_)
          have rr : Vals (V.ref x :: [v, .str nm]) (Value.ref x :: us) := .cons rfl ru
          have bb := bR s1 (Value.ref x :: us) J'.kIn (by rw [List.append_nil, ← rr.length]; rfl)
          rw [List.append_nil] at bb
          refine codeAny_mono (FR.run (A.deeper (clsEnv qual scope s.heap.objs.size f (.ref cda) cc)) (clsEnv qual scope s.heap.objs.size f (.ref cda) cc :: outer) s1 H ⟨Value.ref x :: us, []⟩ (Value.ref x :: us) _ (fun v' H' => v' = .non ∧ Q .non H') (fun _ _ _ => False) hrd J'.env0 bb rr ⟨x, v, nm, rfl, hx, fun d nd ne => ⟨rfl, hq d nd ne⟩⟩) fun r2 s2 hr2 => ?_
          cases r2 with
          | error e =>
            obtain ⟨_, _, _, _, _, _, _, _, _, _, _, _, z⟩ := hr2
            exact z.elim
          | ok fl =>
            cases fl with
            | ret u =>
              obtain ⟨v', H', J2, rv', ev', q'⟩ := J'.after hr2
              exact wpAt_of_wpAny (wpAny_execs_nil ⟨.non, H', J2.os, J2.bare, J2.base, J2.hok, rfl, q'⟩)
            | next => exact False.elim hr2
            | brk => exact False.elim hr2
            | cont => exact False.elim hr2
end
end Px

set_option Elab.async false
set_option linter.all false
set_option maxRecDepth 100000
set_option maxHeartbeats 4000000
namespace Px
open PySem PySem.Spec PyProof.Rows L2
/-! ## raise C(e) -/
/-- C is an own exception class of the family -/
def RaisF (P : Program) (w : World) (K : PySem.W.Frag) (mg : Str → Option Value) (base : Heap) (k : Nat) (c : Str) : Prop :=
  ∃ C fI fd, OexC K C ∧ PySem.W.findIn K (.ref C) "__init__" = some (some (.ref fI)) ∧ PySem.W.typeIn K (.ref fI) = some (.type "function") ∧ FnOk P w K mg base (L2N.CX P w) k fI fd bPs (spBad C c) ∧ L2.Binds K fd bPs [] ∧ mg c = some (.ref C)
def sRaise (c : Str) (m : ES) : SS := fun ps mh => (m ps mh).bindS ps fun x mh => .exc c x ps mh
section
variable {X : Cx} {T : List (Addr × Str)} {W : WX}
theorem pass_never {X : Cx} : Passes (L2N.CX X.prog X.w) X (fun _ _ _ => False) := by
  intro pins σ H s e s' I h
  obtain ⟨_, _, _, _, _, _, _, _, _, _, _, _, z⟩ := h
  exact z.elim
/-- C(e), C's own __init__ keeping sp; the exception that is made knows no other -/
theorem pmk_oexN {x : Str} {C fI : Addr} {k : Nat} {fd : FuncData} {ps : List Str} {sp : Sp} {e : Expr} {ta : TA} {p pos : Pos} (TC : OexC X.K C) (iC : PySem.W.findIn X.K (.ref C) "__init__" = some (some (.ref fI))) (tI : PySem.W.typeIn X.K (.ref fI) = some (.type "function"))
    (F1 : FnOk X.prog X.w X.K X.mg X.base (L2N.CX X.prog X.w) k fI fd ps sp) (hr : Room (k + 1) X.A) (hb : L2.Binds X.K fd ps []) (hg : Gl X x) (hm : X.mg x = some (.ref C)) (ha : PA X [e] ta)
    (hdb : (x == ("__debug__" : Str)) = false) (he : starEach (e :: []) X.env = (false, eval e X.env) :: starEach [] X.env) : L2N.PMk X (.Call (.Name x p) [e] [] pos) (tMkO C sp [] ta) := by
  intro pins s σ H Q I h
  obtain ⟨nm, q, N, bs, bm, sn, sub, ab, col, dd, k0, k1, k2, k3, k5, hC, hbm⟩ := TC.cls
  refine wpAny_Call_Name_kw (ld_glob I hg hm ?_ hdb)
  refine PySem.W.callWith_K (h₀ := X.base) I.ok.mod.kin TC.kC (thn (ha.run pos pins s σ H _ I h) fun us s1 ⟨vs, H1, I1, r1, hz, q1⟩ => ⟨I1.kIn, ?_⟩) he rfl
  show wpAny _ _ (call (.ref C) us) _ _ _
  obtain ⟨hp, g, dr, tk, os⟩ := s1
  have hsz : hp.objs.size ≤ hp.objs.size + 1 := Nat.le_succ _
  have hq := q1 (hp.objs.size + 1) (I1.hok.fresh hsz)
  rw [List.append_nil] at hq
  have kk : ∀ b o, hp.get? b = some o → ((hp.push (PySem.W.kdv_tup us)).push (PySem.HandSPX.excO C hp.objs.size)).get? b = some o := fun b o e => Heap.get?_push_of_some _ (Heap.get?_push_of_some _ e)
  have hget : ((hp.push (PySem.W.kdv_tup us)).push (PySem.HandSPX.excO C hp.objs.size)).get? (hp.objs.size + 1) = some (PySem.HandSPX.excO C hp.objs.size) := by heap_get
  have I2 := I1.laid (t' := tk) (a := hp.objs.size + 1) (o := exo (hp.objs.size + 1) C none) (h' := (hp.push (PySem.W.kdv_tup us)).push (PySem.HandSPX.excO C hp.objs.size)) kk hsz (exo_ok hget)
  have r2 : Vals (V.ref (hp.objs.size + 1) :: vs) (Value.ref (hp.objs.size + 1) :: us) := .cons rfl r1
  have hl : (Value.ref (hp.objs.size + 1) :: us ++ []).length = ps.length := by
    rw [List.append_nil, ← r2.length]
    exact F1.len _ _ _ _ hq
  have hus : us.length ≤ sizeLine := by
    rw [← Paired.length r1, sizeLine_eq]
    omega
  have b2 := hb _ (Value.ref (hp.objs.size + 1) :: us) I2.kIn hl
  rw [List.append_nil] at b2
  refine wpAny_call (PySem.HandSPX.call_own F.excBase_ValueError (fun Y => PySem.HandSPX.refsVE_contains Y bm hbm) (I1.kIn _ _ hC) (PySem.W.looks_findIn I1.kIn iC) (fun self => PySem.W.bind_fn I1.kIn self tI) hus
    (codeAny_mono (F1.run _ X.stack _ _ ⟨Value.ref (hp.objs.size + 1) :: us, []⟩ (Value.ref (hp.objs.size + 1) :: us) _ _ (fun _ _ _ => False) (hr.make C us []) (I2.env0.make C us []) b2 r2 hq) fun r s' hq' => ?_))
  cases r with
  | error er => exact pass_never pins σ _ _ er s' I2 hq'
  | ok fl =>
    cases fl with
    | ret u =>
      obtain ⟨v, H2, os2, bare2, un2, hok2, rv, ev, d, fs, ea, ed, hd1, q2⟩ := hq'
      subst ev
      obtain ⟨h2, g2, d2, t2, os'⟩ := s'
      obtain ⟨t0, G, J, kG, ge, hoe, na⟩ := mk_end0 (d2 := d2) (t2 := t2) I1 hsz kk un2 hok2 os2 bare2 ea ed hd1
      exact ⟨rv, hp.objs.size + 1, _, _, ⟨G, g2, d2, t2, os'⟩, _, .ref C, some d, rfl, J, kG, ge, hoe, ⟨rfl, rfl, fun vs hv => by cases hv; rfl⟩, rfl, rfl, na, rfl, bare2, raises_own TC.exC TC.tyC, q2⟩
    | next => exact False.elim hq'
    | brk => exact False.elim hq'
    | cont => exact False.elim hq'
theorem cs_raise {k : Nat} {c : Str} {e : Expr} {m : ES} {p pos pos' : Pos} (hR : RaisF X.prog X.w X.K X.mg X.base k c) (hr : Room (k + 1) X.A) (hc : X.calm = true) (tk : L2N.Takes X W) (hg : Gl X c) (ha : CE X T W e m) (hdb : (c == ("__debug__" : Str)) = false)
    (he : starEach (e :: []) X.env = (false, eval e X.env) :: starEach [] X.env) : CSt X T W (.Raise (some (.Call (.Name c p) [e] [] pos)) none pos') (sRaise c m) := by
  obtain ⟨C, fI, fd, TC, iC, tI, F1, hb, hm⟩ := hR
  refine (L2N.ps_raise hc tk (pmk_oexN TC iC tI F1 hr hb hg hm (pa_cons ha pa_nil he) hdb he)).mono fun D σ H h => ?_
  obtain ⟨ι, mh, ps, sm, st, o⟩ := h
  refine ⟨ι, mh, ps, sm, st, (OutS.bindE st o).imp fun v H1 ⟨ι1, mh1, x, g1, s1, r1, o1⟩ => ⟨(by decide : 1 ≤ 1000), fun a ha => ⟨a, v, rfl, upd_same, fun d hd hne => ⟨rfl, d, _, ?_, upd_same, ?_, ?_⟩⟩⟩⟩
  · rw [upd_ne (Ne.symm hne), upd_same]
  · rw [upd_ne hne] at hd
    exact hd
  · rw [upd_ne hne] at hd
    have ex : ∀ b o, H1 b = some o → upd (del (upd (upd (upd (upd H1 a (exo a C none)) d (exd d [("what", v)])) a (exo a C (some d))) d (exd d [("word", .str c), ("what", v)])) a) d (.xd [("word", .str c), ("what", v)]) b = some o := fun b o e => by
      have h1 : b ≠ a := fun z => by rw [z, ha] at e; cases e
      have h2 : b ≠ d := fun z => by rw [z, hd] at e; cases e
      rw [upd_ne h2, del_ne h1, upd_ne h2, upd_ne h1, upd_ne h2, upd_ne h1]
      exact e
    have g2 := Gr.ext (ι := ι1) [] ex
    rw [List.append_nil] at g2
    exact o1 (.ref C) (some d) σ _ ι1 g2 (s1.ext ex) (st.mono (g1.trans g2)) ⟨C, d, v, hm, rfl, rfl, upd_same, r1.mono g2⟩
end
end Px

set_option Elab.async false
set_option linter.all false
set_option maxRecDepth 100000
set_option maxHeartbeats 4000000
namespace Px
open PySem PySem.Spec PyProof.Rows L2 HotX

/-! ## within an except suite: a list walked, a comprehension over pairs -/
section
variable {prog : Program} {w : World} {A : Around} {E : Value → Shared → Prop} {s : Shared}
theorem list_end_hot {it l x1 : Addr} {i : Nat} {items : Array Value} {Q : Option Value → Shared → Prop} (hot : HotAt A x1 s.heap) (hne : x1 ≠ it)
    (hit : s.heap.IsListIter it l i) (hl : s.heap.IsList l items) (hx : items[i]? = none)
    (hQ : ∀ h', Heap.ExtBut it s.heap h' → Q none { s with heap := h' }) : wpAny (model prog w) A (pyNext (.ref it)) Q E s := by
  obtain ⟨o, ho, hc, hd⟩ := id hit
  obtain ⟨ol, hol, _, nl, hdl⟩ := hl
  obtain ⟨hh, o1, vs1, h1, d1, c1⟩ := hot
  unfold pyNext
  refine wpAny_bind (wpAny_attempt (wpAny_callSpecial?_slot (name := Str.ofString "__next__") hit.typeIs slot_listiter_next
    (wpAny_call_entry slot_listiter_next hit.typeIs entry_listiter_next ?_ (args_listiter_next _))))
  show wpAny _ _ (field (.ref it) 0 >>= _) _ _ s
  refine wpAny_bind (wpAny_field ho hd (x := .ref l) rfl ?_)
  show wpAny _ _ (if (Value.ref l == Value.none) = true then _ else _) _ _ s
  rw [if_neg (show ¬ ((Value.ref l == Value.none) = true) from Bool.false_ne_true)]
  show wpAny _ _ (field (.ref it) 1 >>= _) _ _ s
  refine wpAny_bind (wpAny_field ho hd (x := .int i 0) rfl ?_)
  show wpAny _ _ (seqItems? (.ref l) >>= _) _ _ s
  refine wpAny_bind (wpAny_seqItems hol hdl ?_)
  simp only [Int.toNat_natCast, hx]
  refine wpAny_bind (wpAny_rule (wpAny_bind (wpAny_setField ho hd (by simp) ?_)))
  show wpAny _ _ (newExc (.type "StopIteration") [] >>= _) _ _ _
  refine wpAny_bind ?_
  simp only [newExc, newTuple]
  refine wpAny_bind (wpAny_newObj_type ?_ (by size_fits))
  refine wpAny_bind (m := firstArgMember _ _) (wpAny_of_eq (a := Value.none) (by first | rfl | (simp only [firstArgMember]; rfl)) ?_)
  refine wpAny_newObj_type ?_ (by size_fits)
  have h1' : ((s.heap.update it (Obj.mapFields (·.setIfInBounds 0 .none))).push { cls := .type "tuple", data := .seq ([] : List Value).toArray }).get? x1 = some o1 := Heap.get?_push_of_some _ ((Heap.get?_update_other s.heap (Obj.mapFields (·.setIfInBounds 0 .none)) (Ne.symm hne)).trans h1)
  refine raiseNew_hot ⟨hh, o1, vs1, Heap.get?_push_of_some _ h1', d1, c1⟩ (Nat.ne_of_lt (Heap.lt_size h1')) (Heap.get?_push_size _ rfl) rfl (by first | (simp; done) | (simp; omega) | (simp only [Array.size_append]; simp; omega)) ?_
  refine wpAny_bind (wpAny_isInstance (T := "StopIteration") (b := true) ⟨_, Heap.get?_update_self _ (Heap.get?_push_size _ rfl) rfl, rfl⟩ isSubtype_stop ?_)
  refine wpAny_pure (hQ _ fun b o hb e => ?_)
  have e1 : ((s.heap.update it (Obj.mapFields (·.setIfInBounds 0 .none))).push { cls := .type "tuple", data := .seq ([] : List Value).toArray }).get? b = some o := Heap.get?_push_of_some _ ((Heap.get?_update_other s.heap (Obj.mapFields (·.setIfInBounds 0 .none)) (Ne.symm hb)).trans e)
  rw [Heap.get?_update_other _ _ (Nat.ne_of_gt (Heap.lt_size e1))]
  exact Heap.get?_push_of_some _ e1
theorem goes_hot {target : Expr} {x1 : Addr} (I l : Addr) (hne : l ≠ I) (hx : x1 ≠ I) (items : Array Value) :
    Goes prog w A target I [I, l, x1] [I] items.size (fun i v _ => items[i]? = some v) (fun i h => h.IsListIter I l i ∧ h.IsList l items ∧ HotAt A x1 h) where
  sub := fun b hb => by simp at hb; simp [hb]
  frame := fun i h h' st k => ⟨st.1.at fun o e => k I (by simp) o e, st.2.1.at fun o e => k l (by simp) o e, by
    obtain ⟨hh, o1, vs1, h1, d1, c1⟩ := st.2.2
    exact ⟨hh, o1, vs1, k x1 (by simp) _ h1, d1, c1⟩⟩
  goes := fun i s Q E hi st hQ => by
    obtain ⟨v, hv⟩ : ∃ v, items[i]? = some v := ⟨items[i], by simp [hi]⟩
    refine wpAny_pyNext_list_item st.1 st.2.1 (x := v) hv fun h' st' sb => ?_
    obtain ⟨o, ho, hc, hd⟩ := id st'
    obtain ⟨hh, o1, vs1, h1, d1, c1⟩ := st.2.2
    refine ⟨v, rfl, letGo_of_cls (s := { s with heap := h' }) ho hc hd (by decide) ?_⟩
    exact hQ v h' s.toks hv ⟨st', st.2.1.extBut sb.extBut hne, hh, o1, vs1, sb.extBut _ _ hx h1, d1, c1⟩ (fun b o hb e => sb.extBut b o (fun z => hb (by simp [z])) e) (Nat.le_refl _)
  stops := fun s Q E st hQ => list_end_hot st.2.2 hx st.1 st.2.1 (by simp) fun h' eb => ⟨rfl, hQ h' s.toks (fun b o hb e => eb b o (fun z => hb (by simp [z])) e) (Nat.le_refl _)⟩
  self := fun _ _ _ _ st h => wpAny_pyIter_listiter st.1 h
theorem line_at {env : Env} {m : Str → Option Value} {p : Addr} {items : Array Value} {k : Int} {j : Nat} {x : Value} {a b c : Pos} {k1 : Nat} {Q : Value → Shared → Prop} (hk : env.scope.kind = .function) (hl : env.kindOf ("line" : Str) = some .local) (hn : s.heap.Ns env.locals m)
    (hm : m ("line" : Str) = some (.ref p)) (hT : s.heap.IsTuple p items) (h1 : -(2 ^ 63) ≤ k) (h2 : k < 2 ^ 63) (hj : seqIndex? k items.size = some j) (hx : items[j]? = some x) (q : ∀ tk, s.toks ≤ tk → Q x { s with toks := tk }) :
    wpAny (model prog w) A (eval (.Subscript (.Name "line" a) (.Constant (.int k) k1 b) c) env) Q E s := by
  refine Subscript_ (wpAny_Name (wpAny_loadName_local hk hl hn hm (wpAny_Constant_int ?_)) (by decide))
  have hT' : ({ s with toks := s.toks + 1 } : Shared).heap.IsTuple p items := hT
  obtain ⟨o, ho, hc, n, hd⟩ := id hT'
  exact subscriptTail_builtinR (x := x) (T := "tuple") ⟨o, ho, hc⟩ slot_tuple_getitem.lookup (PyProof.Rows.getItem_tuple (j := j) (Q := fun r s' => r = x ∧ Q r s') hT' h1 h2 hj hx ⟨rfl, q _ (Nat.le_succ _)⟩) (by rfl)
/-- what stands at i: a pair of a name and a truth -/
def PairsAt (h : Heap) (its : List Value) (ns : List (Str × Bool)) : Prop := its.length = ns.length ∧ ∀ (i : Nat) (v : Value), its[i]? = some v → ∃ p n t b, v = .ref p ∧ ns[i]? = some (n, b) ∧ h.IsTuple p #[.str n t, .bool b]
theorem pairs_lc {iter : Expr} {scope : Scope} {cl : List (Str × Addr)} {env : Env} {x1 : Addr} {ns : List (Str × Bool)} {pt pe p1 p2 q0 q1 q2 pos : Pos} {k1 k2 : Nat} {Q : Value → Shared → Prop}
    (hclos : closureFor scope env = pure cl) (hcell : ∀ y ∈ scope.names, y.2 ≠ .cell) (hkind : scope.kind = .function) (hnames : ∀ y ∈ scope.names, y.2 = .local → scope.names.lookup y.1 = some .local)
    (hline : scope.names.lookup ("line" : Str) = some .local) (hs : ∀ x, foldedSetIterable iter env x = pure x)
    (hit : wpAny (model prog w) A (eval iter env) (fun v s1 => ∃ (L : Addr) (its : List Value), v = .ref L ∧ HotAt A x1 s1.heap ∧ s1.heap.IsList L its.toArray ∧ its.length ≤ sizeLine ∧ PairsAt s1.heap its ns ∧
      ∀ D h' tk ys, s1.heap.objs.size ≤ D → h'.PlainList D ys.toArray → Vals ((ns.filter (·.2)).map fun p => V.str p.1) ys → (∀ b o, s1.heap.get? b = some o → h'.get? b = some o) → Q (.ref D) { s1 with heap := h', toks := tk }) E s) :
    wpAny (model prog w) A (eval (.ListComp (.Subscript (.Name "line" pe) (.Constant (.int 0) k1 p1) p2) [⟨.Name "line" pt, iter, [.Subscript (.Name "line" q0) (.Constant (.int 1) k2 q1) q2], 0⟩] scope pos) env) Q E s := by
  refine ListComp_goes hclos hcell hkind hnames (wpAny_mono hit (fun v s1 h1 => ?_) fun _ _ e => e) hs
  obtain ⟨L, its, rfl, hot, hl, hsz, hp, hq⟩ := h1
  refine wpAny_pyIter_list hl ?_
  generalize hI : s1.heap.objs.size = I
  obtain ⟨oL, hoL, _⟩ := id hl
  have hneL : L ≠ I := by rw [← hI]; exact Nat.ne_of_lt (Heap.lt_size hoL)
  obtain ⟨hh, o1, vs1, hx1, d1, c1⟩ := id hot
  have hneX : x1 ≠ I := by rw [← hI]; exact Nat.ne_of_lt (Heap.lt_size hx1)
  generalize hh2 : s1.heap.push { cls := .type "list_iterator", data := .fields #[.ref L, .int 0 0] } = h2
  have up2 : ∀ b o, s1.heap.get? b = some o → h2.get? b = some o := fun b o e => by rw [← hh2]; exact Heap.get?_push_of_some _ e
  have hI2 : h2.get? I = some { cls := .type "list_iterator", data := .fields #[.ref L, .int 0 0] } := by rw [← hh2, ← hI]; exact Heap.get?_push_size _ rfl
  have sz2 : h2.objs.size = I + 1 := by rw [← hh2, Heap.size_push, hI]
  refine ⟨I, [I, L, x1], [I], its.toArray.size, _, _, rfl, goes_hot I L hneL hneX its.toArray, by rw [List.size_toArray]; exact hsz, ⟨⟨_, hI2, rfl, rfl⟩, hl.at fun o e => up2 _ o e, hh, o1, vs1, up2 _ _ hx1, d1, c1⟩, ?_, fun D C s₃ hB => ?_⟩
  · intro b hb
    show b < h2.objs.size
    rw [sz2]
    have hb : b = I ∨ b = L ∨ b = x1 := by simpa using hb
    rcases hb with rfl | rfl | rfl
    · exact Nat.lt_succ_self _
    · exact Nat.lt_succ_of_lt (by rw [← hI]; exact Heap.lt_size hoL)
    · exact Nat.lt_succ_of_lt (by rw [← hI]; exact Heap.lt_size hx1)
  · obtain ⟨⟨h₃, tk₃, rfl⟩, old, nD, nC, hDC, hnm⟩ := hB
    have nD : I + 1 ≤ D := by rw [← sz2]; exact nD
    have nC : I + 1 ≤ C := by rw [← sz2]; exact nC
    have offC : ∀ {b : Addr} {o : Obj}, s1.heap.get? b = some o → b ≠ C ∧ b ≠ D ∧ b ≠ I := fun {b o} e => by
      have z := Heap.lt_size e
      rw [hI] at z
      exact ⟨Nat.ne_of_lt (Nat.lt_of_lt_of_le (Nat.lt_succ_of_lt z) nC), Nat.ne_of_lt (Nat.lt_of_lt_of_le (Nat.lt_succ_of_lt z) nD), Nat.ne_of_lt z⟩
    have kinds : (compEnvC scope cl C env).kindOf ("line" : Str) = some .local := lookup_relabel_local hline
    have hpp : ((compEnvC scope cl C env).scope.kind == .class || ((compEnvC scope cl C env).scope.kind == .module && (compEnvC scope cl C env).locals != (compEnvC scope cl C env).globals)) = false := by
      show (scope.kind == .class || (scope.kind == .module && _)) = false
      rw [hkind]; rfl
    have fsucc : ∀ {i : Nat} {n : Str} {b : Bool}, ns[i]? = some (n, b) → ((ns.take (i + 1)).filter (·.2)).map (fun p => V.str p.1) = ((ns.take i).filter (·.2)).map (fun p => V.str p.1) ++ (if b then [V.str n] else []) := fun {i n b} e => by
      rw [List.take_add_one, e]
      cases b <;> simp
    refine ⟨fun i ys s' => ∃ h' tk m, s' = { s1 with heap := h', toks := tk } ∧ h'.Ns C m ∧ Vals (((ns.take i).filter (·.2)).map fun p => V.str p.1) ys ∧ ∀ b o, s1.heap.get? b = some o → h'.get? b = some o, ⟨h₃, tk₃, _, rfl, hnm, by simpa using Paired.nil, fun b o e => old b o (up2 b o e)⟩, ?_, ?_, ?_⟩
    · rintro i ys s' h' tk ⟨h₄, tk₄, m, rfl, n₄, e₄, k₄⟩ hk' _
      refine ⟨h', tk, m, rfl, n₄.at' fun o e => hk' _ o (fun z => ?_) e, e₄, fun b o e => hk' b o (fun z => ?_) (k₄ b o e)⟩
      · have z : C = D ∨ C = I := by simpa using z
        rcases z with z | z
        · exact hDC z.symm
        · rw [z] at nC
          exact absurd nC (Nat.not_succ_le_self _)
      · have z : b = D ∨ b = I := by simpa using z
        exact z.elim (offC e).2.1 (offC e).2.2
    · rintro i v ys s' hi hv st ⟨h₄, tk₄, m, rfl, n₄, e₄, k₄⟩ hpl
      have hv : its[i]? = some v := by simpa using hv
      obtain ⟨p, n, t, b, rfl, hn, hT⟩ := hp.2 i v hv
      obtain ⟨oT, hoT, hcT⟩ := id hT
      refine wpAny_assign_Name (wpAny_storeName_local kinds n₄ (fun h₅ n₅ s₅ => ?_) hpp)
      have n₅ : h₅.Ns C _ := n₅
      have k₅ : ∀ b o, s1.heap.get? b = some o → h₅.get? b = some o := fun b o e => s₅.extBut b o (offC e).1 (k₄ b o e)
      have hT₅ : h₅.IsTuple p #[.str n t, .bool b] := hT.at fun o e => k₅ _ o e
      have hkd : (compEnvC scope cl C env).scope.kind = .function := hkind
      have st' : ∀ tk : Nat, (h₅.IsListIter I L (i + 1) ∧ h₅.IsList L its.toArray ∧ HotAt A x1 h₅) ∧ h₅.PlainList D ys.toArray := fun tk => by
        have nCI : I ≠ C := fun z => by rw [← z] at nC; exact absurd nC (Nat.not_succ_le_self _)
        exact ⟨⟨st.1.at fun o e => s₅.extBut _ o nCI e, st.2.1.at fun o e => s₅.extBut _ o (offC hoL).1 e, hh, o1, vs1, k₅ _ _ hx1, d1, c1⟩, hpl.extBut s₅.extBut hDC⟩
      refine wpAny_tests_one (wpAny_isTrue_value (line_at (k := 1) (j := 1) (x := .bool b) hkd kinds n₅ (if_pos rfl) hT₅ (by decide) (by decide) (by rfl) (by rfl) fun tk5 _ => wpAny_truthy_bool ?_))
      cases b with
      | false =>
        refine ⟨⟨h₅, tk5, _, rfl, n₅, ?_, k₅⟩, st' 0⟩
        rw [fsucc hn]
        simpa using e₄
      | true =>
        refine line_at (k := 0) (j := 0) (x := .str n t) hkd kinds n₅ (if_pos rfl) hT₅ (by decide) (by decide) (by rfl) (by rfl) fun tk6 _ => ?_
        refine ⟨⟨h₅, tk6, _, rfl, n₅, ?_, k₅⟩, st' 0⟩
        rw [fsucc hn]
        exact e₄.append (.cons ⟨_, rfl⟩ .nil)
    · rintro ys s' ⟨h₄, tk₄, m, rfl, n₄, e₄, k₄⟩ hpl
      refine ⟨m, n₄, fun h' hs' => hq D h' tk₄ ys (by rw [hI]; exact Nat.le_of_succ_le nD) (hpl.extBut hs'.extBut hDC) ?_ fun b o e => hs'.extBut b o (offC e).1 (k₄ b o e)⟩
      have z : ns.take its.toArray.size = ns := by rw [List.size_toArray, hp.1]; exact List.take_length
      rw [z] at e₄
      exact e₄
end
end Px

set_option Elab.async false
set_option linter.all false
set_option maxRecDepth 100000
set_option maxHeartbeats 4000000
namespace Px
open PySem PySem.Spec PyProof.Rows L2 L2H HotX

/-! ## what class a caught exception is of -/
def Ext (H H' : Hp) : Prop := ∀ b o, H b = some o → H' b = some o
theorem Ext.refl (H : Hp) : Ext H H := fun _ _ h => h
theorem Ext.trans {H H1 H2 : Hp} (a : Ext H H1) (b : Ext H1 H2) : Ext H H2 := fun c o h => b c o (a c o h)
theorem Ext.new {H : Hp} {p : Addr} {o : HO} (h : H p = none) : Ext H (upd H p o) := fun b u e => by
  rw [upd_ne (fun z => by rw [z, h] at e; cases e)]
  exact e
def PairsH (H : Hp) (vs : List V) (ns : List (Str × Bool)) : Prop := vs.length = ns.length ∧ ∀ (i : Nat) (v : V), vs[i]? = some v → ∃ p n b, v = .ref p ∧ ns[i]? = some (n, b) ∧ H p = some (.tup [.str n, .bl b])
theorem PairsH.ext {H H' : Hp} {vs : List V} {ns : List (Str × Bool)} (h : PairsH H vs ns) (e : Ext H H') : PairsH H' vs ns := ⟨h.1, fun i v hv => by
  obtain ⟨p, n, b, e1, e2, e3⟩ := h.2 i v hv
  exact ⟨p, n, b, e1, e2, e _ _ e3⟩⟩
/-- isinstance(e, C), e a caught exception with its dict at dd -/
theorem callR_isE {X : Cx} {a D dd : Addr} {oe : Obj} (C : ExcC X.K D) (hz : Zc (.ref D) (some dd) oe) (hf : ∃ vs, oe.data = .fields vs) (hp : (a, oe) ∈ X.pn) :
    CallR X (.builtin "isinstance") (fun xs H Q => ∃ (c : V) (cv : Value) (b : Bool), xs = [.ref a, c] ∧ (∃ fs, H dd = some (.xd fs)) ∧ (∀ u, RelV c u → u = cv) ∧ PySem.W.kitOne X.K (.ref D) cv = some b ∧ Q (.bl b) H) := by
  intro pins s σ H xs us Q I r h
  obtain ⟨c, cv, b, rfl, ⟨fs, hd⟩, hcv, e, q⟩ := h
  cases r with
  | cons rx rr =>
    cases rr with
    | cons rt rr =>
      cases rr
      cases rx
      have ec := hcv _ rt
      subst ec
      obtain ⟨hget, _⟩ := I.pin (a, oe) (List.mem_append_left _ hp)
      obtain ⟨vs, hv⟩ := hf
      have hx : ObjOk X.prog X.w H s.heap dd (.xd fs) := I.hok dd _ hd
      obtain ⟨mA, hns, hr⟩ := hx
      obtain ⟨od, ho, hl⟩ := lookIn_ns hns
      have J : PySem.W.InstAt s.heap a oe D (some od) := ⟨hget, hz.1, by unfold PySem.W.notCls; rw [hv] <;> rfl, by rw [hz.2]; exact ho⟩
      exact PySem.W.kia_one (PySem.W.kitx_exc (by obtain ⟨cd, hc, _⟩ := PySem.W.any_some C.hd; rw [hc]; rfl) C.hg C.hk C.hs C.ha C.hn C.ht C.hm) I.kIn J e (fun z => nomatch z) fun tk => ⟨.bl b, H, I.kept (t' := tk) fun _ _ z => z, rfl, q⟩
inductive ClsL : List Expr → List Str → Prop
  | nil : ClsL [] []
  | cons {n : Str} {es : List Expr} {ns : List Str} {j k : Nat} {p1 p2 p3 p4 p5 p6 : Pos} (h : ClsL es ns) :
      ClsL (.Tuple [.Constant (.str n) j p1, .Call (.Name "isinstance" p2) [.Name "refused_one" p3, .Name n p4] [] p5] k p6 :: es) (n :: ns)
/-- the list of pairs, item by item -/
def tCl (a dd : Addr) (ns : List (Str × Bool)) : TA := fun σ H Q => σ[0]? = some (some (.ref a)) ∧ (∃ fs, H dd = some (.xd fs)) ∧ ∀ vs H', Ext H H' → PairsH H' vs ns → Q vs H'
theorem pa_cls {X : Cx} {a D dd : Addr} {oe : Obj} {c : Str} (C : ExcC X.K D) (hz : Zc (.ref D) (some dd) oe) (hf : ∃ vs, oe.data = .fields vs) (hp : (a, oe) ∈ X.pn) (hN : X.N[0]? = some ("refused_one" : Str)) (hv : Vis X.env.scope ("refused_one" : Str))
    (hg : Gl X ("isinstance" : Str)) (hm : X.mg ("isinstance" : Str) = none) : ∀ {es : List Expr} {ns : List Str}, ClsL es ns →
    (∀ n ∈ ns, Gl X n ∧ (n == ("__debug__" : Str)) = false ∧ ∃ Cn, X.mg n = some (.ref Cn) ∧ PySem.W.kitOne X.K (.ref D) (.ref Cn) = some (decide (n = c))) → PA X es (tCl a dd (ns.map fun n => (n, decide (n = c))))
  | _, _, .nil, _ => (pa_nil).mono fun σ H Q ⟨_, _, hq⟩ => hq [] H (Ext.refl H) ⟨rfl, fun i v h => by simp at h⟩
  | _, _, .cons (n := n) (ns := ns) h, hn => by
    have ih := pa_cls C hz hf hp hN hv hg hm h fun m hm => hn m (List.mem_cons_of_mem _ hm)
    obtain ⟨g1, d1, Cn, m1, k1⟩ := hn n List.mem_cons_self
    have pv : ∀ p, PE X (.Name "refused_one" p) (tVar 0) := fun p => pe_var hN hv (by decide) (by decide)
    have pc : ∀ p, PE X (.Name n p) (tC (.ref Cn)) := fun p => pe_glob g1 m1 rfl d1
    refine (pa_cons (pe_tup (pa_cons pe_str (pa_cons (pe_callB (callR_isE C hz hf hp) hg hm (by decide +kernel) (pa_cons (pv _) (pa_cons (pc _) pa_nil rfl) rfl) (by decide) (by decide) rfl rfl) pa_nil rfl) rfl)) ih rfl).mono fun σ H Q ⟨hs, hd, hq⟩ => ?_
    refine ⟨.ref a, hs, .ref Cn, .ref Cn, _, rfl, hd, fun u r => r, k1, by rw [sizeLine_eq]; exact (by decide : 2 ≤ 16777216), fun p hp0 => ⟨hs, ?_, fun vs H' e ph => ?_⟩⟩
    · obtain ⟨fs, hd⟩ := hd
      exact ⟨fs, Ext.new hp0 _ _ hd⟩
    · refine hq (.ref p :: vs) H' ((Ext.new hp0).trans e) ⟨by simp [ph.1], fun i v hv => ?_⟩
      cases i with
      | zero =>
        simp only [List.getElem?_cons_zero, Option.some.injEq] at hv
        subst hv
        exact ⟨p, n, _, rfl, rfl, e _ _ upd_same⟩
      | succ i =>
        simp only [List.getElem?_cons_succ] at hv
        obtain ⟨p', n', b', e1, e2, e3⟩ := ph.2 i v hv
        exact ⟨p', n', b', e1, by simpa using e2, e3⟩
/-- what a law's list of classes says of the class at D, called c -/
structure SaysC (K : PySem.W.Frag) (mg : Str → Option Value) (D : Addr) (c : Str) (ns : List Str) : Prop where
  ex : ExcC K D
  xf : XfC K D
  what : PySem.W.findIn K (.ref D) "what" = some none
  at_ : ∀ n ∈ ns, (n == ("__debug__" : Str)) = false ∧ ∃ Cn, mg n = some (.ref Cn) ∧ PySem.W.kitOne K (.ref D) (.ref Cn) = some (decide (n = c))
/-- the def that lists the classes -/
structure ClsFn (K : PySem.W.Frag) (mg : Str → Option Value) (f : Addr) (ns : List Str) : Prop where
  ex : ∃ (x qual : Str) (params : Arguments) (es : List Expr) (pos pos' : Pos) (scope : Scope) (fd : FuncData), FunD K x qual params [.Return (some (.List es pos)) pos'] scope [] [] f fd ∧ FnScope ["refused_one"] ["refused_one"] scope ∧ ClsL es ns ∧
    Vis scope ("refused_one" : Str) ∧ scope.names.lookup ("isinstance" : Str) = some .globalImplicit ∧ (∀ n ∈ ns, scope.names.lookup n = some .globalImplicit) ∧ L2.Binds K fd ["refused_one"] []
  isi : mg ("isinstance" : Str) = none
  short : ns.length ≤ 1000
theorem cls_run {P : Program} {w : World} {K : PySem.W.Frag} {mg : Str → Option Value} {base : Heap} {f D dd : Addr} {c : Str} {ns : List Str} {k : Nat} {A : Around} {outer : List Env} {s : Shared} {H : Hp} {Q : VK} {E : XK} {a : Addr} {oe : Obj} (F : ClsFn K mg f ns) (S : SaysC K mg D c ns)
    (hz : Zc (.ref D) (some dd) oe) (hf : ∃ vs, oe.data = .fields vs) (hot : Hot1 A (a, oe)) (hpin : PinOk outer H s (a, oe)) (hr : RoomH (k + 1) A) (e0 : Env0 P w K mg base A outer s H) (hd : ∃ fs, H dd = some (.xd fs))
    (hq : ∀ L vs H', Ext H H' → H' L = some (.lst vs) → PairsH H' vs (ns.map fun n => (n, decide (n = c))) → Q (.ref L) H') :
    codeAny (model P w) A (.call (.ref f) ⟨[.ref a], []⟩) (CR (L2N.CX P w) outer P w H s Q E) s := by
  have isi := F.isi
  have hsh := F.short
  obtain ⟨x, qual, params, es, pos, pos', scope, fd, F, Sc, hl, hv, gi, gn, hb⟩ := F.ex
  obtain ⟨oc, od, dV, kV, doc, pm, an, cdv, ct, osl, rfl, lk, hcd, _, _⟩ := F.ex
  have KX : K.In s.heap := e0.mod.kin.keeps fun b o e => (e0.bs b o e).1
  have b2 := hb s [.ref a] KX rfl
  rw [List.append_nil] at b2
  refine codeAny_call_function hr.depth (KX _ _ lk) rfl Sc.co Sc.gen rfl (PySem.W.codeRec_of KX hcd) (b2 _ _ _ _ ?_)
  refine wpAny_newFunctionEnv_cells Sc.kind (fun y hy => ?_) fun env he s1 x1 => ?_
  · rcases Sc.par y.1 (List.of_mem_zip (a := y.1) (b := y.2) hy).1 with q | q
    · exact .inl q
    · exact .inr ⟨q, PySem.W.cellsFrom_some _ _ _ (.inl q)⟩
  subst he
  refine ⟨(e0.mod.nolimit.keeps fun b o e => (e0.bs b o e).1).keeps x1.toInCall.keep, codeAny_func ?_⟩
  have I := inv_startH (CX := L2N.CX P w) (w := w) (E := E) Sc hpin e0 (vs := [.ref a]) rfl (.cons rfl .nil) x1
  have body_ := pss_one (ps_ret (pos := pos') (pe_lst (pos := pos) (pa_cls (X := cxH (L2N.CX P w) P w K mg base ["refused_one"] qual scope f cdv A outer s H E (a, oe)) S.ex hz hf List.mem_cons_self rfl hv gi isi hl fun n hn => ⟨gn n hn, S.at_ n hn⟩)))
  refine wpAny_mono (body_.run [] s1 _ H { nx := fun _ H' => Q .non H', rt := Q } I ?_) (fun fl s' hs => ?_) fun e s' hs => hs
  · refine ⟨rfl, hd, fun vs H' e ph => ⟨?_, fun p hp => hq p vs _ (e.trans (Ext.new hp)) upd_same (ph.ext (Ext.new hp))⟩⟩
    rw [ph.1, List.length_map]
    exact Nat.le_trans hsh (by rw [sizeLine_eq]; decide)
  · cases fl with
    | ret u =>
      obtain ⟨v, σ', H', J, rv, q⟩ := hs
      exact ⟨v, H', J.os, J.bare, J.base, J.hok, rv, q⟩
    | next =>
      obtain ⟨σ', H', J, q⟩ := hs
      exact ⟨.non, H', J.os, J.bare, J.base, J.hok, rfl, q⟩
    | brk =>
      obtain ⟨_, _, _, q⟩ := hs
      exact False.elim q
    | cont =>
      obtain ⟨_, _, _, q⟩ := hs
      exact False.elim q
section
variable {X : Cx} {a D dd : Addr} {oe : Obj} {c : Str} {ns : List Str} {pn : List (Addr × Obj)} {f : Addr} {k i : Nat}
/-- _law_classes(refused_one), in the suite -/
theorem pe_clscall {x : Str} {p p2 pos : Pos} (F : ClsFn X.K X.mg f ns) (S : SaysC X.K X.mg D c ns) (hz : L2N.Zn (.ref D) (some dd) oe) (hf : ∃ vs, oe.data = .fields vs) (hr : RoomH (k + 1) (X.A.mark (some (.ref a)))) (hg : Gl X x) (hm : X.mg x = some (.ref f)) (hk : PySem.W.keepIn X.K (.ref f) = true)
    (hi : X.N[i]? = some ("refused_one" : Str)) (hv : Vis X.env.scope ("refused_one" : Str)) (hdb : (x == ("__debug__" : Str)) = false) :
    PE (X.suite a ((a, oe) :: pn)) (.Call (.Name x p) [.Name "refused_one" p2] [] pos) (fun σ H Q => σ[i]? = some (some (.ref a)) ∧ (∃ fs, H dd = some (.xd fs)) ∧ ∀ L vs H', Ext H H' → H' L = some (.lst vs) → PairsH H' vs (ns.map fun n => (n, decide (n = c))) → Q (.ref L) H') := by
  refine ⟨fun pins s σ H Q I ⟨hσ, hd, hq⟩ => ?_⟩
  have pv : PE (X.suite a ((a, oe) :: pn)) (.Name "refused_one" p2) (tVar i) := pe_var hi hv (by decide) (by decide)
  refine wpAny_Call_Name_kw (ld_glob (X := X.suite a ((a, oe) :: pn)) I hg hm ?_ hdb)
  refine PySem.W.callWith_K (h₀ := X.base) I.ok.mod.kin hk (thn ((pa_cons pv pa_nil rfl).run pos pins s σ H (fun vs H1 => vs = [.ref a] ∧ H1 = H) I ⟨.ref a, hσ, rfl, rfl⟩) fun us s1 ⟨vs, H1, I1, r, ev, eH⟩ => ⟨I1.kIn, ?_⟩) rfl rfl
  subst ev
  rw [eH] at I1
  cases r with
  | cons r1 r2 =>
    cases r2
    obtain rfl : _ = Value.ref a := r1
    obtain ⟨vs, hvs⟩ := id hf
    have P1 := I1.pin (a, oe) (List.mem_append_left _ List.mem_cons_self)
    have hpin : PinOk X.stack H s1 (a, oe) := ⟨P1.1, P1.2.1, fun hm => (List.mem_cons.mp (I1.stkSub a hm)).elim P1.2.2.1 P1.2.2.2.1, P1.2.2.2.2⟩
    refine wpAny_call (codeAny_mono (cls_run (E := fun _ _ _ => False) (Q := Q) F S hz.zc hf (A := X.A.mark (some (.ref a))) ⟨rfl, vs, hvs, hz.2.2 vs hvs⟩ hpin hr I1.env0 hd hq) fun r s' hq' => ?_)
    cases r with
    | error e =>
      obtain ⟨_, _, _, _, _, _, _, _, _, _, _, _, z⟩ := hq'
      exact z.elim
    | ok fl =>
      cases fl with
      | ret u => exact I1.after hq'
      | next => exact False.elim hq'
      | brk => exact False.elim hq'
      | cont => exact False.elim hq'
theorem vals_names {H : Hp} {pins : List (Addr × Obj)} {σ : L2.St} {Y : Cx} {s : Shared} {vs : List V} {its : List Value} {ns : List (Str × Bool)} (I : Inv Y pins σ H s) (r : Vals vs its) (h : PairsH H vs ns) : PairsAt s.heap its ns := by
  refine ⟨r.length.symm.trans h.1, fun i v hv => ?_⟩
  have hi : i < vs.length := by rw [r.length]; exact (List.getElem?_eq_some_iff.mp hv).1
  obtain ⟨x, hx⟩ : ∃ x, vs[i]? = some x := ⟨vs[i], by simp [hi]⟩
  obtain ⟨u, hu, ru⟩ := r.get hx
  rw [hv] at hu
  cases hu
  obtain ⟨p, n, b, rfl, e2, e3⟩ := h.2 i x hx
  obtain rfl : v = Value.ref p := ru
  obtain ⟨ts, rt, pl, hz⟩ := I.tuple (.inl (.inl e3))
  cases rt with
  | cons r1 rt =>
    cases rt with
    | cons r2 rt =>
      cases rt
      obtain ⟨t, rfl⟩ := r1
      obtain rfl : _ = Value.bool b := r2
      exact ⟨p, n, t, b, rfl, e2, pl⟩
/-- what the comprehension's names must be -/
structure LineS (scope sc : Scope) : Prop where
  kind : scope.kind = .function
  cell : ∀ y ∈ scope.names, y.2 ≠ .cell
  free : ∀ y ∈ scope.names, y.2 ≠ .free
  names : ∀ y ∈ scope.names, y.2 = .local → scope.names.lookup y.1 = some .local
  line : scope.names.lookup ("line" : Str) = some .local
theorem pe_lines {x : Str} {p p2 pos pt pe p1 p3 q0 q1 q2 lpos : Pos} {k1 k2 : Nat} {scope : Scope} (F : ClsFn X.K X.mg f ns) (S : SaysC X.K X.mg D c ns) (hz : L2N.Zn (.ref D) (some dd) oe) (hf : ∃ vs, oe.data = .fields vs) (hr : RoomH (k + 1) (X.A.mark (some (.ref a)))) (hg : Gl X x) (hm : X.mg x = some (.ref f)) (hk : PySem.W.keepIn X.K (.ref f) = true)
    (hi : X.N[i]? = some ("refused_one" : Str)) (hv : Vis X.env.scope ("refused_one" : Str)) (hdb : (x == ("__debug__" : Str)) = false) (L : LineS scope X.env.scope) (hc : ns.filter (fun n => decide (n = c)) = [c]) :
    PE (X.suite a ((a, oe) :: pn)) (.ListComp (.Subscript (.Name "line" pe) (.Constant (.int 0) k1 p1) p3) [⟨.Name "line" pt, .Call (.Name x p) [.Name "refused_one" p2] [] pos, [.Subscript (.Name "line" q0) (.Constant (.int 1) k2 q1) q2], 0⟩] scope lpos)
      (fun σ H Q => σ[i]? = some (some (.ref a)) ∧ (∃ fs, H dd = some (.xd fs)) ∧ ∀ R H', Ext H H' → H' R = some (.lst [.str c]) → Q (.ref R) H') := by
  refine ⟨fun pins s σ H Q I ⟨hσ, hd, hq⟩ => ?_⟩
  have pc := pe_clscall (X := X) (pn := pn) (p := p) (p2 := p2) (pos := pos) (i := i) F S hz hf hr hg hm hk hi hv hdb
  refine pairs_lc (A := X.A.mark (some (.ref a))) (x1 := a) (ns := ns.map fun n => (n, decide (n = c))) (closure_ok (scope := scope) (env := X.env) fun y hy e => absurd e (L.free y hy)) L.cell L.kind L.names L.line (fun _ => rfl) ?_
  refine thn (pc.run pins s σ H (fun v H1 => ∃ L vs, v = .ref L ∧ Ext H H1 ∧ H1 L = some (.lst vs) ∧ PairsH H1 vs (ns.map fun n => (n, decide (n = c)))) I ⟨hσ, hd, fun L vs H' e1 e2 e3 => ⟨L, vs, rfl, e1, e2, e3⟩⟩) fun v s1 ⟨x1, H1, I1, r1, L, vs, ev, e1, e2, e3⟩ => ?_
  subst ev
  obtain rfl : v = Value.ref L := r1
  obtain ⟨its, rv, pl, hz1⟩ := I1.list (.inl (.inl e2))
  obtain ⟨ws, hws⟩ := id hf
  have P1 := I1.pin (a, oe) (List.mem_append_left _ List.mem_cons_self)
  refine ⟨L, its, rfl, ⟨rfl, oe, ws, P1.1, hws, hz.2.2 ws hws⟩, pl.isList, by rw [← rv.length]; exact hz1, vals_names I1 rv e3, fun D' h' tk ys nD hpl hys kp => ?_⟩
  have ey : ((ns.map fun n => (n, decide (n = c))).filter (·.2)).map (fun p => V.str p.1) = [.str c] := by
    have z : ((ns.map fun n => (n, decide (n = c))).filter (·.2)).map (fun p => V.str p.1) = (ns.filter fun n => decide (n = c)).map V.str := by
      rw [List.filter_map, List.map_map]
      rfl
    rw [z, hc]
    rfl
  rw [ey] at hys
  obtain ⟨n0, hn0⟩ := hpl
  have I2 := I1.laid (t' := tk) (a := D') (o := .lst [.str c]) (h' := h') kp nD ⟨by rw [sizeLine_eq]; exact (by decide : 1 ≤ 16777216), ys, n0, hys, hn0⟩
  exact ⟨.ref D', _, I2, rfl, hq D' _ (e1.trans (Ext.new (I1.hok.fresh nD))) upd_same⟩
/-- the suite: the class's name and what it keeps -/
abbrev suiteS (x : Str) (js kk k1 k2 : Nat) (p p2 pos pt pe p1 p3 q0 q1 q2 lpos a1 a2 a3 b1 b2 t1 r1 : Pos) (scope : Scope) : Stmt :=
  .Return (some (.Tuple [.Call (.Attribute (.Constant (.str " ") js a1) "join" a2) [.ListComp (.Subscript (.Name "line" pe) (.Constant (.int 0) k1 p1) p3) [⟨.Name "line" pt, .Call (.Name x p) [.Name "refused_one" p2] [] pos, [.Subscript (.Name "line" q0) (.Constant (.int 1) k2 q1) q2], 0⟩] scope lpos] [] a3, .Attribute (.Name "refused_one" b1) "what" b2] kk t1)) r1
def tSuite (i : Nat) (a dd : Addr) (c : Str) : TS := fun D σ H => σ[i]? = some (some (.ref a)) ∧ ∃ v, H dd = some (.xd [(("word" : Str), .str c), (("what" : Str), v)]) ∧ ∀ p H', Ext H H' → H' p = some (.tup [.str c, v]) → D.rt (.ref p) H'
theorem join_one (a c : Str) : Txt.join a [c] = c := by simp [Txt.join, Builtin.Str.glued]
theorem ps_suite {x : Str} {js kk k1 k2 : Nat} {p p2 pos pt pe p1 p3 q0 q1 q2 lpos a1 a2 a3 b1 b2 t1 r1 : Pos} {scope : Scope} (F : ClsFn X.K X.mg f ns) (S : SaysC X.K X.mg D c ns) (hz : L2N.Zn (.ref D) (some dd) oe) (hf : ∃ vs, oe.data = .fields vs) (hr : RoomH (k + 1) (X.A.mark (some (.ref a)))) (hg : Gl X x) (hm : X.mg x = some (.ref f)) (hk : PySem.W.keepIn X.K (.ref f) = true)
    (hi : X.N[i]? = some ("refused_one" : Str)) (hv : Vis X.env.scope ("refused_one" : Str)) (hdb : (x == ("__debug__" : Str)) = false) (L : LineS scope X.env.scope) (hc : ns.filter (fun n => decide (n = c)) = [c]) (hsz : c.length ≤ 1000) (hline : (a2.endLine == a3.line) = true) :
    PSs (X.suite a ((a, oe) :: pn)) [suiteS x js kk k1 k2 p p2 pos pt pe p1 p3 q0 q1 q2 lpos a1 a2 a3 b1 b2 t1 r1 scope] (tSuite i a dd c) := by
  have pl := pe_lines (X := X) (pn := pn) (p := p) (p2 := p2) (pos := pos) (pt := pt) (pe := pe) (p1 := p1) (p3 := p3) (q0 := q0) (q1 := q1) (q2 := q2) (lpos := lpos) (k1 := k1) (k2 := k2) F S hz hf hr hg hm hk hi hv hdb L hc
  have pj := pe_bm (X := X.suite a ((a, oe) :: pn)) (apos := a2) (cpos := a3) PySem.F.plainAttrs_str PySem.F.slot_str_join PySem.F.type_str_join mt_join (pe_str (x := " ") (j := js) (pos := a1)) (pa_cons pl pa_nil rfl) rfl (by rfl) hline rfl rfl
  have pv : PE (X.suite a ((a, oe) :: pn)) (.Name "refused_one" b1) (tVar i) := pe_var hi hv (by decide) (by decide)
  have pw := pe_xf (X := X) (a := a) (oe := oe) (pn := pn) (pos := b2) S.xf S.what hz.zc hf pv (by rfl)
  refine (pss_one (ps_ret (pe_tup (pa_cons pj (pa_cons pw pa_nil rfl) rfl)))).mono fun D' σ H ⟨hσ, v, hd, hq⟩ => ?_
  refine ⟨rfl, hσ, ⟨_, hd⟩, fun R H1 e1 hR => ⟨" ", R, [c], rfl, rfl, .inl (.inl (.inl hR)), ?_, ?_⟩⟩
  · have z : (Str.ofString " ").length = 1 := by decide +kernel
    show ([c].map (·.length)).sum + [c].length * (Str.ofString " ").length ≤ 16777216
    rw [z]
    simp
    omega
  · rw [join_one]
    exact ⟨.ref a, hσ, rfl, rfl, dd, _, v, rfl, e1 _ _ hd, rfl, by rw [sizeLine_eq]; exact (by decide : 2 ≤ 16777216), fun p hp => hq p _ (e1.trans (Ext.new hp)) upd_same⟩
end
end Px

set_option Elab.async false
set_option linter.all false
set_option maxRecDepth 100000
set_option maxHeartbeats 4000000
namespace Px
open PySem PySem.Spec PyProof.Rows L2 LamX

/-! ## a lambda without parameters, handed on -/
abbrev TlT := XK → Hp → VK → Prop
/-- what stands at f does tl when it is called, from whatever frames -/
structure Thunk (P : Program) (w : World) (K : PySem.W.Frag) (mg : Str → Option Value) (base : Heap) (k : Nat) (f c' : Addr) (q : Str) (fs : List Addr) (s0 : Shared) (H0 : Hp) (tl : TlT) : Prop where
  obj : ∃ oc od fd sl, s0.heap.get? f = some ⟨oc, od, .func fd, sl⟩
  no : H0 f = none
  nf : f ∉ fs
  mono : ∀ (E E' : XK) (HZ : Hp) (Q Q' : VK), (∀ c d H, E c d H → E' c d H) → (∀ v H, Q v H → Q' v H) → tl E HZ Q → tl E' HZ Q'
  run : ∀ (A : Around) (outer : List Env) (s1 : Shared) (HZ : Hp) (Q : VK) (E : XK), Room k A → Env0 P w K mg base A outer s1 HZ → Un fs [] H0 HZ s0.heap s1.heap → HZ c' = some (CodeO c' q) → tl E HZ Q →
    codeAny (model P w) A (.call (.ref f) ⟨[], []⟩) (CR (L2N.CX P w) outer P w HZ s1 Q E) s1
theorem Un.less {fs fs' : List Addr} {H H1 : Hp} {h h1 : Heap} (u : Un fs' [] H H1 h h1) (sub : ∀ b ∈ fs, b ∈ fs') (hn : ∀ b ∈ fs', b ∉ fs → h.get? b = none) : Un fs [] H H1 h h1 :=
  ⟨fun b o e n hb hx => u.keep b o e n (fun z => by rw [hn b z hb] at e; cases e) hx, fun b o e n hb hx => u.slot b o e n (sub b hb) hx, u.free, u.there, u.tups, u.frzs, u.tbls⟩
section
variable {P : Program} {w : World} {K : PySem.W.Frag} {mg : Str → Option Value} {base : Heap} {k : Nat} {f c' : Addr} {q : Str} {fs : List Addr} {s0 : Shared} {H0 : Hp} {tl : TlT}
/-- seen from further in -/
theorem Thunk.move {fs' : List Addr} {s1 : Shared} {H1 : Hp} (T : Thunk P w K mg base k f c' q fs s0 H0 tl) (u : Un fs' [] H0 H1 s0.heap s1.heap) (sub : ∀ b ∈ fs, b ∈ fs') (hn : ∀ b ∈ fs', b ∉ fs → s0.heap.get? b = none) : Thunk P w K mg base k f c' q fs' s1 H1 tl := by
  obtain ⟨oc, od, fd, sl, ho⟩ := T.obj
  have nf' : f ∉ fs' := fun z => by rw [hn f z T.nf] at ho; cases ho
  refine ⟨⟨oc, od, fd, sl, u.keep f _ ho T.no nf' (by simp)⟩, u.free f _ ho T.no (by simp), nf', T.mono, fun A outer s2 HZ Q E hr e0 u2 hc ht => T.run A outer s2 HZ Q E hr e0 (Un.less (u.trans u2) sub hn) hc ht⟩
/-- the context of the lambda's body -/
abbrev lamCxN (X : Cx) (A : Around) (outer : List Env) (s : Shared) (H : Hp) (E : XK) (scope : Scope) (f c' : Addr) : Cx :=
  (lamCx X A outer s H E scope f c').tr [] (fun e s' => wpAny (model X.prog X.w) (A.deeper (lamEnv X scope s.heap.objs.size f c')) (leaving (lamEnv X scope s.heap.objs.size f c') e) (fun _ s'' => L2N.CX X.prog X.w outer H s E e s'') (fun e' s'' => L2N.CX X.prog X.w outer H s E e' s'') s')
theorem takesLam {X : Cx} {A : Around} {outer : List Env} {s : Shared} {H : Hp} {E : XK} {scope : Scope} {f c' : Addr} : L2N.Takes (lamCxN X A outer s H E scope f c') (fun cls d _ H => E cls d H) :=
  L2N.takes_of (X := lamCxN X A outer s H E scope f c') rfl rfl rfl rfl
section
variable {X : Cx} {pins : List (Addr × Obj)} {σ : L2.St} {H : Hp} {s : Shared}
theorem Thunk.make {scope : Scope} {params : Arguments} {body : Expr} {pm ctv : Value} {tb : XK → TE} (I : Inv X pins σ H s) (L : LamS X.env.scope scope) (hf : s.heap.get? f = some (PySem.W.kla_obj "<lambda>" (X.env.qual ++ "<lambda>") params body scope (cloFrom X.env.cells scope.names []) pm c' ctv)) (hfn : H f = none) (hfr : f ∉ frs X.stack)
    (hbind : bindArgs (PySem.W.kla_fn "<lambda>" (X.env.qual ++ "<lambda>") params body scope (cloFrom X.env.cells scope.names []) pm (.ref c') ctv) ⟨[], []⟩ = pure [])
    (hbody : ∀ (A : Around) (outer : List Env) (s : Shared) (H : Hp) (E : XK), Room k (A.deeper (lamEnv X scope s.heap.objs.size f c')) → PE (lamCxN X A outer s H E scope f c') body (tb E))
    (hmono : ∀ (E E' : XK) (HZ : Hp) (Q Q' : VK), (∀ c d H, E c d H → E' c d H) → (∀ v H, Q v H → Q' v H) → tb E σ HZ Q → tb E' σ HZ Q') :
    Thunk X.prog X.w X.K X.mg X.base (k + 1) f c' (X.env.qual ++ "<lambda>") (frs X.stack) s H (fun E HZ Q => tb E σ HZ Q) := by
  refine ⟨⟨_, _, _, _, hf⟩, hfn, hfr, hmono, fun A outer s1 HZ Q E hr e0 un hc ht => ?_⟩
  have of1 : s1.heap.get? f = some (PySem.W.kla_obj "<lambda>" (X.env.qual ++ "<lambda>") params body scope (cloFrom X.env.cells scope.names []) pm c' ctv) := un.keep f _ hf hfn hfr (by simp)
  obtain ⟨⟨oc, vs, t, hoc, hdc, hvc⟩, _, _⟩ := e0.hok c' _ hc
  refine PySem.W.kla_callFunE hr.depth of1 rfl L.co L.gen rfl ⟨c', oc, vs, t, rfl, hoc, hdc, hvc⟩ ?_
  rw [hbind]
  refine wpAny_pure (wpAny_newFunctionEnv (fun y hy => (L.own y hy).2) (fun y hy => absurd hy (by simp)) (fun h₁ hns hsb => ⟨(e0.mod.nolimit.keeps fun b o e => (e0.bs b o e).1).fresh _ hsb, ?_⟩) L.kind)
  show codeAny _ _ (.expr body (lamEnv X scope s1.heap.objs.size f c')) _ _
  have kp : ∀ b o, s1.heap.get? b = some o → h₁.get? b = some o := fun b o e => hsb.extBut b o (Nat.ne_of_lt (Heap.lt_size e)) (Heap.get?_push_of_some _ e)
  have J0 : Inv (lamCx X A outer s1 HZ E scope f c') [] σ HZ { s1 with heap := h₁, toks := s1.toks + ([] : List (Str × Value)).length } := lam_start2 I L e0 hr.hd un hns kp
  have J := J0.toTry (fun e s' => wpAny (model X.prog X.w) (A.deeper (lamEnv X scope s1.heap.objs.size f c')) (leaving (lamEnv X scope s1.heap.objs.size f c') e) (fun _ s'' => L2N.CX X.prog X.w outer HZ s1 E e s'') (fun e' s'' => L2N.CX X.prog X.w outer HZ s1 E e' s'') s')
  refine PySem.W.kla_codeExpr (wpAny_mono ((hbody A outer s1 HZ E (hr.deeper _)).run [] _ _ HZ Q J ht) (fun v s' hq => ?_) fun e s' hq => hq)
  obtain ⟨w', H', J', rv, q⟩ := hq
  exact ⟨w', H', J'.os, J'.bare, J'.base, J'.hok, rv, q⟩
end
/-- deed(), in a def that was handed the lambda -/
theorem pe_deed {N : List Str} {qual : Str} {scope : Scope} {g : Addr} {cdg : Value} {A : Around} {outer : List Env} {s : Shared} {H : Hp} {Eg : XK} {pn : List (Addr × Obj)} {xe : Value → Shared → Prop} {W : WX} {a : Str} {i : Nat} {p1 p2 : Pos}
    (T : Thunk P w K mg base k f c' q (frs outer) s H tl) (tk : L2N.Takes ((cxOf (L2N.CX P w) P w K mg base N qual scope g cdg A outer s H Eg).tr pn xe) W) (hr : Room k (A.deeper (envOfC qual scope s.heap.objs.size g cdg)))
    (hN : N[i]? = some a) (hv : Vis scope a) (hd : (a == ("__debug__" : Str)) = false) (hcd : (a == ("__classdict__" : Str)) = false) :
    PE ((cxOf (L2N.CX P w) P w K mg base N qual scope g cdg A outer s H Eg).tr pn xe) (.Call (.Name a p1) [] [] p2) (fun σZ HZ Q => σZ[i]? = some (some (.ref f)) ∧ HZ c' = some (CodeO c' q) ∧ tl (WE W σZ) HZ Q) := by
  refine ⟨fun pinsZ sZ σZ HZ Q IZ h => ?_⟩
  obtain ⟨hs, hc, ht⟩ := h
  refine wpAny_Call_Name_kw (thn ((pe_var (X := (cxOf (L2N.CX P w) P w K mg base N qual scope g cdg A outer s H Eg).tr pn xe) (pos := p1) (i := i) hN hv hd hcd).run pinsZ sZ σZ HZ (fun v H1 => v = .ref f ∧ H1 = HZ) IZ ⟨.ref f, hs, rfl, rfl⟩) fun u s1 ⟨v, H1, I1, r1, q1⟩ => ?_)
  obtain ⟨ev, eH⟩ := q1
  subst ev
  rw [eH] at I1
  obtain rfl : u = Value.ref f := r1
  obtain ⟨oc, od, fd, sl, ho⟩ := T.obj
  have of1 := I1.base.keep f _ ho T.no T.nf (fun z => nomatch (show f ∈ ([] : List Addr) from z))
  refine PySem.W.callWith_F0 ⟨_, _, _, _, of1⟩ ?_
  have rc := T.run (A.deeper (envOfC qual scope s.heap.objs.size g cdg)) (envOfC qual scope s.heap.objs.size g cdg :: outer) s1 HZ Q (WE W σZ) hr I1.env0 I1.base hc ht
  refine wpAny_call (codeAny_mono rc fun r s' hq => ?_)
  cases r with
  | error e => exact L2N.passAt tk σZ pinsZ HZ s1 e s' I1 hq
  | ok fl =>
    cases fl with
    | ret u => exact I1.after hq
    | next => exact False.elim hq
    | brk => exact False.elim hq
    | cont => exact False.elim hq
end
/-! ## _law_heard -/
def hearQ (Q : VK) : VK := fun v H1 => ∀ p H2, Ext H1 H2 → H2 p = some (.tup [.str "told", v]) → Q (.ref p) H2
def hearE (mg : Str → Option Value) (cs : List Str) (Q : VK) : XK := fun cls d H1 => ∃ (c : Str) (D dd : Addr) (v : V), c ∈ cs ∧ mg c = some (.ref D) ∧ cls = .ref D ∧ d = some dd ∧ H1 dd = some (.xd [(("word" : Str), .str c), (("what" : Str), v)]) ∧
  ∀ p H2, Ext H1 H2 → H2 p = some (.tup [.str c, v]) → Q (.ref p) H2
/-- the promise of _law_heard, at gH: kt what the lambda needs -/
def HeardP (P : Program) (w : World) (K : PySem.W.Frag) (mg : Str → Option Value) (base : Heap) (cs : List Str) (gH : Addr) : Prop :=
  ∀ (kt : Nat) (A : Around) (outer : List Env) (s : Shared) (H : Hp) (f c' : Addr) (q : Str) (tl : TlT) (Q : VK) (E : XK), Room (kt + 3) A → Env0 P w K mg base A outer s H → Thunk P w K mg base kt f c' q (frs outer) s H tl → H c' = some (CodeO c' q) →
    tl (hearE mg cs Q) H (hearQ Q) → codeAny (model P w) A (.call (.ref gH) ⟨[.ref f], []⟩) (CR (L2N.CX P w) outer P w H s Q E) s
/-- its text -/
abbrev heardB (deed xc : Str) (jt kt' js kk k1 k2 : Nat) (c1 c2 c3 c4 c5 c6 c7 c8 p p2 pos pt pe p1 p3 q0 q1 q2 lpos a1 a2 a3 b1 b2 t1 r1 : Pos) (scope : Scope) : List Stmt :=
  [.Try [.Return (some (.Tuple [.Constant (.str "told") jt c1, .Call (.Name deed c2) [] [] c3] kt' c4)) c5] [.ExceptHandler (some (.Name "Refused" c6)) (some "refused_one") [suiteS xc js kk k1 k2 p p2 pos pt pe p1 p3 q0 q1 q2 lpos a1 a2 a3 b1 b2 t1 r1 scope] c7] [] [] c8]
structure HeardS (deed xc : Str) (sc : Scope) : Prop where
  fs : FnScope [deed, "refused_one"] [deed] sc
  vd : Vis sc deed
  vr : Vis sc ("refused_one" : Str)
  lr : sc.names.lookup ("refused_one" : Str) = some .local
  gR : sc.names.lookup ("Refused" : Str) = some .globalImplicit
  gX : sc.names.lookup xc = some .globalImplicit
  d1 : (deed == ("__debug__" : Str)) = false
  d2 : (deed == ("__classdict__" : Str)) = false
  d3 : (xc == ("__debug__" : Str)) = false
theorem heard_ok {P : Program} {w : World} {K : PySem.W.Frag} {mg : Str → Option Value} {base : Heap} {cs ns : List Str} {gH fC CR : Addr} {name qual deed xc : Str} {params : Arguments} {sc scope : Scope} {fd : FuncData} {jt kt' js kk k1 k2 : Nat} {c1 c2 c3 c4 c5 c6 c7 c8 p p2 pos pt pe p1 p3 q0 q1 q2 lpos a1 a2 a3 b1 b2 t1 r1 : Pos}
    (F : FunD K name qual params (heardB deed xc jt kt' js kk k1 k2 c1 c2 c3 c4 c5 c6 c7 c8 p p2 pos pt pe p1 p3 q0 q1 q2 lpos a1 a2 a3 b1 b2 t1 r1 scope) sc [] [] gH fd) (S : HeardS deed xc sc) (hb : L2.Binds K fd [deed] []) (FC : ClsFn K mg fC ns) (hX : mg xc = some (.ref fC)) (kX : PySem.W.keepIn K (.ref fC) = true)
    (hR : mg ("Refused" : Str) = some (.ref CR)) (L : LineS scope sc) (hcs : ∀ c ∈ cs, ∃ D, mg c = some (.ref D) ∧ SaysC K mg D c ns ∧ ns.filter (fun n => decide (n = c)) = [c] ∧ c.length ≤ 1000 ∧ PySem.W.exmOne K (.ref D) (.ref CR) = some true) (hline : (a2.endLine == a3.line) = true) :
    HeardP P w K mg base cs gH := by
  intro kt A outer s H f c' q tl Q E hr e0 Th hc' hq
  obtain ⟨oc, od, dV, kV, doc, pm, an, cdv, ct, osl, rfl, lk, hcd, _, _⟩ := F.ex
  have KX : K.In s.heap := e0.mod.kin.keeps fun b o e => (e0.bs b o e).1
  have b2 := hb s [.ref f] KX rfl
  rw [List.append_nil] at b2
  refine LamX.run_ofS (CX := L2N.CX P w) (N := [deed, "refused_one"]) (ps := [deed]) (us := [.ref f]) (vs := [.ref f]) lk hcd S.fs (k := kt + 2) hr e0 b2 (.cons rfl .nil) rfl fun hr2 => ?_
  refine ⟨_, pss_one (L2N.ps_try_as (i := 1)
    (tb := fun W D σ H1 => σ[0]? = some (some (.ref f)) ∧ H1 c' = some (CodeO c' q) ∧ tl (WE W σ) H1 fun v H2 => [V.str "told", v].length ≤ sizeLine ∧ ∀ p, H2 p = none → D.rt (.ref p) (upd H2 p (.tup [.str "told", v])))
    (ts := fun a cls d => fun D σ H1 => ∃ (c : Str) (Dc dd : Addr), c ∈ cs ∧ mg c = some (.ref Dc) ∧ cls = .ref Dc ∧ d = some dd ∧ tSuite 1 a dd c D σ H1) (c := .ref CR)
    (Wout := fun _ _ _ _ => False) rfl rfl S.fs.nd rfl S.lr ⟨S.gR, by decide, .inl hR⟩ (fun _ _ x => ?_) (fun W pn xe tk _ => ?_) (fun a oe cls d pn hz hf => ?_)), ?_⟩
  · obtain ⟨_, _, _, _, _, _, _, _, _, _, _, _, _, _, _, _, z⟩ := x
    exact z.elim
  · have pd := pe_deed (i := 0) (p1 := c2) (p2 := c3) Th tk (hr2.mono (by omega)) rfl S.vd S.d1 S.d2
    exact pss_one (ps_ret (pos := c5) (pe_tup (x1 := kt') (pos := c4) (pa_cons (pe_str (x := "told") (j := jt) (pos := c1)) (pa_cons pd pa_nil rfl) rfl)))
  · refine ⟨fun pins s' σ H' D I ⟨c, Dc, dd, h1, h2, h3, h4, h5⟩ => ?_⟩
    subst h3 h4
    obtain ⟨D2, m2, sy, hfil, hlen, _⟩ := hcs c h1
    rw [h2] at m2
    cases m2
    exact (ps_suite (X := cxOf (L2N.CX P w) P w K mg base [deed, "refused_one"] qual sc gH cdv A outer s H E) (pn := pn) (i := 1) FC sy hz hf (k := kt + 1) ⟨hr2.dp, hr2.un⟩ S.gX hX kX rfl S.vr S.d3 L hfil hlen hline).run pins s' σ H' D I h5
  · refine ⟨rfl, hc', Th.mono _ _ _ _ _ (fun cls d H1 he => ?_) (fun v H1 h1 => ⟨by rw [sizeLine_eq]; exact (by decide : 2 ≤ 16777216), fun p hp => h1 p _ (Ext.new hp) upd_same⟩) hq⟩
    obtain ⟨c, Dc, dd, v, h1, h2, rfl, rfl, h5, h6⟩ := he
    obtain ⟨D2, m2, sy, hfil, hlen, ex⟩ := hcs c h1
    rw [h2] at m2
    cases m2
    refine ⟨true, ex, fun _ a ha => ⟨c, Dc, dd, h1, h2, rfl, rfl, rfl, v, h5, fun p H2 e hp => h6 p H2 e hp⟩, fun z => Bool.noConfusion z⟩
end Px

set_option Elab.async false
set_option linter.all false
set_option maxRecDepth 100000
set_option maxHeartbeats 4000000
namespace Px
open PySem PySem.Spec PyProof.Rows L2 LamX

/-! ## the maker's side -/
theorem Gr.extN {ι : List Addr} {H H1 : Hp} (e : ExtN H H1) : Gr ι H ι H1 := ⟨⟨[], by simp⟩, fun a xs h => e _ _ h (by intro ps z; cases z), fun a o u h => e _ _ h (by intro ps z; cases z), fun a φ h => e _ _ h (by intro ps z; cases z)⟩
theorem Sim.extN {G : Glob} {ι : List Addr} {H H1 : Hp} {mh : MH} (s : Sim G ι H mh) (e : ExtN H H1) (t : Tabs G.T H1) : Sim G ι H1 mh := by
  refine ⟨s.len, fun n o h => ?_, s.inj, t⟩
  obtain ⟨a, h1, h2⟩ := s.obj n o h
  refine ⟨a, h1, ?_⟩
  cases o with
  | lst xs =>
    obtain ⟨vs, k1, k2⟩ := h2
    exact ⟨vs, e _ _ k1 (by intro ps z; cases z), k2.mono (Gr.extN e)⟩
  | frz xs =>
    obtain ⟨vs, k1, k2⟩ := h2
    refine ⟨vs, ?_, k2.mono (Gr.extN e)⟩
    rcases k1 with ⟨o, k1⟩ | k1
    · exact .inl ⟨o, e _ _ k1 (by intro ps z; cases z)⟩
    · exact .inr k1
/-- what _law_heard makes of it -/
def hearR (cs : List Str) (r : R PV) : R PV := match r with
  | .ok v mh => .ok (.tup [.str "told", v]) mh
  | .exc c w mh => if c ∈ cs then .ok (.tup [.str c, w]) mh else .stk
  | .stk => .stk
def eHear (cs : List Str) (m : ES) : ES := fun ps mh => hearR cs (m ps mh)
theorem hear_out {G : Glob} {E0 : XK} {ι : List Addr} {H : Hp} {cs : List Str} {r : R PV} {Q : VK} (o : OutE G E0 ι H (hearR cs r) Q) : OutE G (hearE G.mg cs Q) ι H r (hearQ Q) := by
  cases r with
  | ok x mh =>
    intro v H' ι' g s' rp p H2 e hp
    have g2 := Gr.ext (ι := ι') [] e
    rw [List.append_nil] at g2
    exact o (.ref p) H2 ι' (g.trans g2) (s'.ext e) (.tup (SqT.of hp) (.cons (.str _) (.cons (rp.mono g2) .nil)))
  | exc c w mh =>
    unfold hearR at o
    simp only at o
    split at o
    · rename_i hc
      intro cv d H' ι' g s' x'
      obtain ⟨D, dd, v, x1, x2, x3, x4, x5⟩ := x'
      refine ⟨c, D, dd, v, hc, x1, x2, x3, x4, fun p H2 e hp => ?_⟩
      have g2 := Gr.ext (ι := ι') [] e
      rw [List.append_nil] at g2
      exact o (.ref p) H2 ι' (g.trans g2) (s'.ext e) (.tup (SqT.of hp) (.cons (.str _) (.cons (x5.mono g2) .nil)))
    · exact o.elim
  | stk => exact o
section
variable {X : Cx} {T : List (Addr × Str)} {W : WX} {cs : List Str} {gH : Addr}
theorem call_heard {pins : List (Addr × Obj)} {σ : L2.St} {H : Hp} {s : Shared} {kt : Nat} {f c' : Addr} {q : Str} {tl : TlT} {Q : VK} (HP : HeardP X.prog X.w X.K X.mg X.base cs gH) (hr : Room (kt + 3) X.A) (I : Inv X pins σ H s)
    (Th : Thunk X.prog X.w X.K X.mg X.base kt f c' q (frs X.stack) s H tl) (hc : H c' = some (CodeO c' q)) (hq : tl (hearE X.mg cs Q) H (hearQ Q)) : wpAny (model X.prog X.w) X.A (call (.ref gH) [.ref f]) (EP X pins σ Q) X.xe s := by
  refine wpAny_call (codeAny_mono (HP kt X.A X.stack s H f c' q tl Q (fun _ _ _ => False) hr I.env0 Th hc hq) fun r s' hq' => ?_)
  cases r with
  | error e => exact pass_never (X := X) pins σ H s e s' I hq'
  | ok fl =>
    cases fl with
    | ret u => exact I.after hq'
    | next => exact False.elim hq'
    | brk => exact False.elim hq'
    | cont => exact False.elim hq'
/-- where the maker's lambdas' code objects are kept -/
def LamMk (X : Cx) (T : List (Addr × Str)) : Prop := ∃ c P, X.env.code = .ref c ∧ TabB X.base X.mg c P ∧ (P, X.env.qual ++ "<lambda>") ∈ T ∧ ∀ p ∈ T, p.1 = P → p.2 = X.env.qual ++ "<lambda>"
/-- a lambda without parameters, its body -/
structure LamF (X : Cx) (T : List (Addr × Str)) (k : Nat) (params : Arguments) (body : Expr) (scope : Scope) (me : ES) : Prop where
  mkr : LamMk X T
  sc : LamS X.env.scope scope
  df : defaultsOf params X.env = ([], [])
  bind : ∀ (q : Str) (cl : List (Str × Addr)) (pm cv ctv : Value), bindArgs (PySem.W.kla_fn "<lambda>" q params body scope cl pm cv ctv) ⟨[], []⟩ = pure []
  body : ∀ (A : Around) (outer : List Env) (s : Shared) (H : Hp) (E : XK) (f c' : Addr), Room k (A.deeper (lamEnv X scope s.heap.objs.size f c')) → CE (lamCxN X A outer s H E scope f c') T (fun cls d _ H => E cls d H) body me
theorem rd_mono {G : Glob} {me : ES} {σ : L2.St} (E E' : XK) (HZ : Hp) (Q Q' : VK) (hE : ∀ c d H, E c d H → E' c d H) (hQ : ∀ v H, Q v H → Q' v H) (h : rdE G (fun cls d _ H => E cls d H) me σ HZ Q) : rdE G (fun cls d _ H => E' cls d H) me σ HZ Q' := by
  obtain ⟨ι, mh, ps, s, st, o⟩ := h
  refine ⟨ι, mh, ps, s, st, ?_⟩
  cases e : me ps mh with
  | ok x mh' => rw [e] at o; exact fun v H' ι' g s' r => hQ _ _ (o v H' ι' g s' r)
  | exc c w mh' => rw [e] at o; exact fun cv d H' ι' g s' x => hE _ _ _ (o cv d H' ι' g s' x)
  | stk => rw [e] at o; exact o
/-- _law_heard(lambda: body) -/
theorem ce_heard {x : Str} {k : Nat} {params : Arguments} {body : Expr} {scope : Scope} {me : ES} {p lpos pos : Pos} (HP : HeardP X.prog X.w X.K X.mg X.base cs gH) (hg : Gl X x) (hm : X.mg x = some (.ref gH)) (hk : PySem.W.keepIn X.K (.ref gH) = true) (hr : Room (k + 4) X.A) (L : LamF X T k params body scope me)
    (hdb : (x == ("__debug__" : Str)) = false) : CE X T W (.Call (.Name x p) [.Lambda params body scope lpos] [] pos) (eHear cs me) := by
  refine ⟨fun pins s σ H Q I ⟨ι, mh, ps, sm, st, o⟩ => ?_⟩
  obtain ⟨c, Pt, hcode, TB, hmT, hu⟩ := L.mkr
  refine wpAny_Call_Name_kw (ld_glob I hg hm ?_ hdb)
  refine PySem.W.callWith_K (h₀ := X.base) I.ok.mod.kin hk ?_ (by rfl) (by rfl)
  show wpAny _ _ (spliced ((false, eval (.Lambda params body scope lpos) X.env) :: backTo pos (starEach [] X.env))) _ _ s
  refine Calls.spliced_cons (lam_make2 I TB hcode hmT hu sm.tabs L.df (L.sc.has I.ok) fun f c' pm' ctv H1 s' I1 eN T1 hf hfn hfr hco => ?_)
  refine Calls.spliced_nil ⟨I1.kIn, ?_⟩
  refine call_heard HP hr I1 (Thunk.make (tb := fun E => rdE (gl X T) (fun cls d _ H => E cls d H) me) I1 L.sc hf hfn hfr (L.bind _ _ _ _ _) (fun A outer s H E hr2 => L.body A outer s H E f c' hr2) rd_mono) hco ?_
  exact ⟨ι, mh, ps, sm.extN eN T1, st.mono (Gr.extN eN), hear_out (G := gl X T) (OutE.mono (r := hearR cs (me ps mh)) (Gr.extN eN) o)⟩
end
/-! ## _law_tells, _law_refuses -/
/-- the promise of such a def, at g, with n values behind the lambda -/
def TellsP (P : Program) (w : World) (K : PySem.W.Frag) (mg : Str → Option Value) (T : List (Addr × Str)) (base : Heap) (kx : Nat) (g : Addr) (fd : FuncData) (ps : List Str) (m : MH → R PV → List PV → R PV) : Prop :=
  ∀ (kt : Nat) (A : Around) (outer : List Env) (s : Shared) (H : Hp) (f c' : Addr) (q : Str) (tl : TlT) (us : List Value) (vs : List V) (Q : VK) (E : XK), Room (kt + kx) A → Env0 P w K mg base A outer s H → Thunk P w K mg base kt f c' q (frs outer) s H tl → H c' = some (CodeO c' q) → Vals vs us →
    BindsTo s fd ⟨.ref f :: us, []⟩ (ps.zip (.ref f :: us)) →
    (∃ ι mh xs r, Sim ⟨K, mg, T⟩ ι H mh ∧ Reps ⟨K, mg, T⟩ ι H vs xs ∧ xs.length + 1 = ps.length ∧ (∀ E' Q', OutE ⟨K, mg, T⟩ E' ι H r Q' → tl E' H Q') ∧ OutE ⟨K, mg, T⟩ E ι H (m mh r xs) Q) →
    codeAny (model P w) A (.call (.ref g) ⟨.ref f :: us, []⟩) (CR (L2N.CX P w) outer P w H s Q E) s
noncomputable def tellsM (cs : List Str) (same : List PV → MH → R PV) (m2 : ES) (mh : MH) (r : R PV) (xs : List PV) : R PV := gc mh ((hearR cs r).bind fun h mh1 => (m2 (none :: xs.map some) mh1).bind fun y mh2 => same [h, y] mh2)
theorem tells_ok {P : Program} {w : World} {K : PySem.W.Frag} {mg : Str → Option Value} {base : Heap} {T : List (Addr × Str)} {cs : List Str} {gH g fS : Addr} {name qual xs_ xh deed : Str} {more psS : List Str} {params : Arguments} {sc : Scope} {fd fdS : FuncData} {e2 : Expr} {p1 p2 p3 p4 ph px : Pos} {kS : Nat} {same : List PV → MH → R PV} {m2 : ES}
    (F : FunD K name qual params [.Return (some (.Call (.Name xs_ px) [.Call (.Name xh ph) [.Name deed p1] [] p2, e2] [] p3)) p4] sc [] [] g fd) (S : FnScope (deed :: more) (deed :: more) sc) (HP : HeardP P w K mg base cs gH) (mH : mg xh = some (.ref gH)) (kH : PySem.W.keepIn K (.ref gH) = true) (gH_ : sc.names.lookup xh = some .globalImplicit)
    (mS : mg xs_ = some (.ref fS)) (kS_ : PySem.W.keepIn K (.ref fS) = true) (gS_ : sc.names.lookup xs_ = some .globalImplicit) (FS : FnOk P w K mg base (L2N.CX P w) kS fS fdS psS (spF ⟨K, mg, T⟩ 2 same)) (bS : ∀ us : List Value, us.length = 2 → bindArgs fdS ⟨us, []⟩ = pure (psS.zip us))
    (vd : Vis sc deed) (d1 : (deed == ("__debug__" : Str)) = false) (d2 : (deed == ("__classdict__" : Str)) = false) (d3 : (xh == ("__debug__" : Str)) = false) (d4 : (xs_ == ("__debug__" : Str)) = false)
    (h2 : ∀ (X : Cx) (W : WX), X.prog = P → X.w = w → X.K = K → X.mg = mg → X.base = base → X.N = deed :: more → X.env.scope = sc → CE X T W e2 m2) (hs : ∀ env, starEach [.Call (.Name xh ph) [.Name deed p1] [] p2, e2] env = (false, eval (.Call (.Name xh ph) [.Name deed p1] [] p2) env) :: starEach [e2] env) (hs2 : ∀ env, starEach [e2] env = [(false, eval e2 env)]) :
    TellsP P w K mg T base (kS + 6) g fd (deed :: more) (tellsM cs same m2) := by
  intro kt A outer s H f c' q tl us vs Q E hr e0 Th hc r hb ⟨ι, mh, xs, rr, sm, rp, hl, htl, o⟩
  obtain ⟨oc, od, dV, kV, doc, pm, an, cdv, ct, osl, rfl, lk, hcd, _, _⟩ := F.ex
  have hlv : (V.ref f :: vs).length = (deed :: more).length := by rw [List.length_cons, rp.length]; exact hl
  have o1 := OutE.ungc sm o
  refine LamX.run_ofS (CX := L2N.CX P w) (N := deed :: more) (ps := deed :: more) (us := .ref f :: us) (vs := .ref f :: vs) lk hcd S (k := kt + kS + 5) (hr.mono (by omega)) e0 hb (.cons rfl r) hlv fun hr2 => ?_
  let Z := cxOf (L2N.CX P w) P w K mg base (deed :: more) qual sc g cdv A outer s H E
  have tk : L2N.Takes Z (fun cls d _ H => E cls d H) := L2N.takes_of (X := Z) rfl rfl rfl rfl
  have pd : PE Z (.Name deed p1) (tVar 0) := pe_var rfl vd d1 d2
  have phd : PE Z (.Call (.Name xh ph) [.Name deed p1] [] p2) (fun σ H1 Q1 => σ[0]? = some (some (.ref f)) ∧ H1 c' = some (CodeO c' q) ∧ tl (hearE mg cs Q1) H1 (hearQ Q1)) := by
    refine ⟨fun pins s1 σ H1 Q1 J ⟨z1, z2, z3⟩ => ?_⟩
    refine wpAny_Call_Name_kw (ld_glob (X := Z) J gH_ mH ?_ d3)
    refine PySem.W.callWith_K (h₀ := base) J.ok.mod.kin kH (thn ((pa_cons pd pa_nil rfl).run p2 pins s1 σ H1 (fun vs H2 => vs = [.ref f] ∧ H2 = H1) J ⟨.ref f, z1, rfl, rfl⟩) fun us1 s2 ⟨vs1, H2, J2, r2, ev, eH⟩ => ⟨J2.kIn, ?_⟩) rfl rfl
    subst ev
    rw [eH] at J2
    cases r2 with
    | cons w1 w2 =>
      cases w2
      obtain rfl : _ = Value.ref f := w1
      have un : Un (frs Z.stack) [] H H1 s.heap s2.heap := Un.mono J2.base (fun b hb => List.mem_filterMap.mpr (by obtain ⟨e, he, q⟩ := List.mem_filterMap.mp hb; exact ⟨e, List.mem_cons_of_mem _ he, q⟩)) (fun b hb => hb)
      have Th2 : Thunk P w K mg base kt f c' q (frs Z.stack) s2 H1 tl := Th.move un (fun b hb => List.mem_filterMap.mpr (by obtain ⟨e, he, q⟩ := List.mem_filterMap.mp hb; exact ⟨e, List.mem_cons_of_mem _ he, q⟩)) fun b hb hn => by
        obtain ⟨e, he, q⟩ := List.mem_filterMap.mp hb
        rcases List.mem_cons.mp he with rfl | he
        · obtain rfl : s.heap.objs.size = b := Option.some.inj q
          cases z : s.heap.get? s.heap.objs.size with
          | none => rfl
          | some o => exact absurd (Heap.lt_size z) (Nat.lt_irrefl _)
        · exact absurd (List.mem_filterMap.mpr ⟨e, he, q⟩) hn
      exact call_heard (X := Z) HP (hr2.mono (by omega)) J2 Th2 z2 z3
  have pcall : PE Z (.Call (.Name xs_ px) [.Call (.Name xh ph) [.Name deed p1] [] p2, e2] [] p3) (fun σ H1 Q1 => (tCons (fun σ H1 Q1 => σ[0]? = some (some (.ref f)) ∧ H1 c' = some (CodeO c' q) ∧ tl (hearE mg cs Q1) H1 (hearQ Q1)) (tCons (rdE ⟨K, mg, T⟩ (fun cls d _ H => E cls d H) m2) tNil)) σ H1 fun vs H2 => spF ⟨K, mg, T⟩ 2 same vs H2 Q1 E) := by
    refine ⟨fun pins s1 σ H1 Q1 J hh => ?_⟩
    refine wpAny_Call_Name_kw (ld_glob (X := Z) J gS_ mS ?_ d4)
    refine PySem.W.callWith_K (h₀ := base) J.ok.mod.kin kS_ (thn ((pa_cons phd (pa_cons (h2 Z (fun cls d _ H => E cls d H) rfl rfl rfl rfl rfl rfl rfl) pa_nil (by rw [hs2]; rfl)) (hs _)).run p3 pins s1 σ H1 _ J hh) fun us1 s2 ⟨vs1, H2, J2, r2, q2⟩ => ⟨J2.kIn, ?_⟩) (hs _) (by rw [hs2]; rfl)
    have hl2 : us1.length = 2 := by rw [← r2.length]; exact spF_len _ _ _ _ q2
    exact run_fnP (X := Z) (us := us1) FS (hr2.mono (by omega)) (L2N.passAt tk σ) J2 (bS us1 hl2) r2 q2
  refine ⟨_, pss_one (ps_ret pcall), rfl, hc, ?_⟩
  refine htl _ _ (hear_out (G := ⟨K, mg, T⟩) ((OutE.bindE o1).imp fun v H1 ⟨ι1, mh1, x, g1, s1, r1, oo⟩ => ?_))
  have st : SimSt ⟨K, mg, T⟩ ι H (L2.start (deed :: more) (.ref f :: vs)) (none :: xs.map some) := by
    refine ⟨?_, fun i y e => ?_⟩
    · unfold L2.start
      rw [hlv]
      simp [rp.length]
    · cases i with
      | zero => cases e
      | succ i =>
        simp only [List.getElem?_cons_succ, List.getElem?_map] at e
        cases e2 : xs[i]? with
        | none => rw [e2] at e; cases e
        | some z =>
          rw [e2] at e
          cases e
          obtain ⟨v', k1, k2⟩ := rp.get e2
          refine ⟨v', ?_, k2⟩
          unfold L2.start
          rw [hlv, Nat.sub_self]
          simp [k1]
  refine ⟨ι1, mh1, _, s1, st.mono g1, (OutE.bindE oo).imp fun y H2 ⟨ι2, mh2, py, g2, s2, r2, o2⟩ => ⟨ι2, mh2, [x, py], s2, .cons (r1.mono g2) (.cons r2 .nil), rfl, o2⟩⟩
/-- g(lambda: body, e, ..) -/
def eTells (m : MH → R PV → List PV → R PV) (me : ES) (mr : AS) : ES := fun ps mh => (mr ps mh).bind fun xs mh => m mh (me ps mh) xs
theorem ce_tells {X : Cx} {T : List (Addr × Str)} {W : WX} {x : Str} {k kx : Nat} {params : Arguments} {body : Expr} {scope : Scope} {me : ES} {mr : AS} {g : Addr} {fd : FuncData} {psg : List Str} {m : MH → R PV → List PV → R PV} {es : List Expr} {p lpos pos : Pos}
    (TP : TellsP X.prog X.w X.K X.mg T X.base kx g fd psg m) (hg : Gl X x) (hm : X.mg x = some (.ref g)) (hk : PySem.W.keepIn X.K (.ref g) = true) (hb : ∀ us : List Value, us.length = psg.length → bindArgs fd ⟨us, []⟩ = pure (psg.zip us)) (hr : Room (k + 1 + kx) X.A) (L : LamF X T k params body scope me) (tk : L2N.Takes X W)
    (ha : CA X T W es mr) (hdb : (x == ("__debug__" : Str)) = false) (hpl : (backTo pos (starEach es X.env)).any (·.1) = false) (hlen : ∀ ps mh xs mh', mr ps mh = .ok xs mh' → xs.length + 1 = psg.length) :
    CE X T W (.Call (.Name x p) (.Lambda params body scope lpos :: es) [] pos) (eTells m me mr) := by
  refine ⟨fun pins s σ H Q I ⟨ι, mh, ps, sm, st, o⟩ => ?_⟩
  obtain ⟨c, Pt, hcode, TB, hmT, hu⟩ := L.mkr
  refine wpAny_Call_Name_kw (ld_glob I hg hm ?_ hdb)
  refine PySem.W.callWith_K (h₀ := X.base) I.ok.mod.kin hk ?_ (by rfl) hpl
  show wpAny _ _ (spliced ((false, eval (.Lambda params body scope lpos) X.env) :: backTo pos (starEach es X.env))) _ _ s
  refine Calls.spliced_cons (lam_make2 I TB hcode hmT hu sm.tabs L.df (L.sc.has I.ok) fun f c' pm' ctv H1 s' I1 eN T1 hf hfn hfr hco => ?_)
  have gN : Gr ι H ι H1 := Gr.extN eN
  obtain ⟨mL, ⟨oL, esL, epL, hoL, rL⟩, _⟩ := id I1.loc
  have I1p := I1.pins_of (pins' := (f, PySem.W.kla_obj "<lambda>" (X.env.qual ++ "<lambda>") params body scope (cloFrom X.env.cells scope.names []) pm' c' ctv) :: pins) fun z hz => by
    rcases List.mem_cons.mp hz with rfl | hz
    · refine ⟨hf, hfn, fun e => ?_, fun e => hfr ?_, fun v e => by cases e⟩
      · have e : f = X.env.locals := e
        rw [← e, hf] at hoL
        cases hoL
        cases rL.1
      · rcases I1.ok.stk with z | ⟨z, _⟩
        · rw [z]; exact e
        · rw [z]
          obtain ⟨u, hu, qq⟩ := List.mem_filterMap.mp (show f ∈ frs X.outer from e)
          exact List.mem_filterMap.mpr ⟨u, List.mem_cons_of_mem _ hu, qq⟩
    · exact I1.pin z (List.mem_append_right _ hz)
  refine thn (ha.run pos _ s' σ H1 (fun vs H2 => H2 c' = some (CodeO c' (X.env.qual ++ "<lambda>")) ∧ ∃ ι2 mh2 xs, Gr ι H ι2 H2 ∧ Sim (gl X T) ι2 H2 mh2 ∧ Reps (gl X T) ι2 H2 vs xs ∧ xs.length + 1 = psg.length ∧ OutE (gl X T) (WE W σ) ι2 H2 (m mh2 (me ps mh2) xs) Q) I1p ⟨ι, mh, ps, sm.extN eN T1, st.mono gN, ?_⟩) fun us s2 ⟨vs, H2, I2, r2, hc2, ι2, mh2, xs, g2, sm2, rp2, hl2, o2⟩ => ⟨I2.kIn, ?_⟩
  · have o1 : OutE (gl X T) (WE W σ) ι H ((mr ps mh).bind fun xs mh => m mh (me ps mh) xs) Q := o
    cases e : mr ps mh with
    | ok xs mh1 =>
      rw [e] at o1
      exact fun vs H2 ι2 g s r => ⟨g.xt _ _ hco, ι2, mh1, xs, gN.trans g, s, r, hlen _ _ _ _ e, OutE.mono (r := m mh1 (me ps mh1) xs) (gN.trans g) o1⟩
    | exc c w mh1 =>
      rw [e] at o1
      exact fun cv d H2 ι2 g s x => o1 cv d H2 ι2 (gN.trans g) s x
    | stk => rw [e] at o1; exact o1
  · have P2 := I2.pin (f, PySem.W.kla_obj "<lambda>" (X.env.qual ++ "<lambda>") params body scope (cloFrom X.env.cells scope.names []) pm' c' ctv) (List.mem_append_right _ List.mem_cons_self)
    have I3 := I2.pins_of (pins' := pins) fun z hz => I2.pin z (by
      rcases List.mem_append.mp (List.mem_append_right X.pn (List.mem_cons_of_mem (f, PySem.W.kla_obj "<lambda>" (X.env.qual ++ "<lambda>") params body scope (cloFrom X.env.cells scope.names []) pm' c' ctv) hz)) with q | q
      · exact List.mem_append_left _ q
      · exact List.mem_append_right _ q)
    have Th := Thunk.make (k := k) (tb := fun E => rdE (gl X T) (fun cls d _ H => E cls d H) me) I3 L.sc P2.1 P2.2.1 hfr (L.bind _ _ _ _ _) (fun A outer s H E hr2 => L.body A outer s H E f c' hr2) rd_mono
    have hlu : (Value.ref f :: us).length = psg.length := by
      rw [List.length_cons, ← r2.length, rp2.length]
      exact hl2
    refine wpAny_call (codeAny_mono (TP (k + 1) X.A X.stack s2 H2 f c' _ _ us vs Q (WE W σ) hr I3.env0 Th hc2 r2 (.of_eq (hb _ hlu)) ⟨ι2, mh2, xs, me ps mh2, sm2, rp2, hl2, fun E' Q' oo => ⟨ι2, mh2, ps, sm2, st.mono g2, oo⟩, o2⟩) fun r s' hq => ?_)
    cases r with
    | error e => exact L2N.passAt tk σ pins H2 s2 e s' I3 hq
    | ok fl =>
      cases fl with
      | ret u => exact I3.after hq
      | next => exact False.elim hq
      | brk => exact False.elim hq
      | cont => exact False.elim hq
end Px

set_option Elab.async false
set_option linter.all false
set_option maxRecDepth 100000
set_option maxHeartbeats 4000000
namespace Px
open PySem PySem.Spec PyProof.Rows L2 LamX

/-! ## from the text to what it does, with its proof -/
inductive Ent where
  | fn (k n : Nat) (f : List PV → MH → R PV) (kws : List KwP)
  | tells (k n : Nat) (m : MH → R PV → List PV → R PV)
  | heard
structure Gam where
  ents : List (Str × Ent)
  free : List Str
  gcd : List Str
  exc : List Str
  kR : Nat
  cs : List Str
  fv : List (Str × Nat × (List PV → MH → R PV))
  fvk : Nat
  lam : Bool
structure Ctx where
  N : List Str
  sc : Scope
  k : Nat
  is : List Nat
  cell : Bool
def EFn (P : Program) (w : World) (K : PySem.W.Frag) (mg : Str → Option Value) (T : List (Addr × Str)) (base : Heap) (x : Str) (k n : Nat) (f : List PV → MH → R PV) (kws : List KwP) : Prop :=
  ∃ (fa : Addr) (fd : FuncData) (ps : List Str), mg x = some (.ref fa) ∧ PySem.W.keepIn K (.ref fa) = true ∧ FnOk P w K mg base (L2N.CX P w) k fa fd ps (spF ⟨K, mg, T⟩ n f) ∧ ps.length = n ∧
    (∀ us : List Value, us.length = n → bindArgs fd ⟨us, []⟩ = pure (ps.zip us)) ∧
    ∀ p ∈ kws, p.π.length = n ∧ (∀ j ∈ p.π, j < p.n + p.ks.length) ∧ ∀ us ws : List Value, us.length = p.n → ws.length = p.ks.length → bindArgs fd ⟨us, p.ks.zip ws⟩ = pure (ps.zip (permL p.π (us ++ ws)))
def EntOk (P : Program) (w : World) (K : PySem.W.Frag) (mg : Str → Option Value) (T : List (Addr × Str)) (base : Heap) (cs : List Str) (x : Str) : Ent → Prop
  | .fn k n f kws => EFn P w K mg T base x k n f kws
  | .tells k n m => ∃ (g : Addr) (fd : FuncData) (ps : List Str), mg x = some (.ref g) ∧ PySem.W.keepIn K (.ref g) = true ∧ TellsP P w K mg T base k g fd ps m ∧ ps.length = n ∧ ∀ us : List Value, us.length = ps.length → bindArgs fd ⟨us, []⟩ = pure (ps.zip us)
  | .heard => ∃ g : Addr, mg x = some (.ref g) ∧ PySem.W.keepIn K (.ref g) = true ∧ HeardP P w K mg base cs g
structure GOk (P : Program) (w : World) (K : PySem.W.Frag) (mg : Str → Option Value) (T : List (Addr × Str)) (base : Heap) (Γ : Gam) : Prop where
  ents : ∀ x e, Γ.ents.lookup x = some e → EntOk P w K mg T base Γ.cs x e
  free : ∀ x ∈ Γ.free, mg x = none
  gcd : ∀ x ∈ Γ.gcd, mg x = some (.builtin "math.gcd")
  exc : ∀ c ∈ Γ.exc, RaisF P w K mg base Γ.kR c
  fv : ∀ y n f, Γ.fv.lookup y = some (n, f) → EFn P w K mg T base y Γ.fvk n f []
structure XOk (Γ : Gam) (c : Ctx) (X : Cx) (T : List (Addr × Str)) (W : WX) : Prop where
  g : GOk X.prog X.w X.K X.mg T X.base Γ
  room : Room c.k X.A
  calm : X.calm = true
  tk : L2N.Takes X W
  N : X.N = c.N
  nd : X.N.Nodup
  sc : X.env.scope = c.sc
  lam : Γ.lam = true → LamMk X T
  cell : c.cell = true → ∀ x, X.fn x = true
theorem EFn.fnF {X : Cx} {T : List (Addr × Str)} {x : Str} {k n j : Nat} {f : List PV → MH → R PV} {kws : List KwP} (h : EFn X.prog X.w X.K X.mg T X.base x k n f kws) (hr : Room j X.A) (hk : k ≤ j) : FnF X T x n f kws := by
  obtain ⟨fa, fd, ps, h1, h2, h3, h4, h5, h6⟩ := h
  exact ⟨fa, fd, k, ps, h1, h2, h3, hr.mono hk, h4, h5, h6⟩
def ixOf (x : Str) : List Str → Option Nat
  | [] => none
  | y :: r => if (y == x) = true then some 0 else (ixOf x r).map (· + 1)
theorem ixOf_get {x : Str} : ∀ {l : List Str} {i : Nat}, ixOf x l = some i → l[i]? = some x
  | [], _, h => by cases h
  | y :: r, i, h => by
    unfold ixOf at h
    split at h
    · rename_i e
      cases h
      simpa using e
    · obtain ⟨j, h1, rfl⟩ := Option.map_eq_some_iff.mp h
      simpa using ixOf_get h1
def slotOf (c : Ctx) (x : Str) : Option Nat := match c.sc.names.lookup x with
  | some .local => ixOf x c.N
  | some .cell => ixOf x c.N
  | some .free => ixOf x c.N
  | _ => none
theorem slotOf_ok {c : Ctx} {x : Str} {i : Nat} (h : slotOf c x = some i) : c.N[i]? = some x ∧ Vis c.sc x := by
  unfold slotOf at h
  split at h <;> rename_i e
  · exact ⟨ixOf_get h, .inl e⟩
  · exact ⟨ixOf_get h, .inr (.inl e)⟩
  · exact ⟨ixOf_get h, .inr (.inr e)⟩
  · cases h
def glb (c : Ctx) (x : Str) : Bool := match c.sc.names.lookup x with
  | some .globalImplicit => !(x == ("__debug__" : Str))
  | _ => false
def badN (x : Str) : Bool := x == ("__debug__" : Str) || x == ("__classdict__" : Str)
section
variable {Γ : Gam} {c : Ctx} {X : Cx} {T : List (Addr × Str)} {W : WX}
theorem glb_ok (h : XOk Γ c X T W) {x : Str} (e : glb c x = true) : Gl X x ∧ (x == ("__debug__" : Str)) = false := by
  unfold glb at e
  split at e
  · rename_i q
    refine ⟨?_, by simpa using e⟩
    show X.env.scope.names.lookup x = _
    rw [h.sc]
    exact q
  · cases e
theorem badN_ok {x : Str} (e : badN x = false) : (x == ("__debug__" : Str)) = false ∧ (x == ("__classdict__" : Str)) = false := by
  unfold badN at e
  exact Bool.or_eq_false_iff.mp e
def plainArg : Expr → Bool
  | .Starred _ _ => false
  | _ => true
theorem starEach_plain {e : Expr} {es : List Expr} {env : Env} (h : plainArg e = true) : starEach (e :: es) env = (false, eval e env) :: starEach es env := by
  cases e <;> first | rfl | cases h
theorem assignEach_plain {e : Expr} {es : List Expr} {env : Env} (h : plainArg e = true) : assignEach (e :: es) env = (false, assign e env) :: assignEach es env := by
  cases e <;> first | rfl | cases h
/-- an expression's meaning, with its proof -/
abbrev CEo (Γ : Gam) (c : Ctx) (e : Expr) : Type := Option { m : ES // ∀ X T W, XOk Γ c X T W → CE X T W e m }
abbrev CTo (Γ : Gam) (c : Ctx) (e : Expr) : Type := Option { m : TSm // ∀ X T W, XOk Γ c X T W → CT X T W e m }
structure AOk (X : Cx) (T : List (Addr × Str)) (W : WX) (es : List Expr) (m : AS) : Prop where
  ca : CA X T W es m
  len : ∀ ps mh xs mh', m ps mh = .ok xs mh' → xs.length = es.length
  pl : ∀ pos, (backTo pos (starEach es X.env)).any (·.1) = false
abbrev CAo (Γ : Gam) (c : Ctx) (es : List Expr) : Type := Option { m : AS // ∀ X T W, XOk Γ c X T W → AOk X T W es m }
theorem aCons_len {ma : ES} {mr : AS} {n : Nat} (h : ∀ ps mh xs mh', mr ps mh = .ok xs mh' → xs.length = n) : ∀ ps mh xs mh', aCons ma mr ps mh = .ok xs mh' → xs.length = n + 1 := by
  intro ps mh xs mh' e
  unfold aCons at e
  cases e1 : ma ps mh with
  | ok x mh1 =>
    rw [e1] at e
    simp only [R.bind] at e
    cases e2 : mr ps mh1 with
    | ok ys mh2 =>
      rw [e2] at e
      simp only at e
      cases e
      rw [List.length_cons, h _ _ _ _ e2]
    | exc a b c => rw [e2] at e; cases e
    | stk => rw [e2] at e; cases e
  | exc a b c => rw [e1] at e; cases e
  | stk => rw [e1] at e; cases e
def compA (rE : ∀ e, CEo Γ c e) : (es : List Expr) → CAo Γ c es
  | [] => some ⟨aNil, fun X T W hX => ⟨ca_nil, fun ps mh xs mh' e => by cases e; rfl, fun _ => rfl⟩⟩
  | e :: es => if h : plainArg e = true then match rE e, compA rE es with
    | some ⟨ma, ha⟩, some ⟨mr, hr⟩ => some ⟨aCons ma mr, fun X T W hX => ⟨ca_cons (ha X T W hX) (hr X T W hX).ca (starEach_plain h), aCons_len (hr X T W hX).len, fun pos => by rw [starEach_plain h]; exact (hr X T W hX).pl pos⟩⟩
    | _, _ => none
    else none
def compBo (rE : ∀ e, CEo Γ c e) (pos : Pos) : (op : BoolOp) → (es : List Expr) → CEo Γ c (.BoolOp op es pos)
  | _, [] => none
  | _, [a] => match rE a with
    | some ⟨m, h⟩ => some ⟨m, fun X T W hX => ce_one (h X T W hX)⟩
    | none => none
  | .And, a :: b :: r => match rE a, compBo rE pos .And (b :: r) with
    | some ⟨m, h⟩, some ⟨m2, h2⟩ => some ⟨eAnd m m2, fun X T W hX => ce_and (h X T W hX) (h2 X T W hX)⟩
    | _, _ => none
  | .Or, a :: b :: r => match rE a, compBo rE pos .Or (b :: r) with
    | some ⟨m, h⟩, some ⟨m2, h2⟩ => some ⟨eOr m m2, fun X T W hX => ce_or (h X T W hX) (h2 X T W hX)⟩
    | _, _ => none
def compTw (rT : ∀ e, CTo Γ c e) (pos : Pos) : (op : BoolOp) → (es : List Expr) → Option { m : TSm // ∀ X T W, XOk Γ c X T W → CW X T W (.BoolOp op es pos) m }
  | _, [] => none
  | .And, [a] => match rT a with
    | some ⟨m, h⟩ => some ⟨m, fun X T W hX => cw_and1 (h X T W hX)⟩
    | none => none
  | .Or, [a] => match rT a with
    | some ⟨m, h⟩ => some ⟨m, fun X T W hX => cw_or1 (h X T W hX)⟩
    | none => none
  | .And, a :: b :: r => match rT a, compTw rT pos .And (b :: r) with
    | some ⟨m, h⟩, some ⟨m2, h2⟩ => some ⟨tAndP m m2, fun X T W hX => cw_and (h X T W hX) (h2 X T W hX)⟩
    | _, _ => none
  | .Or, a :: b :: r => match rT a, compTw rT pos .Or (b :: r) with
    | some ⟨m, h⟩, some ⟨m2, h2⟩ => some ⟨tOrP m m2, fun X T W hX => cw_or (h X T W hX) (h2 X T W hX)⟩
    | _, _ => none
theorem ct_of_cw {e : Expr} {m : TSm} (h : CW X T W e m) : CT X T W e m := ⟨fun pins s σ H Q I hw => h.run (eval e X.env) pins s σ H Q I hw⟩
def tPlain : Expr → Bool
  | .UnaryOp .Not _ _ => false
  | .BoolOp _ _ _ => false
  | .IfExp _ _ _ _ => false
  | .Compare _ _ _ _ => false
  | _ => true
theorem tPlain_ok {e : Expr} {env : Env} (h : tPlain e = true) : ∀ whole, isTrue e env whole = (do let v ← whole; standAt e.pos; holding [v] (truthy v)) := by
  intro whole
  cases e <;> first | rfl | cases h | (rename_i op a p; cases op <;> first | rfl | cases h)
theorem XOk.units (h : XOk Γ c X T W) : X.A.units + 65 < cLine := by have := h.room.un; omega
def compT (rE : ∀ e, CEo Γ c e) (rT : ∀ e, CTo Γ c e) (e : Expr) : CTo Γ c e := match e with
  | .UnaryOp .Not a pos => match rT a with
    | some ⟨m, h⟩ => some ⟨tNotP m, fun X T W hX => ct_not (h X T W hX)⟩
    | none => none
  | .BoolOp op es pos => match compTw rT pos op es with
    | some ⟨m, h⟩ => some ⟨m, fun X T W hX => ct_of_cw (h X T W hX)⟩
    | none => none
  | .Compare a [op] [b] pos => if hm : behindInMarks op b = false then match rE a, rE b with
    | some ⟨ma, ha⟩, some ⟨mb, hb⟩ => some ⟨tBl (eCmp op ma mb), fun X T W hX => ct_cmp hX.units (ha X T W hX) (hb X T W hX) hm⟩
    | _, _ => none
    else none
  | e => if h : tPlain e = true then match rE e with
    | some ⟨m, hm⟩ => some ⟨tTru m, fun X T W hX => ct_tru (hm X T W hX) (tPlain_ok h)⟩
    | none => none
    else none
end
end Px

set_option Elab.async false
set_option linter.all false
set_option maxRecDepth 100000
set_option maxHeartbeats 4000000
namespace Px
open PySem PySem.Spec PyProof.Rows L2 LamX
section
variable {Γ : Gam} {c : Ctx} {X : Cx} {T : List (Addr × Str)} {W : WX}
def compName (Γ : Gam) (c : Ctx) (x : Str) (pos : Pos) : CEo Γ c (.Name x pos) :=
  match hs : slotOf c x with
  | some i => if hb : badN x = false then some ⟨eVar i, fun X T W hX => ce_var (by rw [hX.N]; exact (slotOf_ok hs).1) (by rw [hX.sc]; exact (slotOf_ok hs).2) (badN_ok hb).1 (badN_ok hb).2⟩ else none
  | none => if hg : glb c x = true then match hf : Γ.fv.lookup x with
    | some (n, f) => some ⟨eC (.fn x), fun X T W hX => by
        obtain ⟨fa, _, _, hm, _⟩ := hX.g.fv x n f hf
        exact ce_const (v := .ref fa) (pe_glob (v := .ref fa) (glb_ok hX hg).1 hm rfl (glb_ok hX hg).2) fun ι H => .fn hm⟩
    | none => none
    else none
def compConst (Γ : Gam) (c : Ctx) (k : Const) (j : Nat) (pos : Pos) : CEo Γ c (.Constant k j pos) := match k with
  | .int i => some ⟨eC (.int i), fun X T W hX => ce_int⟩
  | .str i => some ⟨eC (.str i), fun X T W hX => ce_str⟩
  | .bool i => some ⟨eC (.bl i), fun X T W hX => ce_bl⟩
  | .none => some ⟨eC .non, fun X T W hX => ce_non⟩
  | _ => none
def plainIx : Expr → Bool
  | .Name _ _ => true
  | .Constant _ _ _ => true
  | .BinOp _ _ _ _ => true
  | .UnaryOp _ _ _ => true
  | .Call _ _ _ _ => true
  | .Subscript _ _ _ => true
  | .IfExp _ _ _ _ => true
  | _ => false
theorem plainIx_ok {e : Expr} (h : plainIx e = true) : PlainIx e := by
  intro o i
  cases e <;> first | rfl | cases h
def compO (rE : ∀ e, CEo Γ c e) : (o : Option Expr) → Option { m : OS // ∀ X T W, XOk Γ c X T W → CO X T W o m }
  | none => some ⟨oNone, fun X T W hX => co_none⟩
  | some e => match rE e with
    | some ⟨m, h⟩ => some ⟨oSome m, fun X T W hX => co_some (h X T W hX)⟩
    | none => none
def compSub (rE : ∀ e, CEo Γ c e) (a b : Expr) (pos : Pos) : CEo Γ c (.Subscript a b pos) := match b with
  | .Slice lo hi none p2 => match rE a, compO rE lo, compO rE hi with
    | some ⟨m, h⟩, some ⟨ml, hl⟩, some ⟨mh, hh⟩ => some ⟨eSl m ml mh, fun X T W hX => ce_sl (h X T W hX) (hl X T W hX) (hh X T W hX)⟩
    | _, _, _ => none
  | b => if hs : plainIx b = true then match rE a, rE b with
    | some ⟨m, h⟩, some ⟨m2, h2⟩ => some ⟨eIx m m2, fun X T W hX => ce_ix (h X T W hX) (h2 X T W hX) (plainIx_ok hs)⟩
    | _, _ => none
    else none
/-- keywords -/
structure KOk (X : Cx) (T : List (Addr × Str)) (W : WX) (ks : List Keyword) (m : AS) : Prop where
  ck : CK X T W ks m
  len : ∀ ps mh xs mh', m ps mh = .ok xs mh' → xs.length = ks.length
def compK (rE : ∀ e, CEo Γ c e) : (ks : List Keyword) → Option { m : AS // ∀ X T W, XOk Γ c X T W → KOk X T W ks m }
  | [] => some ⟨aNil, fun X T W hX => ⟨ck_nil, fun ps mh xs mh' e => by cases e; rfl⟩⟩
  | ⟨nm, a, kp⟩ :: r => match rE a, compK rE r with
    | some ⟨m, h⟩, some ⟨m2, h2⟩ => some ⟨aCons m m2, fun X T W hX => ⟨ck_cons (h X T W hX) (h2 X T W hX).ck, aCons_len (h2 X T W hX).len⟩⟩
    | _, _ => none
def kwNames (ks : List Keyword) : Option (List Str) := ks.mapM (·.arg)
theorem kw_names {pos : Pos} {env : Env} : ∀ {ks : List Keyword} {l : List Str}, kwNames ks = some l → (backToKw pos (keywordEach ks env)).all (·.1.isSome) = true ∧ (backToKw pos (keywordEach ks env)).filterMap (·.1) = l ∧ (backToKw pos (keywordEach ks env)).any (·.1.isNone) = false ∧ l.length = ks.length
  | [], l, h => by
    cases h
    exact ⟨rfl, rfl, rfl, rfl⟩
  | ⟨nm, a, kp⟩ :: r, l, h => by
    unfold kwNames at h
    rw [List.mapM_cons] at h
    cases nm with
    | none => cases h
    | some n =>
      cases h2 : kwNames r with
      | none =>
        unfold kwNames at h2
        rw [h2] at h
        cases h
      | some l2 =>
        have h3 := h2
        unfold kwNames at h3
        rw [h3] at h
        cases h
        obtain ⟨a1, a2, a3, a4⟩ := kw_names (pos := pos) (env := env) h2
        refine ⟨?_, ?_, ?_, ?_⟩
        · show ((some n).isSome && (backToKw pos (keywordEach r env)).all (·.1.isSome)) = true
          rw [a1]; rfl
        · show n :: (backToKw pos (keywordEach r env)).filterMap (·.1) = n :: l2
          rw [a2]
        · show ((some n).isNone || (backToKw pos (keywordEach r env)).any (·.1.isNone)) = false
          rw [a3]; rfl
        · rw [List.length_cons, List.length_cons, a4]
theorem lenV_ne : ∀ xs mh c w mh', lenV xs mh ≠ .exc c w mh' := by
  intro xs mh c w mh'; unfold lenV; repeat' split
  all_goals (intro h; cases h; done)
theorem intV_ne : ∀ xs mh c w mh', intV xs mh ≠ .exc c w mh' := by
  intro xs mh c w mh'; unfold intV; repeat' split
  all_goals (intro h; cases h; done)
theorem absV1_ne : ∀ xs mh c w mh', absV1 xs mh ≠ .exc c w mh' := by
  intro xs mh c w mh'; unfold absV1; repeat' split
  all_goals (intro h; cases h; done)
theorem maxV_ne : ∀ xs mh c w mh', maxV xs mh ≠ .exc c w mh' := by
  intro xs mh c w mh'; unfold maxV; repeat' split
  all_goals (intro h; cases h; done)
theorem minV_ne : ∀ xs mh c w mh', minV xs mh ≠ .exc c w mh' := by
  intro xs mh c w mh'; unfold minV; repeat' split
  all_goals (intro h; cases h; done)
theorem gcdV_ne : ∀ xs mh c w mh', gcdV xs mh ≠ .exc c w mh' := by
  intro xs mh c w mh'; unfold gcdV; repeat' split
  all_goals (intro h; cases h; done)
theorem tupleV_ne : ∀ xs mh c w mh', tupleV xs mh ≠ .exc c w mh' := by
  intro xs mh c w mh'; unfold tupleV; repeat' split
  all_goals (intro h; cases h; done)
theorem listV_ne : ∀ xs mh c w mh', listV xs mh ≠ .exc c w mh' := by
  intro xs mh c w mh'; unfold listV; repeat' split
  all_goals (intro h; first | (cases h; done) | (unfold newL at h; split at h <;> cases h; done))
section
variable {x : Str} {e : Expr} {es : List Expr} {p pos : Pos} {mr : AS}
theorem blt_len (h : x = ("len" : Str)) (hg : Gl X x) (hm : X.mg x = none) (hr : AOk X T W (e :: es) mr) (hp : plainArg e = true) (hpl : (backTo pos (starEach es X.env)).any (·.1) = false) : CE X T W (.Call (.Name x p) (e :: es) [] pos) (eCall lenV mr) := by
  subst h; exact ce_callB lenV_ne cr_len hg hm (by decide +kernel) hr.ca (by decide) (by decide) (starEach_plain hp) hpl
theorem blt_abs (h : x = ("abs" : Str)) (hg : Gl X x) (hm : X.mg x = none) (hr : AOk X T W (e :: es) mr) (hp : plainArg e = true) (hpl : (backTo pos (starEach es X.env)).any (·.1) = false) : CE X T W (.Call (.Name x p) (e :: es) [] pos) (eCall absV1 mr) := by
  subst h; exact ce_callB absV1_ne cr_abs hg hm (by decide +kernel) hr.ca (by decide) (by decide) (starEach_plain hp) hpl
theorem blt_max (hc : X.calm = true) (h : x = ("max" : Str)) (hg : Gl X x) (hm : X.mg x = none) (hr : AOk X T W (e :: es) mr) (hp : plainArg e = true) (hpl : (backTo pos (starEach es X.env)).any (·.1) = false) : CE X T W (.Call (.Name x p) (e :: es) [] pos) (eCall maxV mr) := by
  subst h; exact ce_callB maxV_ne (cr_max2 hc) hg hm (by decide +kernel) hr.ca (by decide) (by decide) (starEach_plain hp) hpl
theorem blt_min (hc : X.calm = true) (h : x = ("min" : Str)) (hg : Gl X x) (hm : X.mg x = none) (hr : AOk X T W (e :: es) mr) (hp : plainArg e = true) (hpl : (backTo pos (starEach es X.env)).any (·.1) = false) : CE X T W (.Call (.Name x p) (e :: es) [] pos) (eCall minV mr) := by
  subst h; exact ce_callB minV_ne (cr_min2 hc) hg hm (by decide +kernel) hr.ca (by decide) (by decide) (starEach_plain hp) hpl
theorem blt_int (h : x = ("int" : Str)) (hg : Gl X x) (hm : X.mg x = none) (hr : AOk X T W (e :: es) mr) (hp : plainArg e = true) (hpl : (backTo pos (starEach es X.env)).any (·.1) = false) : CE X T W (.Call (.Name x p) (e :: es) [] pos) (eCall intV mr) := by
  subst h; exact ce_callTy intV_ne cr_int hg hm (by decide +kernel) hr.ca (by decide) (by decide) (starEach_plain hp) hpl
theorem blt_tuple (h : x = ("tuple" : Str)) (hg : Gl X x) (hm : X.mg x = none) (hr : AOk X T W (e :: es) mr) (hp : plainArg e = true) (hpl : (backTo pos (starEach es X.env)).any (·.1) = false) : CE X T W (.Call (.Name x p) (e :: es) [] pos) (eCall tupleV mr) := by
  subst h; exact ce_callTy tupleV_ne cr_tuple hg hm (by decide +kernel) hr.ca (by decide) (by decide) (starEach_plain hp) hpl
theorem blt_list (h : x = ("list" : Str)) (hg : Gl X x) (hm : X.mg x = none) (hr : AOk X T W (e :: es) mr) (hp : plainArg e = true) (hpl : (backTo pos (starEach es X.env)).any (·.1) = false) : CE X T W (.Call (.Name x p) (e :: es) [] pos) (eCall listV mr) := by
  subst h; exact ce_callTy listV_ne cr_list hg hm (by decide +kernel) hr.ca (by decide) (by decide) (starEach_plain hp) hpl
end
theorem bt_pl {es : List Expr} (hr : AOk X T W (e :: es) mr) (hp : plainArg e = true) (pos : Pos) : (backTo pos (starEach es X.env)).any (·.1) = false := by
  have z := hr.pl pos
  rw [starEach_plain hp] at z
  exact z
/-- a built-in -/
def compBlt (x : Str) (p : Pos) (e : Expr) (es : List Expr) (pos : Pos) (hg : glb c x = true) (hm : x ∈ Γ.free) (a : CAo Γ c (e :: es)) : CEo Γ c (.Call (.Name x p) (e :: es) [] pos) := match a with
  | none => none
  | some ⟨mr, hr⟩ => if hp : plainArg e = true then
      if h : x = ("len" : Str) then some ⟨eCall lenV mr, fun X T W hX => blt_len h (glb_ok hX hg).1 (hX.g.free _ hm) (hr X T W hX) hp (bt_pl (hr X T W hX) hp pos)⟩
      else if h : x = ("int" : Str) then some ⟨eCall intV mr, fun X T W hX => blt_int h (glb_ok hX hg).1 (hX.g.free _ hm) (hr X T W hX) hp (bt_pl (hr X T W hX) hp pos)⟩
      else if h : x = ("abs" : Str) then some ⟨eCall absV1 mr, fun X T W hX => blt_abs h (glb_ok hX hg).1 (hX.g.free _ hm) (hr X T W hX) hp (bt_pl (hr X T W hX) hp pos)⟩
      else if h : x = ("max" : Str) then some ⟨eCall maxV mr, fun X T W hX => blt_max hX.calm h (glb_ok hX hg).1 (hX.g.free _ hm) (hr X T W hX) hp (bt_pl (hr X T W hX) hp pos)⟩
      else if h : x = ("min" : Str) then some ⟨eCall minV mr, fun X T W hX => blt_min hX.calm h (glb_ok hX hg).1 (hX.g.free _ hm) (hr X T W hX) hp (bt_pl (hr X T W hX) hp pos)⟩
      else if h : x = ("tuple" : Str) then some ⟨eCall tupleV mr, fun X T W hX => blt_tuple h (glb_ok hX hg).1 (hX.g.free _ hm) (hr X T W hX) hp (bt_pl (hr X T W hX) hp pos)⟩
      else if h : x = ("list" : Str) then some ⟨eCall listV mr, fun X T W hX => blt_list h (glb_ok hX hg).1 (hX.g.free _ hm) (hr X T W hX) hp (bt_pl (hr X T W hX) hp pos)⟩
      else none
    else none
def tyOf (y : Str) : Option Ty5 := if y = ("int" : Str) then some .tInt else if y = ("bool" : Str) then some .tBool else if y = ("str" : Str) then some .tStr else if y = ("tuple" : Str) then some .tTuple else if y = ("list" : Str) then some .tList else none
theorem tyOf_ok {y : Str} {t : Ty5} (h : tyOf y = some t) : bootBuiltins y = some (.type t.name) ∧ y ≠ ("__name__" : Str) := by
  unfold tyOf at h
  split at h
  · rename_i e; subst e; cases h; exact ⟨by decide +kernel, by decide⟩
  split at h
  · rename_i e; subst e; cases h; exact ⟨by decide +kernel, by decide⟩
  split at h
  · rename_i e; subst e; cases h; exact ⟨by decide +kernel, by decide⟩
  split at h
  · rename_i e; subst e; cases h; exact ⟨by decide +kernel, by decide⟩
  split at h
  · rename_i e; subst e; cases h; exact ⟨by decide +kernel, by decide⟩
  · cases h
theorem isi_ok (hX : XOk Γ c X T W) {x y : Str} {t : Ty5} {a : Expr} {ma : ES} {p p2 pos : Pos} (hx : x = ("isinstance" : Str)) (g1 : glb c x = true) (f1 : x ∈ Γ.free) (g2 : glb c y = true) (f2 : y ∈ Γ.free) (ht : tyOf y = some t) (ha : CE X T W a ma) (hp : plainArg a = true) :
    CE X T W (.Call (.Name x p) [a, .Name y p2] [] pos) (eIsTy t ma) := by
  subst hx
  exact ce_isTy (glb_ok hX g1).1 (hX.g.free _ f1) (by decide +kernel) (glb_ok hX g2).1 (hX.g.free _ f2) (tyOf_ok ht).1 ha (by decide) (by decide) (tyOf_ok ht).2 (glb_ok hX g2).2 (starEach_plain hp)
end
end Px

set_option Elab.async false
set_option linter.all false
set_option maxRecDepth 100000
set_option maxHeartbeats 4000000
namespace Px
open PySem PySem.Spec PyProof.Rows L2 LamX
section
variable {Γ : Gam} {c : Ctx} {X : Cx} {T : List (Addr × Str)} {W : WX}
abbrev noPar : Arguments := { posonlyargs := [], args := [], vararg := none, kwonlyargs := [], kw_defaults := [], kwarg := none, defaults := [] }
def plainPar : Arguments → Bool
  | ⟨[], [], none, [], [], none, []⟩ => true
  | _ => false
theorem plainPar_ok {a : Arguments} (h : plainPar a = true) : a = noPar := by
  unfold plainPar at h
  split at h
  · rfl
  · cases h
def lamC (c : Ctx) (k : Nat) (scope : Scope) : Ctx := { N := c.N, sc := scope, k := k, is := [], cell := false }
def lamG (Γ : Gam) : Gam := { Γ with lam := false }
theorem lam_ok {k : Nat} {params : Arguments} {body : Expr} {scope : Scope} {me : ES} (hX : XOk Γ c X T W) (hl : Γ.lam = true) (hp : plainPar params = true) (hs : lamSB c.sc scope = true) (hm : ∀ X T W, XOk (lamG Γ) (lamC c k scope) X T W → CE X T W body me) : LamF X T k params body scope me := by
  have L : LamS X.env.scope scope := by rw [hX.sc]; exact lamS_by hs
  have e := plainPar_ok hp
  subst e
  refine ⟨hX.lam hl, L, rfl, fun _ _ _ _ _ => rfl, fun A outer s H E f c' hr => hm _ _ _ ?_⟩
  exact ⟨⟨hX.g.ents, hX.g.free, hX.g.gcd, hX.g.exc, hX.g.fv⟩, hr, rfl, takesLam, hX.N, hX.nd, rfl, fun z => Bool.noConfusion z, fun z => Bool.noConfusion z⟩
/-- f(..), f a name -/
def compCallN (rE : ∀ Γ c e, CEo Γ c e) (x : Str) (p : Pos) (args : List Expr) (ks : List Keyword) (pos : Pos) : CEo Γ c (.Call (.Name x p) args ks pos) :=
  match hs : slotOf c x with
  | some i => match args, ks with
    | e :: es, [] => if hb : badN x = false then if hp : plainArg e = true then if hk : Γ.fvk ≤ c.k then match compA (rE Γ c) (e :: es) with
        | some ⟨mr, hr⟩ => some ⟨eCallV Γ.fv i mr, fun X T W hX => ce_callV (fun y n f hy => (hX.g.fv y n f hy).fnF hX.room hk) hX.tk (by rw [hX.N]; exact (slotOf_ok hs).1) (by rw [hX.sc]; exact (slotOf_ok hs).2) (hr X T W hX).ca (badN_ok hb).1 (badN_ok hb).2 (starEach_plain hp) (bt_pl (hr X T W hX) hp pos)⟩
        | none => none
        else none else none else none
    | _, _ => none
  | none => if hg : glb c x = true then match he : Γ.ents.lookup x with
    | some (.fn kf n f kws) => if hk : kf ≤ c.k then match args, ks with
      | [], [] => if hn : n = 0 then some ⟨eCall f aNil, fun X T W hX => by
            have F := (hX.g.ents x _ he).fnF hX.room hk
            subst hn
            exact ce_call0 F hX.tk (glb_ok hX hg).1 (glb_ok hX hg).2⟩ else none
      | e :: es, [] => if hp : plainArg e = true then if hn : (e :: es).length = n then match compA (rE Γ c) (e :: es) with
          | some ⟨mr, hr⟩ => some ⟨eCall f mr, fun X T W hX => ce_call (EFn.fnF (hX.g.ents x _ he) hX.room hk) hX.tk (glb_ok hX hg).1 hn (hr X T W hX).ca (glb_ok hX hg).2 (starEach_plain hp) (bt_pl (hr X T W hX) hp pos) (by rw [← hn]; exact (hr X T W hX).len)⟩
          | none => none
          else none else none
      | args, k :: ks => match hq : kws.find? (fun q => decide (q.n = args.length) && decide (some q.ks = kwNames (k :: ks))) with
        | some q => match args with
          | [] => match compK (rE Γ c) (k :: ks) with
            | some ⟨mk, hm⟩ => some ⟨eCallK f q.π aNil mk, fun X T W hX => by
                have hq1 := List.mem_of_find?_eq_some hq
                have hq2 := List.find?_some hq
                simp only [Bool.and_eq_true, decide_eq_true_eq] at hq2
                obtain ⟨a1, a2, a3, a4⟩ := kw_names (pos := pos) (env := X.env) hq2.2.symm
                exact ce_callK0 (EFn.fnF (hX.g.ents x _ he) hX.room hk) hX.tk hq1 hq2.1 (glb_ok hX hg).1 (hm X T W hX).ck (glb_ok hX hg).2 a1 a2 (by rw [a3]; rfl) (by rw [a4]; exact (hm X T W hX).len)⟩
            | none => none
          | e :: es => if hp : plainArg e = true then match compA (rE Γ c) (e :: es), compK (rE Γ c) (k :: ks) with
            | some ⟨mr, hr⟩, some ⟨mk, hm⟩ => some ⟨eCallK f q.π mr mk, fun X T W hX => by
                have hq1 := List.mem_of_find?_eq_some hq
                have hq2 := List.find?_some hq
                simp only [Bool.and_eq_true, decide_eq_true_eq] at hq2
                obtain ⟨a1, a2, a3, a4⟩ := kw_names (pos := pos) (env := X.env) hq2.2.symm
                exact ce_callK (EFn.fnF (hX.g.ents x _ he) hX.room hk) hX.tk hq1 (glb_ok hX hg).1 (hr X T W hX).ca (hm X T W hX).ck (glb_ok hX hg).2 (starEach_plain hp) a1 a2 (by rw [a3, (hr X T W hX).pl]; rfl) (by rw [hq2.1]; exact (hr X T W hX).len) (by rw [a4]; exact (hm X T W hX).len)⟩
            | _, _ => none
            else none
        | none => none
      else none
    | some (.tells kx n m) => match args, ks with
      | .Lambda params body scope lp :: es, [] => if hl : (Γ.lam && plainPar params && lamSB c.sc scope && decide (kx + 1 ≤ c.k) && decide (es.length + 1 = n)) = true then
          match rE (lamG Γ) (lamC c (c.k - (kx + 1)) scope) body, compA (rE Γ c) es with
          | some ⟨me, hm⟩, some ⟨mr, hr⟩ => some ⟨eTells m me mr, fun X T W hX => by
              simp only [Bool.and_eq_true, decide_eq_true_eq] at hl
              obtain ⟨⟨⟨⟨l1, l2⟩, l3⟩, l4⟩, l5⟩ := hl
              obtain ⟨g, fd, ps, m1, m2, m3, m4, m5⟩ := hX.g.ents x _ he
              exact ce_tells m3 (glb_ok hX hg).1 m1 m2 m5 (by rw [show c.k - (kx + 1) + 1 + kx = c.k by omega]; exact hX.room) (lam_ok hX l1 l2 l3 hm) hX.tk (hr X T W hX).ca (glb_ok hX hg).2 ((hr X T W hX).pl pos) (fun ps' mh xs mh' e => by rw [m4, ← l5, (hr X T W hX).len _ _ _ _ e])⟩
          | _, _ => none
          else none
      | _, _ => none
    | some .heard => match args, ks with
      | [.Lambda params body scope lp], [] => if hl : (Γ.lam && plainPar params && lamSB c.sc scope && decide (4 ≤ c.k)) = true then
          match rE (lamG Γ) (lamC c (c.k - 4) scope) body with
          | some ⟨me, hm⟩ => some ⟨eHear Γ.cs me, fun X T W hX => by
              simp only [Bool.and_eq_true, decide_eq_true_eq] at hl
              obtain ⟨⟨⟨l1, l2⟩, l3⟩, l4⟩ := hl
              obtain ⟨g, m1, m2, m3⟩ := hX.g.ents x _ he
              exact ce_heard m3 (glb_ok hX hg).1 m1 m2 (by rw [show c.k - 4 + 4 = c.k by omega]; exact hX.room) (lam_ok hX l1 l2 l3 hm) (glb_ok hX hg).2⟩
          | none => none
          else none
      | _, _ => none
    | none => if hf : x ∈ Γ.free then
        (match args, ks with
        | [a, .Name y p2], [] => if hi : x = ("isinstance" : Str) then if hh : (glb c y && decide (y ∈ Γ.free) && plainArg a) = true then match ht : tyOf y, rE Γ c a with
            | some t, some ⟨ma, ha⟩ => some ⟨eIsTy t ma, fun X T W hX => by
                simp only [Bool.and_eq_true, decide_eq_true_eq] at hh
                exact isi_ok hX hi hg hf hh.1.1 hh.1.2 ht (ha X T W hX) hh.2⟩
            | _, _ => none
            else none
          else compBlt x p a [.Name y p2] pos hg hf (compA (rE Γ c) [a, .Name y p2])
        | e :: es, [] => compBlt x p e es pos hg hf (compA (rE Γ c) (e :: es))
        | _, _ => none)
      else if hd : x ∈ Γ.gcd then match args, ks with
        | e :: es, [] => if hp : plainArg e = true then match compA (rE Γ c) (e :: es) with
          | some ⟨mr, hr⟩ => some ⟨eCall gcdV mr, fun X T W hX => ce_callBf gcdV_ne cr_gcdV (glb_ok hX hg).1 (hX.g.gcd _ hd) (hr X T W hX).ca (glb_ok hX hg).2 (starEach_plain hp) (bt_pl (hr X T W hX) hp pos)⟩
          | none => none
          else none
        | _, _ => none
      else none
    else none
end
end Px

set_option Elab.async false
set_option linter.all false
set_option maxRecDepth 100000
set_option maxHeartbeats 4000000
namespace Px
open PySem PySem.Spec PyProof.Rows L2 LamX
section
variable {Γ : Gam} {c : Ctx} {X : Cx} {T : List (Addr × Str)} {W : WX}
def plainBase : Expr → Bool
  | .Name _ _ => true
  | .Constant _ _ _ => true
  | .Subscript _ _ _ => true
  | _ => false
theorem plainBase_ok {o : Expr} {n : Str} {env : Env} (h : plainBase o = true) : attributeBase o n env (eval o env) = eval o env := by
  cases o <;> first | rfl | cases h
theorem few1 {a : Expr} {cpos : Pos} {env : Env} (h : plainArg a = true) : ((backTo cpos (starEach (a :: []) env)).all (fun x => !x.1) && (backToKw cpos (keywordEach [] env)).all (fun x => x.1.isSome) && decide ((a :: []).length + ([] : List Keyword).length + (if ([] : List Keyword).isEmpty then 0 else 1) < 30)) = true := by
  rw [starEach_plain h]; rfl
theorem m_append {o a : Expr} {mo ma : ES} {m : Str} {ap cp : Pos} (hX : XOk Γ c X T W) (e : m = ("append" : Str)) (ho : CE X T W o mo) (ha : CE X T W a ma) (hb : plainBase o = true) (hp : plainArg a = true) (hl : (ap.endLine == cp.line) = true) : CE X T W (.Call (.Attribute o m ap) [a] [] cp) (eMeth1 appendV mo ma) := by
  subst e; exact ce_append ho ha (plainBase_ok hb) (starEach_plain hp) (few1 hp) hl
theorem m_extend {o a : Expr} {mo ma : ES} {m : Str} {ap cp : Pos} (hX : XOk Γ c X T W) (e : m = ("extend" : Str)) (ho : CE X T W o mo) (ha : CE X T W a ma) (hb : plainBase o = true) (hp : plainArg a = true) (hl : (ap.endLine == cp.line) = true) : CE X T W (.Call (.Attribute o m ap) [a] [] cp) (eMeth1 extendV mo ma) := by
  subst e; exact ce_extend ho ha (plainBase_ok hb) (starEach_plain hp) (few1 hp) hl
theorem m_join {o a : Expr} {mo ma : ES} {m : Str} {ap cp : Pos} (hX : XOk Γ c X T W) (e : m = ("join" : Str)) (ho : CE X T W o mo) (ha : CE X T W a ma) (hb : plainBase o = true) (hp : plainArg a = true) (hl : (ap.endLine == cp.line) = true) : CE X T W (.Call (.Attribute o m ap) [a] [] cp) (eJoin mo ma) := by
  subst e; exact ce_join ho ha (plainBase_ok hb) (starEach_plain hp) (few1 hp) hl
/-- o.m(a) -/
def compMeth (rE : ∀ Γ c e, CEo Γ c e) (o : Expr) (m : Str) (ap : Pos) (args : List Expr) (ks : List Keyword) (cp : Pos) : CEo Γ c (.Call (.Attribute o m ap) args ks cp) := match args, ks with
  | [a], [] => if hh : (plainBase o && plainArg a && (ap.endLine == cp.line)) = true then match rE Γ c o, rE Γ c a with
    | some ⟨mo, ho⟩, some ⟨ma, ha⟩ =>
      if h : m = ("append" : Str) then some ⟨eMeth1 appendV mo ma, fun X T W hX => by
        simp only [Bool.and_eq_true] at hh
        exact m_append hX h (ho X T W hX) (ha X T W hX) hh.1.1 hh.1.2 hh.2⟩
      else if h : m = ("extend" : Str) then some ⟨eMeth1 extendV mo ma, fun X T W hX => by
        simp only [Bool.and_eq_true] at hh
        exact m_extend hX h (ho X T W hX) (ha X T W hX) hh.1.1 hh.1.2 hh.2⟩
      else if h : m = ("join" : Str) then some ⟨eJoin mo ma, fun X T W hX => by
        simp only [Bool.and_eq_true] at hh
        exact m_join hX h (ho X T W hX) (ha X T W hX) hh.1.1 hh.1.2 hh.2⟩
      else none
    | _, _ => none
    else none
  | _, _ => none
/-! what is walked -/
abbrev CIo (Γ : Gam) (c : Ctx) (tg e : Expr) : Type := Option { m : IS // ∀ X T W, XOk Γ c X T W → CI X T W tg e m }
theorem i_range1 {x : Str} {a : Expr} {ma : ES} {tg : Expr} {p pos : Pos} (hX : XOk Γ c X T W) (e : x = ("range" : Str)) (hg : glb c x = true) (hf : x ∈ Γ.free) (ha : CE X T W a ma) (hp : plainArg a = true) : CI X T W tg (.Call (.Name x p) [a] [] pos) (iRng1P ma) := by
  subst e; exact ci_range1 (glb_ok hX hg).1 (hX.g.free _ hf) ha (starEach_plain hp)
theorem i_range2 {x : Str} {a b : Expr} {ma mb : ES} {tg : Expr} {p pos : Pos} (hX : XOk Γ c X T W) (e : x = ("range" : Str)) (hg : glb c x = true) (hf : x ∈ Γ.free) (ha : CE X T W a ma) (hb : CE X T W b mb) (hp : plainArg a = true) (hq : plainArg b = true) : CI X T W tg (.Call (.Name x p) [a, b] [] pos) (iRng2P ma mb) := by
  subst e; exact ci_range2 (glb_ok hX hg).1 (hX.g.free _ hf) ha hb (by rw [starEach_plain hp, starEach_plain hq]; rfl) (starEach_plain hq)
def isRange : Expr → Bool
  | .Call (.Name x _) _ _ _ => x == ("range" : Str)
  | _ => false
def compI (rE : ∀ Γ c e, CEo Γ c e) (tg e : Expr) : CIo Γ c tg e := if isRange e = true then (match e with
    | .Call (.Name x p) [a] [] pos => if hh : (decide (x = ("range" : Str)) && glb c x && decide (x ∈ Γ.free) && plainArg a) = true then match rE Γ c a with
      | some ⟨ma, ha⟩ => some ⟨iRng1P ma, fun X T W hX => by
          simp only [Bool.and_eq_true, decide_eq_true_eq] at hh
          exact i_range1 hX hh.1.1.1 hh.1.1.2 hh.1.2 (ha X T W hX) hh.2⟩
      | none => none
      else none
    | .Call (.Name x p) [a, b] [] pos => if hh : (decide (x = ("range" : Str)) && glb c x && decide (x ∈ Γ.free) && plainArg a && plainArg b) = true then match rE Γ c a, rE Γ c b with
      | some ⟨ma, ha⟩, some ⟨mb, hb⟩ => some ⟨iRng2P ma mb, fun X T W hX => by
          simp only [Bool.and_eq_true, decide_eq_true_eq] at hh
          exact i_range2 hX hh.1.1.1.1 hh.1.1.1.2 hh.1.1.2 (ha X T W hX) (hb X T W hX) hh.1.2 hh.2⟩
      | _, _ => none
      else none
    | _ => none)
  else match rE Γ c e with
    | some ⟨m, h⟩ => some ⟨iSeqP m, fun X T W hX => ci_seq (h X T W hX)⟩
    | none => none
/-! targets -/
abbrev CGo (Γ : Gam) (c : Ctx) (e : Expr) : Type := Option { g : GS // ∀ X T W, XOk Γ c X T W → CG X T W c.is e g }
structure GsOk (X : Cx) (T : List (Addr × Str)) (W : WX) (is : List Nat) (es : List Expr) (g : GsS) : Prop where
  cg : CGs X T W is es g
  len : (assignEach es X.env).length = es.length
  st : (assignEach es X.env).findIdx? (·.1) = none
def compGs (rG : ∀ e, CGo Γ c e) : (es : List Expr) → Option { g : GsS // ∀ X T W, XOk Γ c X T W → GsOk X T W c.is es g }
  | [] => some ⟨gsNil, fun X T W hX => ⟨cgs_nil, rfl, rfl⟩⟩
  | e :: es => if h : plainArg e = true then match rG e, compGs rG es with
    | some ⟨g, hg⟩, some ⟨gs, hgs⟩ => some ⟨gsCons g gs, fun X T W hX => by
        have z := hgs X T W hX
        have a := assignEach_plain (es := es) (env := X.env) h
        refine ⟨cgs_cons (hg X T W hX) z.cg (by rw [a]; rfl), by rw [a, List.length_cons, List.length_cons, z.len], ?_⟩
        rw [a, List.findIdx?_cons]
        simp only [Bool.false_eq_true, if_false, z.st, Option.map_none]⟩
    | _, _ => none
    else none
def okLoc (c : Ctx) (x : Str) : Bool := match c.sc.names.lookup x with
  | some .local => true
  | some .cell => c.cell
  | _ => false
theorem okLoc_ok (hX : XOk Γ c X T W) {x : Str} (h : okLoc c x = true) : Loc X.env.scope x ∧ (X.fn x = true ∨ X.env.scope.names.lookup x = some .local) := by
  unfold okLoc at h
  rw [hX.sc]
  split at h
  · rename_i e; exact ⟨.inl e, .inr e⟩
  · rename_i e; exact ⟨.inr e, .inl (hX.cell h x)⟩
  · cases h
theorem asgSub_ok {o i : Expr} {pos : Pos} {env : Env} (h : plainIx i = true) : ∀ v, assign (.Subscript o i pos) env v = (do
    let ov ← holding [v] (eval o env)
    let iv ← holding [v, ov] (eval i env)
    standAt pos
    holding [v, ov, iv] (setItem ov iv v)
    release [v, ov, iv] []) := by
  intro v
  cases i <;> first | rfl | cases h
def stepG (rE : ∀ Γ c e, CEo Γ c e) (rG : ∀ Γ c e, CGo Γ c e) (Γ : Gam) (c : Ctx) (e : Expr) : CGo Γ c e := match e with
  | .Name x pos => match hi : ixOf x c.N with
    | some i => if hh : (okLoc c x && decide (i ∈ c.is)) = true then some ⟨gNm i, fun X T W hX => by
        simp only [Bool.and_eq_true, decide_eq_true_eq] at hh
        exact cg_name hX.nd (by rw [hX.N]; exact ixOf_get hi) (okLoc_ok hX hh.1).1 (okLoc_ok hX hh.1).2 hh.2⟩ else none
    | none => none
  | .Tuple es k pos => match compGs (rG Γ c) es with
    | some ⟨g, hg⟩ => some ⟨gTupS es.length g, fun X T W hX => cg_tup hX.calm (hg X T W hX).cg (hg X T W hX).len (hg X T W hX).st⟩
    | none => none
  | .Subscript o i pos => if hh : plainIx i = true then match rE Γ c o, rE Γ c i with
    | some ⟨mo, ho⟩, some ⟨mi, hi⟩ => some ⟨gSubS mo mi, fun X T W hX => cg_sub (ho X T W hX) (hi X T W hX) (asgSub_ok hh)⟩
    | _, _ => none
    else none
  | _ => none
/-! comprehensions -/
def ownOf (N : List Str) (scope : Scope) : List (Str × Nat) := scope.names.filterMap fun q => match q.2 with
  | .local => (ixOf q.1 N).map fun i => (q.1, i)
  | .cell => (ixOf q.1 N).map fun i => (q.1, i)
  | _ => none
def blkX (c : Ctx) (scope : Scope) : Ctx := { N := c.N, sc := relS scope c.sc, k := c.k, is := (ownOf c.N scope).map (·.2), cell := false }
theorem blk_ok (hX : XOk Γ c X T W) {scope : Scope} (s : Shared) (H : Hp) (C : Addr) (cl : List (Str × Addr)) (fp : List Addr) : XOk Γ (blkX c scope) (X.blk s H scope (compEnvC scope cl C X.env) fp) T noW :=
  ⟨hX.g, hX.room, hX.calm, fun u s' x => by
    obtain ⟨_, _, _, _, _, _, _, _, _, _, _, _, _, _, _, _, z⟩ := x
    exact z.elim, hX.N, hX.nd, by show relS scope X.env.scope = relS scope c.sc; rw [hX.sc], fun h => hX.lam h, fun z => Bool.noConfusion z⟩
def compIfs (rT : ∀ Γ c e, CTo Γ c e) : (ifs : List Expr) → Option { m : TSm // ∀ X T W, XOk Γ c X T W → PTs X ifs (rdT (gl X T) W m) }
  | [] => some ⟨tTrueP, fun X T W hX => cts_nil⟩
  | [e] => match rT Γ c e with
    | some ⟨m, h⟩ => some ⟨m, fun X T W hX => cts_one (h X T W hX)⟩
    | none => none
  | _ => none
def noSet : Expr → Bool
  | .Set _ _ _ => false
  | _ => true
theorem noSet_ok {e : Expr} {env : Env} (h : noSet e = true) : ∀ x, foldedSetIterable e env x = pure x := by
  intro x
  cases e <;> first | rfl | cases h
def compLc (rE : ∀ Γ c e, CEo Γ c e) (rT : ∀ Γ c e, CTo Γ c e) (rG : ∀ Γ c e, CGo Γ c e) (elt : Expr) (gs : List Comprehension) (scope : Scope) (pos : Pos) : CEo Γ c (.ListComp elt gs scope pos) := match gs with
  | [⟨tg, iter, ifs, 0⟩] => if hh : (blkC c.N c.sc scope (ownOf c.N scope) && noSet iter) = true then match compI (Γ := Γ) (c := c) rE tg iter, rG Γ (blkX c scope) tg, compIfs (Γ := Γ) (c := blkX c scope) rT ifs, rE Γ (blkX c scope) elt with
    | some ⟨mi, hi⟩, some ⟨g, hg⟩, some ⟨mt, ht⟩, some ⟨me, he⟩ => some ⟨eLc mi g mt me ((ownOf c.N scope).map (·.2)), fun X T W hX => by
        simp only [Bool.and_eq_true] at hh
        exact ce_lc hX.calm hX.nd (hi X T W hX) (by rw [hX.N, hX.sc]; exact blkOk_by hh.1) (fun s H C cl fp => hg _ T noW (blk_ok hX s H C cl fp)) (fun s H C cl fp => ht _ T noW (blk_ok hX s H C cl fp)) (fun s H C cl fp => he _ T noW (blk_ok hX s H C cl fp)) (noSet_ok hh.2)⟩
    | _, _, _, _ => none
    else none
  | _ => none
def stepE (rE : ∀ Γ c e, CEo Γ c e) (rT : ∀ Γ c e, CTo Γ c e) (rG : ∀ Γ c e, CGo Γ c e) (Γ : Gam) (c : Ctx) (e : Expr) : CEo Γ c e := match e with
  | .Name x pos => compName Γ c x pos
  | .Constant k j pos => compConst Γ c k j pos
  | .UnaryOp op a pos => (match op with
    | .Not => match rE Γ c a with
      | some ⟨m, h⟩ => some ⟨eNot m, fun X T W hX => ce_not (h X T W hX)⟩
      | none => none
    | .USub => match rE Γ c a with
      | some ⟨m, h⟩ => some ⟨eNeg m, fun X T W hX => ce_neg (h X T W hX)⟩
      | none => none
    | _ => none)
  | .BinOp a op b pos => match rE Γ c a, rE Γ c b with
    | some ⟨m, h⟩, some ⟨m2, h2⟩ => some ⟨eBin op m m2, fun X T W hX => ce_bin (h X T W hX) (h2 X T W hX)⟩
    | _, _ => none
  | .BoolOp op es pos => compBo (rE Γ c) pos op es
  | .Compare a [op] [b] pos => if hm : behindInMarks op b = false then match rE Γ c a, rE Γ c b with
    | some ⟨m, h⟩, some ⟨m2, h2⟩ => some ⟨eCmp op m m2, fun X T W hX => ce_cmp hX.units (h X T W hX) (h2 X T W hX) hm⟩
    | _, _ => none
    else none
  | .IfExp t a b pos => match rT Γ c t, rE Γ c a, rE Γ c b with
    | some ⟨mt, ht⟩, some ⟨m, h⟩, some ⟨m2, h2⟩ => some ⟨eIf mt m m2, fun X T W hX => ce_if (ht X T W hX) (h X T W hX) (h2 X T W hX)⟩
    | _, _, _ => none
  | .Tuple es k pos => match compA (rE Γ c) es with
    | some ⟨m, h⟩ => some ⟨eTup m, fun X T W hX => ce_tup (h X T W hX).ca⟩
    | none => none
  | .List es pos => match compA (rE Γ c) es with
    | some ⟨m, h⟩ => some ⟨eLst m, fun X T W hX => ce_lst (h X T W hX).ca⟩
    | none => none
  | .Subscript a b pos => compSub (rE Γ c) a b pos
  | .Call (.Name x p) args ks pos => compCallN rE x p args ks pos
  | .Call (.Attribute o m ap) args ks pos => compMeth rE o m ap args ks pos
  | .ListComp elt gs scope pos => compLc rE rT rG elt gs scope pos
  | _ => none
end
end Px

set_option Elab.async false
set_option linter.all false
set_option maxRecDepth 100000
set_option maxHeartbeats 4000000
namespace Px
open PySem PySem.Spec PyProof.Rows L2 LamX
section
variable {Γ : Gam} {c : Ctx} {X : Cx} {T : List (Addr × Str)} {W : WX}
/-! ## statements -/
abbrev Own (X : Cx) : Prop := PassesOwn (model X.prog X.w) X.A X.env X.xe
abbrev CSo (Γ : Gam) (c : Ctx) (st : Stmt) : Type := Option { m : SS // ∀ X T W, XOk Γ c X T W → Own X → CSt X T W st m }
abbrev CSso (Γ : Gam) (c : Ctx) (sts : List Stmt) : Type := Option { m : SS // ∀ X T W, XOk Γ c X T W → Own X → CSs X T W sts m }
def compSs (rS : ∀ st, CSo Γ c st) : (sts : List Stmt) → CSso Γ c sts
  | [] => some ⟨sNext, fun X T W hX hp => css_nil⟩
  | st :: sts => match rS st, compSs rS sts with
    | some ⟨m, h⟩, some ⟨m2, h2⟩ => some ⟨sSeq m m2, fun X T W hX hp => css_cons (h X T W hX hp) (h2 X T W hX hp)⟩
    | _, _ => none
def notComp : Expr → Bool
  | .ListComp _ _ _ _ => false
  | .SetComp _ _ _ _ => false
  | .DictComp _ _ _ _ _ => false
  | _ => true
theorem notComp_ok {e : Expr} {tg : Option Expr} {l : Nat} {env : Env} (h : notComp e = true) : swapsWith e tg l env = pure false := by
  cases e <;> first | rfl | cases h
theorem sole_ok {e : Expr} {tg : Expr} {l : Nat} {env : Env} (h : notComp e = true) : swapsWithSole [tg] e l env = pure false := notComp_ok (tg := some tg) h
def isTup : Expr → Bool
  | .Tuple _ _ _ => true
  | .List _ _ => true
  | _ => false
theorem sw_none1 {tg e : Expr} {env : Env} (h : isTup tg = false ∨ isTup e = false) : swappedStores [tg] e env = pure none := by
  cases tg <;> cases e <;> first | rfl | (rcases h with h | h <;> cases h)
/-- two names on one line that the stores may exchange -/
def parB (c : Ctx) (x y : Str) (px py : Pos) (a b : Expr) : Bool :=
  decide (c.sc.kind = .function) && decide (c.sc.names.lookup x = some .local) && decide (c.sc.names.lookup y = some .local) && (py.line == px.line) && !(x == y) && plainArg a && plainArg b && !(foldedForSure 8 a && foldedForSure 8 b) && !(constantsAlone 8 a && constantsAlone 8 b)
theorem plain_any {a : Expr} (h : plainArg a = true) : (match a with | .Starred _ _ => true | _ => false) = false := by
  cases a <;> first | rfl | cases h
theorem par_ok {x y : Str} {px py pt pt2 : Pos} {a b : Expr} {kt k2 : Nat} {env : Env} (hsc : env.scope = c.sc) (h : parB c x y px py a b = true) : swappedStores [.Tuple [.Name x px, .Name y py] kt pt] (.Tuple [a, b] k2 pt2) env = pure (some [x, y]) := by
  unfold parB at h
  simp only [Bool.and_eq_true, decide_eq_true_eq, Bool.not_eq_true', beq_iff_eq] at h
  obtain ⟨⟨⟨⟨⟨⟨⟨⟨h0, h1⟩, h2⟩, h3⟩, h4⟩, h5⟩, h6⟩, h7⟩, h8⟩ := h
  have hk : env.scope.kind = .function := by rw [hsc]; exact h0
  have e1 : env.kindOf x = some .local := by show env.scope.names.lookup x = _; rw [hsc]; exact h1
  have e2 : env.kindOf y = some .local := by show env.scope.names.lookup y = _; rw [hsc]; exact h2
  have e3 : env.blockKind = .function := by
    unfold Env.blockKind
    rw [hk]
    rfl
  have d : ([x, y] : List Str).eraseDups.length = 2 := by
    have h4' : (y == x) = false := by rw [Bool.eq_false_iff] at h4 ⊢; intro z; exact h4 (by rw [beq_iff_eq] at z ⊢; exact z.symm)
    simp [List.eraseDups_cons, h4']
  have r1 : ((some NameKind.local == some NameKind.local) && px.line == px.line) = true := by simp
  have r2 : ((some NameKind.local == some NameKind.local) && py.line == px.line) = true := by rw [h3]; simp
  unfold swappedStores
  simp only [List.length_cons, List.length_nil, e3]
  simp [e1, e2, h3, d, Expr.pos, List.filterMap]
  rw [if_neg (by
    rintro (z | z)
    · cases a <;> first | (cases h5; done) | (cases z; done)
    · cases b <;> first | (cases h6; done) | (cases z; done))]
  rw [if_neg (by rintro ⟨z1, z2⟩; rw [z1, z2] at h7; cases h7), if_neg (by rintro ⟨z1, z2⟩; rw [z1, z2] at h8; cases h8)]
/-- two names, one of them kept in a cell: no exchange -/
def cellB (c : Ctx) (x y : Str) (a b : Expr) : Bool := !(decide (c.sc.names.lookup x = some .local) && decide (c.sc.names.lookup y = some .local))
theorem cell_ok {x y : Str} {px py pt pt2 : Pos} {a b : Expr} {kt k2 : Nat} {env : Env} (hsc : env.scope = c.sc) (h : cellB c x y a b = true) : swappedStores [.Tuple [.Name x px, .Name y py] kt pt] (.Tuple [a, b] k2 pt2) env = pure none := by
  unfold cellB at h
  simp only [Bool.not_eq_true', Bool.and_eq_false_iff, decide_eq_false_iff_not] at h
  have e : ∀ z : Str, env.kindOf z = c.sc.names.lookup z := fun z => by show env.scope.names.lookup z = _; rw [hsc]
  unfold swappedStores
  simp only [List.length_cons, List.length_nil]
  by_cases hb : env.blockKind = .function
  · simp only [hb]
    rcases h with h | h
    · simp [e, h, Expr.pos, List.filterMap]
      intro _ _ z
      exact absurd z (by split <;> simp)
    · simp [e, h, Expr.pos, List.filterMap]
      intro _ _ z
      exact absurd z (by split <;> simp)
  · simp [hb]
theorem asg1_ok {tg : Expr} {env : Env} (h : plainArg tg = true) : (assignEach [tg] env).map (·.2) = [assign tg env] := by
  rw [assignEach_plain h]; rfl
def twoNames : Expr → Expr → Option (Str × Str × Pos × Pos × Expr × Expr)
  | .Tuple [.Name x px, .Name y py] _ _, .Tuple [a, b] _ _ => some (x, y, px, py, a, b)
  | _, _ => none
/-- the stores stand in no wrong order -/
theorem twoNames_ok {tg e : Expr} {x y : Str} {px py : Pos} {a b : Expr} (h : twoNames tg e = some (x, y, px, py, a, b)) : ∃ kt pt k2 pt2, tg = .Tuple [.Name x px, .Name y py] kt pt ∧ e = .Tuple [a, b] k2 pt2 := by
  unfold twoNames at h
  split at h
  · cases h; exact ⟨_, _, _, _, rfl, rfl⟩
  · cases h
def asgB (c : Ctx) (tg e : Expr) : Bool := (!isTup tg || !isTup e) || (match twoNames tg e with
  | some (x, y, _, _, a, b) => cellB c x y a b
  | none => false)
theorem asgB_ok {tg e : Expr} {env : Env} (hsc : env.scope = c.sc) (h : asgB c tg e = true) : swappedStores [tg] e env = pure none := by
  unfold asgB at h
  rcases Bool.or_eq_true_iff.mp h with h | h
  · rcases Bool.or_eq_true_iff.mp h with h | h
    · exact sw_none1 (.inl (by simpa using h))
    · exact sw_none1 (.inr (by simpa using h))
  · split at h
    · rename_i hh
      obtain ⟨_, _, _, _, rfl, rfl⟩ := twoNames_ok hh
      exact cell_ok hsc h
    · cases h
noncomputable def stepS (rE : ∀ Γ c e, CEo Γ c e) (rT : ∀ Γ c e, CTo Γ c e) (rG : ∀ Γ c e, CGo Γ c e) (rS : ∀ Γ c st, CSo Γ c st) (Γ : Gam) (c : Ctx) (st : Stmt) : CSo Γ c st := match st with
  | .Pass pos => some ⟨sNext, fun X T W hX hp => cs_pass⟩
  | .Break pos => some ⟨sBreak, fun X T W hX hp => cs_break⟩
  | .Continue pos => some ⟨sCont, fun X T W hX hp => cs_continue⟩
  | .Expr e pos => if hh : notComp e = true then match rE Γ c e with
    | some ⟨m, h⟩ => some ⟨sExpr m, fun X T W hX hp => cs_expr (h X T W hX) (notComp_ok hh)⟩
    | none => none
    else none
  | .Return none pos => some ⟨sRetN, fun X T W hX hp => cs_retN⟩
  | .Return (some e) pos => match rE Γ c e with
    | some ⟨m, h⟩ => some ⟨sRet m, fun X T W hX hp => cs_ret (h X T W hX)⟩
    | none => none
  | .If t b1 b2 pos => match rT Γ c t, compSs (rS Γ c) b1, compSs (rS Γ c) b2 with
    | some ⟨mt, ht⟩, some ⟨m1, h1⟩, some ⟨m2, h2⟩ => some ⟨sIf mt m1 m2, fun X T W hX hp => cs_if (ht X T W hX) (h1 X T W hX hp) (h2 X T W hX hp)⟩
    | _, _, _ => none
  | .While t b [] pos => match rT Γ c t, compSs (rS Γ c) b with
    | some ⟨mt, ht⟩, some ⟨m, h⟩ => some ⟨sWhile mt m, fun X T W hX hp => cs_while hp (ht X T W hX) (h X T W hX hp)⟩
    | _, _ => none
  | .For tg iter b [] pos => if hh : noSet iter = true then match compI (Γ := Γ) (c := c) rE tg iter, rG Γ c tg, compSs (rS Γ c) b with
    | some ⟨mi, hi⟩, some ⟨g, hg⟩, some ⟨m, h⟩ => some ⟨sFor mi g m, fun X T W hX hp => cs_for hp hX.calm (hi X T W hX) (hg X T W hX) (h X T W hX hp) (noSet_ok hh)⟩
    | _, _, _ => none
    else none
  | .Raise (some (.Call (.Name x p) [e] [] pos)) none pos' => if hh : (decide (x ∈ Γ.exc) && glb c x && plainArg e && decide (Γ.kR + 1 ≤ c.k)) = true then match rE Γ c e with
    | some ⟨m, h⟩ => some ⟨sRaise x m, fun X T W hX hp => by
        simp only [Bool.and_eq_true, decide_eq_true_eq] at hh
        exact cs_raise (hX.g.exc x hh.1.1.1) (hX.room.mono hh.2) hX.calm hX.tk (glb_ok hX hh.1.1.2).1 (h X T W hX) (glb_ok hX hh.1.1.2).2 (starEach_plain hh.1.2)⟩
    | none => none
    else none
  | .Assign [.Tuple [.Name x px, .Name y py] kt pt] (.Tuple [a, b] k2 pt2) pos => if hb : parB c x y px py a b = true then
      match hi : ixOf x c.N, hj : ixOf y c.N, compA (rE Γ c) [a, b] with
      | some i, some j, some ⟨mr, hr⟩ => if hij : i ≠ j then some ⟨sPar i j mr, fun X T W hX hp => by
          have h := hb
          unfold parB at h
          simp only [Bool.and_eq_true, decide_eq_true_eq] at h
          obtain ⟨⟨⟨⟨⟨⟨⟨⟨h0, h1⟩, h2⟩, h3⟩, h4⟩, h5⟩, h6⟩, h7⟩, h8⟩ := h
          exact cs_par hX.calm hX.nd (by rw [hX.N]; exact ixOf_get hi) (by rw [hX.N]; exact ixOf_get hj) hij (by rw [hX.sc]; exact h1) (by rw [hX.sc]; exact h2) (hr X T W hX).ca (par_ok hX.sc hb) (sole_ok rfl)⟩ else none
      | _, _, _ => none
    else if hh : asgB c (.Tuple [.Name x px, .Name y py] kt pt) (.Tuple [a, b] k2 pt2) = true then match rE Γ c (.Tuple [a, b] k2 pt2), rG Γ c (.Tuple [.Name x px, .Name y py] kt pt) with
      | some ⟨m, h⟩, some ⟨g, hg⟩ => some ⟨sAsg m g, fun X T W hX hp => cs_asg (h X T W hX) (hg X T W hX) (sole_ok rfl) (asgB_ok hX.sc hh) (asg1_ok rfl)⟩
      | _, _ => none
    else none
  | .Assign [tg] e pos => if hh : (asgB c tg e && notComp e && plainArg tg) = true then match rE Γ c e, rG Γ c tg with
    | some ⟨m, h⟩, some ⟨g, hg⟩ => some ⟨sAsg m g, fun X T W hX hp => by
        simp only [Bool.and_eq_true] at hh
        exact cs_asg (h X T W hX) (hg X T W hX) (sole_ok hh.1.2) (asgB_ok hX.sc hh.1.1) (asg1_ok hh.2)⟩
    | _, _ => none
    else none
  | _ => none
structure Rc where
  E : ∀ Γ c e, CEo Γ c e
  Te : ∀ Γ c e, CTo Γ c e
  G : ∀ Γ c e, CGo Γ c e
  S : ∀ Γ c st, CSo Γ c st
noncomputable def comp : Nat → Rc
  | 0 => ⟨fun _ _ _ => none, fun _ _ _ => none, fun _ _ _ => none, fun _ _ _ => none⟩
  | n + 1 => ⟨stepE (comp n).E (comp n).Te (comp n).G, fun Γ c => compT ((comp n).E Γ c) ((comp n).Te Γ c), stepG (comp n).E (comp n).G, stepS (comp n).E (comp n).Te (comp n).G (comp n).S⟩
noncomputable def compB (n : Nat) (Γ : Gam) (c : Ctx) (b : List Stmt) : CSso Γ c b := compSs ((comp n).S Γ c) b
end
/-! ## a def by its text -/
/-- where the lambdas of the def at f are kept -/
def LamD (K : PySem.W.Frag) (mg : Str → Option Value) (base : Heap) (T : List (Addr × Str)) (f : Addr) (qual : Str) : Prop := ∀ (oc : Value) (od : Option Addr) (fd : FuncData) (osl : Array (Option Value)), K.lookup f = some ⟨oc, od, .func fd, osl⟩ →
  ∃ c Pt, fd.code = .ref c ∧ TabB base mg c Pt ∧ (Pt, (qual ++ ".<locals>.") ++ "<lambda>") ∈ T ∧ ∀ p ∈ T, p.1 = Pt → p.2 = (qual ++ ".<locals>.") ++ "<lambda>"
theorem fn_comp {P : Program} {w : World} {K : PySem.W.Frag} {mg : Str → Option Value} {base : Heap} {T : List (Addr × Str)} {Γ : Gam} {x qual : Str} {params : Arguments} {body : List Stmt} {scope : Scope} {dvs : List V} {kws : List (Str × V)} {f : Addr} {fd : FuncData} {N ps : List Str} {k fuel : Nat} {m : SS}
    (F : FunD K x qual params body scope dvs kws f fd) (S : FnScope N ps scope) (G : GOk P w K mg T base Γ) (hl : Γ.lam = true → LamD K mg base T f qual)
    (hm : (compB fuel Γ ⟨N, scope, k, List.range N.length, true⟩ body).map (·.1) = some m) :
    FnOk P w K mg base (L2N.CX P w) (k + 1) f fd ps (spF ⟨K, mg, T⟩ ps.length (runB (N.length - ps.length) m)) := by
  obtain ⟨oc, od, dV, kV, doc, pm, an, cdv, ct, osl, rfl, lk, hcd, _, _⟩ := F.ex
  cases e : compB fuel Γ ⟨N, scope, k, List.range N.length, true⟩ body with
  | none => rw [e] at hm; cases hm
  | some z =>
    obtain ⟨m', hm'⟩ := z
    rw [e] at hm
    obtain rfl : m' = m := Option.some.inj hm
    refine fn_of lk hcd S (fun vs H Q E h => spF_len _ _ _ _ h) fun A outer s H vs Q E hr h => ?_
    obtain ⟨ι, mh, xs, sm, r, hl', o⟩ := h
    have hX : XOk Γ ⟨N, scope, k, List.range N.length, true⟩ (cxOf (L2N.CX P w) P w K mg base N qual scope f cdv A outer s H E) T (fun cls d _ H => E cls d H) :=
      ⟨G, hr, rfl, L2N.takes_of rfl rfl rfl rfl, rfl, S.nd, rfl, fun z => by
        obtain ⟨c, Pt, h1, h2, h3, h4⟩ := hl z _ _ _ _ lk
        exact ⟨c, Pt, h1, h2, h3, h4⟩, fun _ _ => rfl⟩
    refine ⟨_, hm' _ T _ hX (passes_of rfl), ι, mh, xs.map some ++ List.replicate (N.length - xs.length) none, sm, SimSt.start r, ?_⟩
    unfold runB at o
    have o1 := OutE.ungc sm o
    rw [hl']
    cases e : m' (xs.map some ++ List.replicate (N.length - ps.length) none) mh with
    | ok fl ps1 mh1 =>
      rw [e] at o1
      cases fl with
      | nx => exact fun σ' H' ι' g s' t' => o1 .non H' ι' g s' .non
      | rt y => exact fun v H' ι' g s' r' => o1 v H' ι' g s' r'
      | bk => exact (show False from o1).elim
      | ct => exact (show False from o1).elim
    | exc c w' ps1 mh1 =>
      rw [e] at o1
      exact fun cv d σ' H' ι' g s' t' x' => o1 cv d H' ι' g s' x'
    | stk => rw [e] at o1; exact o1
/-- a def that does not end: nothing is promised -/
theorem fn_stk {P : Program} {w : World} {K : PySem.W.Frag} {mg : Str → Option Value} {base : Heap} {T : List (Addr × Str)} {f : Addr} {fd : FuncData} {ps : List Str} {k n : Nat} (hn : ps.length = n) : FnOk P w K mg base (L2N.CX P w) k f fd ps (spF ⟨K, mg, T⟩ n (fun _ _ => .stk)) :=
  ⟨fun vs H Q E h => (spF_len _ _ _ _ h).trans hn.symm, fun A outer s H args us vs Q E hr e0 hb r h => by
    obtain ⟨_, _, _, _, _, _, z⟩ := h
    exact (show False from z).elim⟩
end Px

set_option Elab.async false
set_option linter.all false
set_option maxRecDepth 100000
set_option maxHeartbeats 4000000
namespace Px
open PySem PySem.Spec PyProof.Rows L2 LamX He

theorem oexB_ok {K : PySem.W.Frag} {C : Addr} (h : oexB K C = true) : OexC K C := by
  unfold oexB at h
  simp only [Bool.and_eq_true, decide_eq_true_eq] at h
  obtain ⟨⟨⟨⟨q, h1⟩, h2⟩, h3⟩, h4⟩ := h
  refine ⟨?_, h1, h2, h3, h4⟩
  split at q
  · rename_i dd cd sl ho
    split at q
    · rename_i C' bm k0 k1 k2 k3 n k5 hm hs
      simp only [Bool.and_eq_true, beq_iff_eq, Bool.not_eq_true'] at q
      obtain ⟨⟨⟨⟨rfl, rfl⟩, hdel⟩, hdict⟩, hv⟩ := q
      obtain ⟨nm, bs, mro, ns, qn, hd, sn, sub, ab, col, del⟩ := cd
      dsimp only at hm hdel hdict
      subst hm hdel hdict
      have hsl : sl = #[k0, k1, k2, k3, some (.builtin "ValueError.__new__"), k5] := by
        obtain ⟨l⟩ := sl
        simp only at hs
        rw [hs]
      subst hsl
      exact ⟨nm, qn, ns, bs, bm, sn, sub, ab, col, dd, k0, k1, k2, k3, k5, ho, hv⟩
    · cases q
  · cases q
/-- the closure and the code of the __init__ at f, of the class at D -/
theorem dflB1_ok {K : PySem.W.Frag} {dV : Value} {nd : Nat} (h : dflB1 K dV nd = true) : DflN K dV nd := by
  unfold dflB1 at h
  split at h
  · exact .inl ⟨of_decide_eq_true h, rfl⟩
  · split at h
    · rename_i hh
      simp only [Bool.and_eq_true, decide_eq_true_eq] at h
      exact .inr ⟨h.2, _, _, _, _, rfl, hh, rfl, h.1⟩
    · cases h
  · cases h
theorem iniB_ok {P : Program} {K : PySem.W.Frag} {D f : Addr} {d : IniD} {nd : Nat} (h : iniB P K D f d.qual nd = true) (e : (match K.lookup f with
    | some ⟨_, _, .func fd, _⟩ => some (fd.name, fd.qualname, fd.params, fd.body, fd.scope, fd.globals, fd.closure.map (·.1), fd.builtins)
    | _ => (none : IniW)) = d.val) (ht : topB P = true) (hp : (d.params.posonlyargs ++ d.params.args).head?.map (·.arg) = some ("self" : Str)) :
    ∃ cda cc fd, IniF P K D f d.qual d.params d.body d.scope cda cc fd ∧ DflN K fd.defaults nd ∧ PySem.W.fnIn K f = true ∧ PySem.W.typeIn K (.ref f) = some (.type "function") := by
  unfold iniB at h
  simp only [Bool.and_eq_true, decide_eq_true_eq] at h
  obtain ⟨⟨⟨q, h1⟩, h2⟩, h3⟩ := h
  split at q
  · rename_i oc od fd osl ho
    rw [ho] at e
    obtain ⟨q0, q⟩ := ba q
    have dn := dflB1_ok q0
    split at q
    · rename_i nm cc cda hcl hcd
      simp only [Bool.and_eq_true] at q
      obtain ⟨⟨q1, q2⟩, q3⟩ := q
      obtain ⟨fname, fqual, fparams, fbody, fscope, fglob, fclo, fdef, fkwd, fdoc, fpm, fann, fcode, fct, fbt⟩ := fd
      simp only at hcl hcd
      subst hcl hcd
      have e := Option.some.inj e
      simp only [Prod.mk.injEq, List.map_cons, List.map_nil, List.cons.injEq, and_true] at e
      obtain ⟨rfl, rfl, rfl, rfl, rfl, rfl, rfl, rfl⟩ := e
      refine ⟨cda, cc, _, ⟨⟨oc, od, _, _, _, _, _, _, osl, rfl, ho⟩, q1, ?_, ?_, ?_, ?_, hp⟩, dn, h2, h3⟩
      · split at q2
        · rename_i a1 a2 vs a3 hc
          split at q2
          · rename_i file tf hv
            exact ⟨a1, a2, vs, a3, file, tf, hc, hv, q2⟩
          · cases q2
        · cases q2
      · split at q3
        · rename_i a1 a2 D' a3 hc
          have e : D' = D := by simpa using q3
          subst e
          exact ⟨a1, a2, a3, hc⟩
        · cases q3
      · exact Option.isSome_iff_exists.mp h1
      · unfold topB at ht
        simpa using ht
    · cases q
  · cases q
/-- the shapes of the two kinds of __init__ -/
def badShape : List Stmt → Option Str
  | [.Expr (.Call (.Attribute (.Call (.Name a _) [] [] _) b p2) [.Name d _, .Constant (.str nm) _ _] [] p4) _] => if a = ("super" : Str) ∧ b = ("__init__" : Str) ∧ d = ("what" : Str) ∧ (p2.endLine == p4.line) = true then some nm else none
  | _ => none
theorem badShape_ok {b : List Stmt} {nm : Str} (h : badShape b = some nm) : ∃ j p0 p1 p2 p3 p4 p5 p6, b = bB nm j p0 p1 p2 p3 p4 p5 p6 ∧ (p2.endLine == p4.line) = true := by
  unfold badShape at h
  split at h
  · split at h
    · rename_i hh
      obtain ⟨rfl, rfl, rfl, hl⟩ := hh
      cases h
      exact ⟨_, _, _, _, _, _, _, _, rfl, hl⟩
    · cases h
  · cases h
def refShape : List Stmt → Bool
  | [.Expr (.Call (.Attribute (.Call (.Name a _) [] [] _) b p2) [.Name d _] [] p4) _, .Assign [.Attribute (.Name e1 _) e2 _] (.Name e3 _) _, .Assign [.Attribute (.Name f1 _) f2 _] (.Name f3 _) _] =>
    decide (a = ("super" : Str) ∧ b = ("__init__" : Str) ∧ d = ("what" : Str) ∧ e1 = ("self" : Str) ∧ e2 = ("what" : Str) ∧ e3 = ("what" : Str) ∧ f1 = ("self" : Str) ∧ f2 = ("word" : Str) ∧ f3 = ("word" : Str)) && (p2.endLine == p4.line)
  | _ => false
theorem refShape_ok {b : List Stmt} (h : refShape b = true) : ∃ p0 p1 p2 p3 p4 p5 q1 q2 q3 q4 r1 r2 r3 r4, b = rB p0 p1 p2 p3 p4 p5 q1 q2 q3 q4 r1 r2 r3 r4 ∧ (p2.endLine == p4.line) = true := by
  unfold refShape at h
  split at h
  · obtain ⟨h1, h2⟩ := ba h
    obtain ⟨rfl, rfl, rfl, rfl, rfl, rfl, rfl, rfl, rfl⟩ := of_decide_eq_true h1
    exact ⟨_, _, _, _, _, _, _, _, _, _, _, _, _, _, rfl, h2⟩
  · cases h
def clsScopeB (sc : Scope) : Bool := decide (sc.kind = .function) && !sc.isCoroutine && !sc.isGenerator && (sc.names.all fun y => !decide (y.2 = .cell)) && (sc.names.all fun y => !decide (y.2 = .free) || decide (y.1 = ("__class__" : Str))) &&
  decide (sc.names.lookup ("super" : Str) = some .globalImplicit) && decide (sc.names.lookup ("__class__" : Str) = some .free) && decide (sc.names.lookup ("self" : Str) = some .local)
theorem clsScopeB_ok {sc : Scope} (h : clsScopeB sc = true) : ClsScope sc := by
  unfold clsScopeB at h
  simp only [Bool.and_eq_true, Bool.or_eq_true, Bool.not_eq_true', decide_eq_true_eq, decide_eq_false_iff_not, List.all_eq_true] at h
  obtain ⟨⟨⟨⟨⟨⟨⟨h1, h2⟩, h3⟩, h4⟩, h5⟩, h6⟩, h7⟩, h8⟩ := h
  exact ⟨h1, h2, h3, fun y hy => h4 y hy, fun y hy e => (h5 y hy).elim (fun z => absurd e z) id, h6, h7, h8⟩
def isPar (l : List Str) (a : Arguments) : Bool := a.posonlyargs.isEmpty && decide (a.args.map (·.arg) = l) && a.vararg.isNone && a.kwonlyargs.isEmpty && a.kw_defaults.isEmpty && a.kwarg.isNone
theorem isPar_ok {l : List Str} {a : Arguments} (h : isPar l a = true) : ∃ as d, a = { posonlyargs := [], args := as, vararg := none, kwonlyargs := [], kw_defaults := [], kwarg := none, defaults := d } ∧ as.map (·.arg) = l := by
  unfold isPar at h
  simp only [Bool.and_eq_true, decide_eq_true_eq, List.isEmpty_iff, Option.isNone_iff_eq_none] at h
  obtain ⟨⟨⟨⟨⟨h1, h2⟩, h3⟩, h4⟩, h5⟩, h6⟩ := h
  obtain ⟨a1, a2, a3, a4, a5, a6, a7⟩ := a
  simp only at h1 h2 h3 h4 h5 h6
  subst h1 h3 h4 h5 h6
  exact ⟨a2, a7, rfl, h2⟩
end Px

set_option Elab.async false
set_option linter.all false
set_option maxRecDepth 100000
set_option maxHeartbeats 4000000
namespace Px
open PySem PySem.Spec PyProof.Rows L2 LamX He
theorem bad_binds {K : PySem.W.Frag} {qual : Str} {params : Arguments} {body : List Stmt} {scope : Scope} {dV kV doc pm cdv ct : Value} {an : Option Addr} {cc : Addr} (hp : isPar bPs params = true) (hd : DflN K dV 0) :
    L2.Binds K (PySem.W.ksFn "__init__" qual params body scope dV kV doc pm an cdv ct cc) bPs [] := by
  obtain ⟨as, d, rfl, ha⟩ := isPar_ok hp
  rcases hd with ⟨_, rfl⟩ | ⟨h, _⟩
  · refine .all fun us hl => ?_
    match us, hl with
    | [_, _], _ =>
      match as, ha with
      | [⟨_, _, _⟩, ⟨_, _, _⟩], ha =>
        simp only [List.map_cons, List.map_nil, bPs, List.cons.injEq, and_true] at ha
        obtain ⟨rfl, rfl⟩ := ha
        rfl
  · exact absurd rfl h
theorem ref_binds {K : PySem.W.Frag} {qual : Str} {params : Arguments} {body : List Stmt} {scope : Scope} {dV kV doc pm cdv ct : Value} {an : Option Addr} {cc : Addr} (hp : isPar rPs params = true) (hd : DflN K dV 1) :
    L2.Binds K (PySem.W.ksFn "__init__" qual params body scope dV kV doc pm an cdv ct cc) rPs [] := by
  obtain ⟨as, d, rfl, ha⟩ := isPar_ok hp
  rcases hd with ⟨h, _⟩ | ⟨_, T, o, its, n, rfl, lT, oT, hz⟩
  · cases h
  · intro s us X hl
    rw [List.append_nil] at hl ⊢
    match us, hl with
    | [_, _, _], _ =>
      match as, ha with
      | [⟨_, _, _⟩, ⟨_, _, _⟩, ⟨_, _, _⟩], ha =>
        simp only [List.map_cons, List.map_nil, rPs, List.cons.injEq, and_true] at ha
        obtain ⟨rfl, rfl, rfl⟩ := ha
        refine BindsTo.of_looks fun M => ?_
        obtain ⟨l⟩ := its
        match l, hz with
        | [v], _ =>
          refine looks_items (k := ?k) X lT oT ?_
          exact PySem.W.Looks.of_pure rfl
/-! ## all that a law asks of the exception classes -/
/-- of the text -/
def badTxt (c : Str) (d : IniD) : Bool := decide (d.cls = c) && decide (badShape d.body = some c) && clsScopeB d.scope && isPar bPs d.params && decide (d.scope.names.lookup ("what" : Str) = some .local) && decide ((d.params.posonlyargs ++ d.params.args).head?.map (·.arg) = some ("self" : Str))
def refTxt (d : IniD) : Bool := decide (d.cls = ("Refused" : Str)) && refShape d.body && clsScopeB d.scope && isPar rPs d.params && decide (d.scope.names.lookup ("what" : Str) = some .local) && decide (d.scope.names.lookup ("word" : Str) = some .local) && decide ((d.params.posonlyargs ++ d.params.args).head?.map (·.arg) = some ("self" : Str))
theorem fn_cls {K : PySem.W.Frag} {f : Addr} (h : PySem.W.typeIn K (.ref f) = some (.type "function")) : ∃ o, K.lookup f = some o ∧ o.cls = .type "function" := by
  have h' : (K.lookup f).map (·.cls) = some (.type "function") := h
  obtain ⟨o, h1, h2⟩ := Option.map_eq_some_iff.mp h'
  exact ⟨o, h1, h2⟩
theorem raise_ok {P : Program} {w : World} {K : PySem.W.Frag} {mg : Str → Option Value} {base h : Heap} {ns : List Str} {c : Str} {d dR : IniD} (X : K.In h) (G : h.Ns mainGlobals mg) (hb : excB P K ns c d.qual = true) (hR : refB P K dR.qual = true) (ht : topB P = true) (b1 : badTxt c d = true) (b2 : refTxt dR = true)
    (e1 : iniW K (d.cls, some "__init__") = d.val) (e2 : iniW K (dR.cls, some "__init__") = dR.val) : RaisF P w K mg base 3 c ∧ ∃ D, mg c = some (.ref D) ∧ SaysC K mg D c ns ∧ PySem.W.exmOne K (.ref D) (.ref (ga K "Refused")) = some true := by
  unfold excB at hb
  simp only [Bool.and_eq_true, decide_eq_true_eq] at hb
  obtain ⟨⟨⟨⟨⟨⟨⟨⟨⟨⟨⟨⟨⟨⟨⟨⟨⟨h1, h2⟩, h3⟩, h4⟩, h5⟩, h6⟩, h7⟩, h8⟩, h9⟩, h10⟩, h11⟩, h12⟩, h13⟩, h14⟩, h15⟩, h16⟩, h17⟩, h18⟩ := hb
  unfold refB at hR
  simp only [Bool.and_eq_true] at hR
  obtain ⟨⟨⟨r1, r2⟩, r3⟩, r4⟩ := hR
  unfold badTxt at b1
  simp only [Bool.and_eq_true, decide_eq_true_eq] at b1
  obtain ⟨⟨⟨⟨⟨t1, t2⟩, t3⟩, t4⟩, t5⟩, t6⟩ := b1
  unfold refTxt at b2
  simp only [Bool.and_eq_true, decide_eq_true_eq] at b2
  obtain ⟨⟨⟨⟨⟨⟨u1, u2⟩, u3⟩, u4⟩, u5⟩, u6⟩, u7⟩ := b2
  have sup : mg ("super" : Str) = none := PySem.W.mg_none_of X G (He.eqO_ok r3)
  obtain ⟨cda, cc, fd, I1, dn1, fn1, ty1⟩ := iniB_ok (f := ma K (ga K c) "__init__") (d := d) h4 (by rw [← e1, t1]; rfl) ht t6
  obtain ⟨cdaR, ccR, fdR, I2, dn2, fn2, ty2⟩ := iniB_ok (f := ma K (ga K "Refused") "__init__") (d := dR) r1 (by rw [← e2, u1]; rfl) ht u7
  have TC := oexB_ok h2
  obtain ⟨j, p0, p1, p2, p3, p4, p5, p6, eb, hl⟩ := badShape_ok t2
  obtain ⟨q0, q1, q2, q3, q4, q5, w1, w2, w3, w4, x1, x2, x3, x4, er, hlR⟩ := refShape_ok u2
  rw [eb] at I1
  rw [er] at I2
  have FR := ref_init (P := P) (w := w) (base := base) (mg := mg) (C := ga K c) (clsScopeB_ok u3) I2 TC u5 u6 sup ⟨h8, He.eqO_ok r4, He.eqO_ok h10⟩ h11 hlR (He.eqO_ok h5) (He.eqO_ok h6)
  obtain ⟨_, _, _, _, _, _, _, _, _, efR, _⟩ := id I2.at_
  obtain ⟨_, _, _, _, _, _, _, _, _, ef, _⟩ := id I1.at_
  have FB := bad_init (P := P) (w := w) (base := base) (mg := mg) (clsScopeB_ok t3) I1 TC t5 sup ⟨h7, He.eqO_ok r4, He.eqO_ok h9⟩ hl FR (by rw [efR] at dn2 ⊢; exact ref_binds u4 dn2) (fn_cls ty2) fn2
  have gc : mg c = some (.ref (ga K c)) := PySem.W.mg_of X G (He.eqO_ok h1)
  refine ⟨⟨ga K c, _, fd, TC, He.eqO_ok h3, ty1, FB, by rw [ef] at dn1 ⊢; exact bad_binds t4 dn1, gc⟩, ga K c, gc, ?_, h17⟩
  have xf := xfB_ok h12
  refine ⟨⟨xf.ga, xf.gg, xf.exC, xf.hdC, He.eqO_ok h13, He.eqO_ok h14, h15, h16⟩, xf, He.eqO_ok h5, fun n hn => ?_⟩
  have z := List.all_eq_true.mp h18 n hn
  simp only [Bool.and_eq_true, decide_eq_true_eq, Bool.not_eq_true'] at z
  exact ⟨z.1.1, ga K n, PySem.W.mg_of X G (He.eqO_ok z.1.2), z.2⟩
end Px

set_option Elab.async false
set_option linter.all false
set_option maxRecDepth 100000
set_option maxHeartbeats 4000000
namespace Px
open PySem PySem.Spec PyProof.Rows L2 LamX He
section
variable {P : Program} {w : World} {K : PySem.W.Frag} {mg : Str → Option Value} {base : Heap} {T : List (Addr × Str)} {Γ : Gam}
theorem GOk.cons {x : Str} {e : Ent} (G : GOk P w K mg T base Γ) (h : EntOk P w K mg T base Γ.cs x e) : GOk P w K mg T base { Γ with ents := (x, e) :: Γ.ents } := by
  refine ⟨fun y u hy => ?_, G.free, G.gcd, G.exc, G.fv⟩
  have hy : ((x, e) :: Γ.ents).lookup y = some u := hy
  rw [List.lookup_cons] at hy
  cases hb : y == x with
  | true =>
    rw [hb] at hy
    cases hy
    have : y = x := by simpa using hb
    subst this
    exact h
  | false =>
    rw [hb] at hy
    exact G.ents y u hy
theorem GOk.lamd (b : Bool) (G : GOk P w K mg T base Γ) : GOk P w K mg T base { Γ with lam := b } := ⟨G.ents, G.free, G.gcd, G.exc, G.fv⟩
theorem GOk.fvd {l : List (Str × Nat × (List PV → MH → R PV))} {k : Nat} (G : GOk P w K mg T base Γ) (h : ∀ y n f, l.lookup y = some (n, f) → EFn P w K mg T base y k n f []) : GOk P w K mg T base { Γ with fv := l, fvk := k } := ⟨G.ents, G.free, G.gcd, G.exc, h⟩
theorem EFn.up {x : Str} {j k n : Nat} {f : List PV → MH → R PV} {kws : List KwP} (h : EFn P w K mg T base x j n f kws) (hk : j ≤ k) : EFn P w K mg T base x k n f [] := by
  obtain ⟨fa, fd, ps, h1, h2, h3, h4, h5, h6⟩ := h
  exact ⟨fa, fd, ps, h1, h2, h3.mono hk, h4, h5, fun p hp => absurd hp (by simp)⟩
theorem EFn.mk {x qual : Str} {params : Arguments} {body : List Stmt} {scope : Scope} {f : Addr} {fd : FuncData} {ps : List Str} {k n : Nat} {m : List PV → MH → R PV} {kws : List KwP} (hm : mg x = some (.ref f)) (F : FunD K x qual params body scope [] [] f fd)
    (ok : FnOk P w K mg base (L2N.CX P w) k f fd ps (spF ⟨K, mg, T⟩ n m)) (hn : ps.length = n)
    (hb : ∀ (kV doc pm : Value) (an : Option Addr) (cdv ct : Value) (us : List Value), us.length = n → bindArgs (PySem.W.fnOf x qual params body scope .none kV doc pm an cdv ct) ⟨us, []⟩ = pure (ps.zip us))
    (hk : ∀ (kV doc pm : Value) (an : Option Addr) (cdv ct : Value), ∀ p ∈ kws, p.π.length = n ∧ (∀ j ∈ p.π, j < p.n + p.ks.length) ∧ ∀ us ws : List Value, us.length = p.n → ws.length = p.ks.length → bindArgs (PySem.W.fnOf x qual params body scope .none kV doc pm an cdv ct) ⟨us, p.ks.zip ws⟩ = pure (ps.zip (permL p.π (us ++ ws)))) :
    EFn P w K mg T base x k n m kws := by
  obtain ⟨oc, od, dV, kV, doc, pm, an, cdv, ct, osl, rfl, lk, hcd, hD, hK⟩ := id F.ex
  rcases hD with ⟨_, rfl⟩ | ⟨e, _⟩
  · exact ⟨f, _, ps, hm, F.kp, ok, hn, hb kV doc pm an cdv ct, hk kV doc pm an cdv ct⟩
  · exact absurd rfl e
theorem nodup_inj {α β : Type} {f : α → β} : ∀ {l : List α}, (l.map f).Nodup → ∀ {a b : α}, a ∈ l → b ∈ l → f a = f b → a = b
  | [], _, _, _, h, _, _ => by cases h
  | x :: l, hn, a, b, ha, hb, e => by
    rw [List.map_cons, List.nodup_cons] at hn
    rcases List.mem_cons.mp ha with h1 | h1 <;> rcases List.mem_cons.mp hb with h2 | h2
    · rw [h1, h2]
    · exact (hn.1 (List.mem_map.mpr ⟨b, h2, by rw [← e, h1]⟩)).elim
    · exact (hn.1 (List.mem_map.mpr ⟨a, h1, by rw [e, h2]⟩)).elim
    · exact nodup_inj hn.2 h1 h2 e
/-- the tables of the defs that make lambdas -/
def tbs (K : PySem.W.Frag) (tf : List Defn) : List (Addr × Str) := tf.map fun p => ((cT K p).2, (p.1 ++ ".<locals>.") ++ "<lambda>")
theorem lamD_of {tf : List Defn} {x : Str} {params : Arguments} {body : List Stmt} {scope : Scope} {fd : FuncData} {dvs : List V} {kws : List (Str × V)} (F : FunD K x x params body scope dvs kws (fAd K (x, none)) fd) (hp : (x, none) ∈ tf) (ht : ∀ p ∈ tf, TabB base mg (cT K p).1 (cT K p).2)
    (hn : (tf.map fun p => (cT K p).2).Nodup) : LamD K mg base (tbs K tf) (fAd K (x, none)) x := by
  intro oc od fd' osl lk
  obtain ⟨oc', od', dV, kV, doc, pm, an, cdv, ct, osl', rfl, lk', hcd, _, _⟩ := F.ex
  rw [lk'] at lk
  cases lk
  obtain ⟨c, hc⟩ := codeIn_ref hcd
  have e : codeOf K (x, none) = c := codeOf_eq lk' hc
  refine ⟨c, (cT K (x, none)).2, hc, by have z := ht _ hp; rw [show (cT K (x, none)).1 = c from e] at z; exact z, List.mem_map_of_mem hp, fun p hpp hq => ?_⟩
  obtain ⟨q, hq1, rfl⟩ := List.mem_map.mp hpp
  have : q = (x, none) := nodup_inj hn hq1 hp hq
  rw [this]
/-! ## the list of classes, by its shape -/
def clsShape : List Expr → Option (List Str)
  | [] => some []
  | .Tuple [.Constant (.str n) _ _, .Call (.Name i _) [.Name r _, .Name m _] [] _] _ _ :: es => if i = ("isinstance" : Str) ∧ r = ("refused_one" : Str) ∧ m = n then (clsShape es).map (n :: ·) else none
  | _ => none
theorem clsShape_ok : ∀ {es : List Expr} {ns : List Str}, clsShape es = some ns → ClsL es ns := by
  intro es
  fun_induction clsShape es with
  | case1 => intro ns h; cases h; exact .nil
  | case2 n _ _ i _ r _ m _ _ _ _ es hh ih =>
    intro ns h
    obtain ⟨l, h1, rfl⟩ := Option.map_eq_some_iff.mp h
    obtain ⟨rfl, rfl, rfl⟩ := hh
    exact .cons (ih h1)
  | case3 => intro ns h; cases h
  | case4 => intro ns h; cases h
def clsBody : List Stmt → Option (List Str)
  | [.Return (some (.List es _)) _] => clsShape es
  | _ => none
theorem clsBody_ok {b : List Stmt} {ns : List Str} (h : clsBody b = some ns) : ∃ es pos pos', b = [.Return (some (.List es pos)) pos'] ∧ ClsL es ns := by
  unfold clsBody at h
  split at h
  · exact ⟨_, _, _, rfl, clsShape_ok h⟩
  · cases h
theorem clsFn_of {x qual : Str} {params : Arguments} {body : List Stmt} {scope : Scope} {f : Addr} {fd : FuncData} {ns : List Str} (F : FunD K x qual params body scope [] [] f fd) (S : FnScope ["refused_one"] ["refused_one"] scope) (hb : clsBody body = some ns) (hv : scope.names.lookup ("refused_one" : Str) = some .local)
    (hi : scope.names.lookup ("isinstance" : Str) = some .globalImplicit) (hn : (ns.all fun n => decide (scope.names.lookup n = some .globalImplicit)) = true) (B : L2.Binds K fd ["refused_one"] []) (isi : mg ("isinstance" : Str) = none) (sh : ns.length ≤ 1000) : ClsFn K mg f ns := by
  obtain ⟨es, pos, pos', rfl, hl⟩ := clsBody_ok hb
  exact ⟨⟨x, qual, params, es, pos, pos', scope, fd, F, S, hl, .inl hv, hi, fun n hm => of_decide_eq_true (List.all_eq_true.mp hn n hm), B⟩, isi, sh⟩
end
/-! ## the facts of a law -/
structure FxG (fa : List Fa) (fn : List DefD) (tf : List Defn) (ins : List IniD) (ex : PySem.W.Frag → Bool) (K : PySem.W.Frag) (mg : Str → Option Value) (T : List (Addr × Str)) (base : Heap) : Prop where
  says : ∃ h0, SaysP fa fn tf ins ex h0 K
  X : K.In base
  G : base.Ns mainGlobals mg
  tabs : ∀ p ∈ tf, TabB base mg (cT K p).1 (cT K p).2
  hT : T = tbs K tf
  nd : (tf.map fun p => (cT K p).2).Nodup
section
variable {fa : List Fa} {fn : List DefD} {tf : List Defn} {ins : List IniD} {ex : PySem.W.Frag → Bool} {K : PySem.W.Frag} {mg : Str → Option Value} {T : List (Addr × Str)} {base : Heap}
theorem FxG.def_ (h : FxG fa fn tf ins ex K mg T base) (i : Nat) {d : DefD} (hd : fn[i]? = some d) : ∃ fd, FunD K d.name d.qual d.params d.body d.scope (d.dvs K) (d.kws K) (fAd K d.at_) fd := by
  obtain ⟨_, s⟩ := h.says
  exact s.d.def_ i hd
theorem FxG.glo (h : FxG fa fn tf ins ex K mg T base) (i : Nat) {x : Str} (hd : fa[i]? = some (.glo x)) : mg x = some (.ref (ga K x)) := by
  obtain ⟨_, s⟩ := h.says
  exact glo_ok h.X h.G (s.d.fact i hd)
theorem FxG.free_ (h : FxG fa fn tf ins ex K mg T base) {x : Str} (hd : .free x ∈ fa) : mg x = none := by
  obtain ⟨_, s⟩ := h.says
  exact free_ok h.X h.G (s.d.facts hd)
theorem FxG.exOk (h : FxG fa fn tf ins ex K mg T base) : ex K = true := by
  obtain ⟨_, s⟩ := h.says
  exact s.more
theorem FxG.ini (h : FxG fa fn tf ins ex K mg T base) {d : IniD} (hd : d ∈ ins) : iniW K (d.cls, some "__init__") = d.val := by
  obtain ⟨_, s⟩ := h.says
  have key : ∀ {l : List IniD}, l.map (fun i => iniW K (i.cls, some "__init__")) = l.map IniD.val → d ∈ l → iniW K (d.cls, some "__init__") = d.val := by
    intro l
    induction l with
    | nil => intro _ h; cases h
    | cons a l ih =>
      intro e hm
      simp only [List.map_cons, List.cons.injEq] at e
      rcases List.mem_cons.mp hm with rfl | hm
      · exact e.1
      · exact ih e.2 hm
  exact key s.ini hd
theorem FxG.lamD (h : FxG fa fn tf ins ex K mg T base) {x : Str} {params : Arguments} {body : List Stmt} {scope : Scope} {fd : FuncData} {dvs : List V} {kws : List (Str × V)} (F : FunD K x x params body scope dvs kws (fAd K (x, none)) fd) (hp : (x, none) ∈ tf) : LamD K mg base T (fAd K (x, none)) x := by
  rw [h.hT]
  exact lamD_of F hp h.tabs h.nd
end
end Px

set_option Elab.async false
set_option linter.all false
set_option maxRecDepth 100000
set_option maxHeartbeats 4000000
namespace Px
open PySem PySem.Spec PyProof.Rows L2

/-! ## reading what the combinators do -/
theorem take_self {α : Type} (l : List α) : l.take l.length = l := List.take_length
@[simp] theorem gc_same {mh : MH} {v : PV} : gc mh (.ok v mh) = .ok v mh := by
  unfold gc
  simp only
  split
  · rw [List.take_length]
  · rfl
@[simp] theorem gc_exc {mh : MH} {c : Str} {v : PV} : gc mh (.exc c v mh) = .exc c v mh := by
  unfold gc
  simp only
  split
  · rw [List.take_length]
  · rfl
theorem gc_ok {mh mh' : MH} {v : PV} (h : GcOk mh mh' v) : gc mh (.ok v mh') = .ok v (mh'.take mh.length) := by
  unfold gc
  simp only
  rw [if_pos h]
section
variable {ps : PSt} {mh : MH}
@[simp] theorem rb_ok {α β : Type} {a : α} {f : α → MH → R β} : (R.ok a mh).bind f = f a mh := rfl
@[simp] theorem rb_exc {α β : Type} {c : Str} {w : PV} {f : α → MH → R β} : (R.exc c w mh : R α).bind f = .exc c w mh := rfl
@[simp] theorem rs_ok {α : Type} {a : α} {f : α → MH → RS} : (R.ok a mh).bindS ps f = f a mh := rfl
@[simp] theorem rs_exc {α : Type} {c : Str} {w : PV} {f : α → MH → RS} : (R.exc c w mh : R α).bindS ps f = .exc c w ps mh := rfl
@[simp] theorem s_var {i : Nat} : eVar i ps mh = match ps[i]? with
  | some (some x) => .ok x mh
  | _ => .stk := rfl
@[simp] theorem s_c {x : PV} : eC x ps mh = .ok x mh := rfl
@[simp] theorem s_bin {op : Operator} {a b : ES} : eBin op a b ps mh = (a ps mh).bind fun x mh => (b ps mh).bind fun y mh => binV op x y mh := rfl
@[simp] theorem s_cmp {op : CmpOp} {a b : ES} : eCmp op a b ps mh = (a ps mh).bind fun x mh => (b ps mh).bind fun y mh => cmpV op x y mh := rfl
@[simp] theorem s_tru {a : ES} : tTru a ps mh = (a ps mh).bind truthP := rfl
@[simp] theorem s_bl {a : ES} : tBl a ps mh = (a ps mh).bind boolP := rfl
@[simp] theorem s_notP {a : TSm} : tNotP a ps mh = (a ps mh).bind fun b mh => .ok (!b) mh := rfl
@[simp] theorem s_andP {a b : TSm} : tAndP a b ps mh = (a ps mh).bind fun c mh => if c = true then b ps mh else .ok false mh := rfl
@[simp] theorem s_orP {a b : TSm} : tOrP a b ps mh = (a ps mh).bind fun c mh => if c = true then .ok true mh else b ps mh := rfl
@[simp] theorem s_and {a b : ES} : eAnd a b ps mh = (a ps mh).bind fun x mh => (truthP x mh).bind fun c mh => if c = true then b ps mh else .ok x mh := rfl
@[simp] theorem s_or {a b : ES} : eOr a b ps mh = (a ps mh).bind fun x mh => (truthP x mh).bind fun c mh => if c = true then .ok x mh else b ps mh := rfl
@[simp] theorem s_not {a : ES} : eNot a ps mh = (a ps mh).bind fun x mh => (truthP x mh).bind fun c mh => .ok (.bl (!c)) mh := rfl
@[simp] theorem s_neg {a : ES} : eNeg a ps mh = (a ps mh).bind fun x mh => match x with
  | .int i => .ok (.int (-i)) mh
  | _ => .stk := rfl
@[simp] theorem s_if {c : TSm} {a b : ES} : eIf c a b ps mh = (c ps mh).bind fun k mh => if k = true then a ps mh else b ps mh := rfl
@[simp] theorem s_nil : aNil ps mh = .ok [] mh := rfl
@[simp] theorem s_cons {a : ES} {r : AS} : aCons a r ps mh = (a ps mh).bind fun x mh => (r ps mh).bind fun xs mh => .ok (x :: xs) mh := rfl
@[simp] theorem s_tup {a : AS} : eTup a ps mh = (a ps mh).bind fun xs mh => if xs.length ≤ sizeLine then .ok (.tup xs) mh else .stk := rfl
@[simp] theorem s_lst {a : AS} : eLst a ps mh = (a ps mh).bind fun xs mh => if xs.length ≤ sizeLine then newL xs mh else .stk := rfl
@[simp] theorem s_ix {a b : ES} : eIx a b ps mh = (a ps mh).bind fun x mh => (b ps mh).bind fun y mh => ixP x y mh := rfl
@[simp] theorem s_call {f : List PV → MH → R PV} {a : AS} : eCall f a ps mh = (a ps mh).bind f := rfl
@[simp] theorem s_callK {f : List PV → MH → R PV} {π : List Nat} {a k : AS} : eCallK f π a k ps mh = (a ps mh).bind fun us mh => (k ps mh).bind fun ws mh => f (permL π (us ++ ws)) mh := rfl
@[simp] theorem s_isTy {t : Ty5} {a : ES} : eIsTy t a ps mh = (a ps mh).bind fun x mh => isTyP t x mh := rfl
@[simp] theorem s_next : sNext ps mh = .ok .nx ps mh := rfl
@[simp] theorem s_seq {a b : SS} : sSeq a b ps mh = match a ps mh with
  | .ok .nx ps mh => b ps mh
  | r => r := rfl
@[simp] theorem s_expr {e : ES} : sExpr e ps mh = (e ps mh).bindS ps fun _ mh => .ok .nx ps mh := rfl
@[simp] theorem s_ret {e : ES} : sRet e ps mh = (e ps mh).bindS ps fun x mh => .ok (.rt x) ps mh := rfl
@[simp] theorem s_sif {c : TSm} {a b : SS} : sIf c a b ps mh = (c ps mh).bindS ps fun k mh => if k = true then a ps mh else b ps mh := rfl
@[simp] theorem s_asg {e : ES} {g : GS} : sAsg e g ps mh = (e ps mh).bindS ps fun x mh => onlyNx (g x ps mh) := rfl
@[simp] theorem s_nm {i : Nat} {x : PV} : gNm i x ps mh = .ok .nx (ps.set i (some x)) mh := rfl
@[simp] theorem s_on {f : PSt} : onlyNx (.ok .nx f mh) = .ok .nx f mh := rfl
@[simp] theorem s_raise {c : Str} {m : ES} : sRaise c m ps mh = (m ps mh).bindS ps fun x mh => .exc c x ps mh := rfl
@[simp] theorem s_par {i j : Nat} {a : AS} : sPar i j a ps mh = (a ps mh).bindS ps fun xs mh => match xs with
  | [x, y] => .ok .nx ((ps.set i (some x)).set j (some y)) mh
  | _ => .stk := rfl
@[simp] theorem s_sub {o i : ES} {x : PV} : gSubS o i x ps mh = (o ps mh).bindS ps fun ov mh => (i ps mh).bindS ps fun iv mh => setV ov iv x ps mh := rfl
@[simp] theorem s_hear {cs : List Str} {m : ES} : eHear cs m ps mh = hearR cs (m ps mh) := rfl
@[simp] theorem s_endr {x : PV} : endB (.ok (.rt x) ps mh) = .ok x mh := rfl
@[simp] theorem s_endn : endB (.ok .nx ps mh) = .ok .non mh := rfl
@[simp] theorem s_endx {c : Str} {x : PV} : endB (.exc c x ps mh) = .exc c x mh := rfl
@[simp] theorem v_add {i j : Int} : binV .Add (.int i) (.int j) mh = .ok (.int (i + j)) mh := rfl
@[simp] theorem v_sub {i j : Int} : binV .Sub (.int i) (.int j) mh = .ok (.int (i - j)) mh := rfl
theorem v_mul {i j : Int} (h : CMulW i j ∨ CMul i j) : binV .Mult (.int i) (.int j) mh = .ok (.int (i * j)) mh := by
  unfold binV
  simp only [mulV]
  rw [if_pos h]
theorem v_div {i j : Int} (h : 0 < j) (h2 : j.natAbs.log2 < 9000) : binV .FloorDiv (.int i) (.int j) mh = .ok (.int (i / j)) mh := by
  unfold binV
  simp only [divV]
  rw [if_pos ⟨h, h2⟩]
theorem v_mod {i j : Int} (h : 0 < j) : binV .Mod (.int i) (.int j) mh = .ok (.int (i % j)) mh := by
  unfold binV
  simp only [modV]
  rw [if_pos h]
@[simp] theorem c_eq {i j : Int} : cmpV .Eq (.int i) (.int j) mh = .ok (.bl (decide (i = j))) mh := rfl
@[simp] theorem c_ne {i j : Int} : cmpV .NotEq (.int i) (.int j) mh = .ok (.bl (!decide (i = j))) mh := rfl
@[simp] theorem c_lt {i j : Int} : cmpV .Lt (.int i) (.int j) mh = .ok (.bl (decide (i < j))) mh := rfl
@[simp] theorem c_gt {i j : Int} : cmpV .Gt (.int i) (.int j) mh = .ok (.bl (decide (j < i))) mh := rfl
@[simp] theorem c_ge {i j : Int} : cmpV .GtE (.int i) (.int j) mh = .ok (.bl (decide (j ≤ i))) mh := rfl
@[simp] theorem c_is {x y : PV} : cmpV .Is x y mh = isPV x y mh := rfl
@[simp] theorem t_bl {b : Bool} : truthP (.bl b) mh = .ok b mh := rfl
@[simp] theorem b_bl {b : Bool} : boolP (.bl b) mh = .ok b mh := rfl
@[simp] theorem l2 {x y : PV} : lenV [.tup [x, y]] mh = .ok (.int 2) mh := rfl
@[simp] theorem i_0 {x y : PV} : ixP (.tup [x, y]) (.int 0) mh = .ok x mh := rfl
@[simp] theorem i_1 {x y : PV} : ixP (.tup [x, y]) (.int 1) mh = .ok y mh := rfl
@[simp] theorem g_cd {i j : Int} : gcdV [.int i, .int j] mh = .ok (.int ((Nat.gcd i.natAbs j.natAbs : Nat) : Int)) mh := rfl
theorem le2 : (2 : Nat) ≤ sizeLine := by decide +kernel
end
theorem whileN_more {c : TSm} {body : SS} : ∀ (n : Nat) (ps : PSt) (mh : MH), whileN c body n ps mh ≠ .stk → ∀ m, n ≤ m → whileN c body m ps mh = whileN c body n ps mh
  | 0, ps, mh, h, _, _ => by
    unfold whileN at h
    exact absurd rfl h
  | n + 1, ps, mh, h, 0, hm => by omega
  | n + 1, ps, mh, h, m + 1, hm => by
    have ih := whileN_more (c := c) (body := body) n
    unfold whileN at h ⊢
    cases e : c ps mh with
    | ok k mh1 =>
      rw [e] at h
      simp only [R.bindS] at h ⊢
      cases k with
      | false => rfl
      | true =>
        simp only [if_true] at h ⊢
        cases e2 : body ps mh1 with
        | ok f ps2 mh2 =>
          rw [e2] at h
          cases f with
          | nx => exact ih ps2 mh2 h m (by omega)
          | ct => exact ih ps2 mh2 h m (by omega)
          | bk => rfl
          | rt x => rfl
        | exc a b d f => rfl
        | stk => rfl
    | exc a b d => rfl
    | stk => rfl
theorem sWhile_eq {c : TSm} {body : SS} {ps : PSt} {mh : MH} {r : RS} (n : Nat) (h : whileN c body n ps mh = r) (hr : r ≠ .stk) : sWhile c body ps mh = r := by
  have ex : ∃ n, whileN c body n ps mh ≠ .stk := ⟨n, by rw [h]; exact hr⟩
  unfold sWhile
  rw [dif_pos ex]
  have h1 := whileN_more (c := c) (body := body) ex.choose ps mh ex.choose_spec (max ex.choose n) (Nat.le_max_left ..)
  have h2 := whileN_more (c := c) (body := body) n ps mh (by rw [h]; exact hr) (max ex.choose n) (Nat.le_max_right ..)
  rw [← h1, h2, h]
end Px

set_option Elab.async false
set_option linter.all false
set_option maxRecDepth 100000
set_option maxHeartbeats 0
namespace Kx
open PySem PySem.Spec PyProof.Rows L2 Px
def cs : List Str := ["BadRatio", "ByNought"]
abbrev Pg : Program := PySem.Challenge.pw_onepixel_k01_ratios_and_reckoning
noncomputable def E0 : List (Str × Ent) := []
noncomputable def m_is_whole : SS := (sSeq (sRet (eAnd (eIsTy .tInt (eVar 0)) (eNot (eIsTy .tBool (eVar 0))))) sNext)
noncomputable def f_is_whole : List PV → MH → R PV := runB 0 m_is_whole
noncomputable def E1 : List (Str × Ent) := ("is_whole", Ent.fn 1 1 f_is_whole []) :: E0
noncomputable def m_is_ratio : SS := (sSeq (sIf (tOrP (tNotP (tTru (eIsTy .tTuple (eVar 0)))) (tBl (eCmp .NotEq (eCall lenV (aCons (eVar 0) aNil)) (eC (.int 2))))) (sSeq (sRet (eC (.bl false))) sNext) sNext) (sSeq (sIf (tOrP (tNotP (tTru (eCall f_is_whole (aCons (eIx (eVar 0) (eC (.int 0))) aNil)))) (tOrP (tNotP (tTru (eCall f_is_whole (aCons (eIx (eVar 0) (eC (.int 1))) aNil)))) (tBl (eCmp .Lt (eIx (eVar 0) (eC (.int 1))) (eC (.int 1)))))) (sSeq (sRet (eC (.bl false))) sNext) sNext) (sSeq (sRet (eOr (eCmp .Eq (eIx (eVar 0) (eC (.int 1))) (eC (.int 1))) (eCmp .Eq (eCall gcdV (aCons (eIx (eVar 0) (eC (.int 0))) (aCons (eIx (eVar 0) (eC (.int 1))) aNil))) (eC (.int 1))))) sNext)))
noncomputable def f_is_ratio : List PV → MH → R PV := runB 0 m_is_ratio
noncomputable def E2 : List (Str × Ent) := ("is_ratio", Ent.fn 2 1 f_is_ratio [⟨0, ["thing"], [0]⟩]) :: E1
noncomputable def m_lowest : SS := (sSeq (sIf (tBl (eCmp .Eq (eVar 1) (eC (.int 1)))) (sSeq (sRet (eTup (aCons (eVar 0) (aCons (eC (.int 1)) aNil)))) sNext) sNext) (sSeq (sAsg (eCall gcdV (aCons (eVar 0) (aCons (eVar 1) aNil))) (gNm 2)) (sSeq (sRet (eTup (aCons (eBin .FloorDiv (eVar 0) (eVar 2)) (aCons (eBin .FloorDiv (eVar 1) (eVar 2)) aNil)))) sNext)))
noncomputable def f_lowest : List PV → MH → R PV := runB 1 m_lowest
noncomputable def E3 : List (Str × Ent) := ("lowest", Ent.fn 1 2 f_lowest []) :: E2
noncomputable def m_add_inner : SS := (sSeq (sRet (eCall f_lowest (aCons (eBin .Add (eBin .Mult (eIx (eVar 0) (eC (.int 0))) (eIx (eVar 1) (eC (.int 1)))) (eBin .Mult (eIx (eVar 1) (eC (.int 0))) (eIx (eVar 0) (eC (.int 1))))) (aCons (eBin .Mult (eIx (eVar 0) (eC (.int 1))) (eIx (eVar 1) (eC (.int 1)))) aNil)))) sNext)
noncomputable def f_add_inner : List PV → MH → R PV := runB 0 m_add_inner
noncomputable def E4 : List (Str × Ent) := ("add_inner", Ent.fn 2 2 f_add_inner []) :: E3
noncomputable def m_sub_inner : SS := (sSeq (sRet (eCall f_lowest (aCons (eBin .Sub (eBin .Mult (eIx (eVar 0) (eC (.int 0))) (eIx (eVar 1) (eC (.int 1)))) (eBin .Mult (eIx (eVar 1) (eC (.int 0))) (eIx (eVar 0) (eC (.int 1))))) (aCons (eBin .Mult (eIx (eVar 0) (eC (.int 1))) (eIx (eVar 1) (eC (.int 1)))) aNil)))) sNext)
noncomputable def f_sub_inner : List PV → MH → R PV := runB 0 m_sub_inner
noncomputable def E5 : List (Str × Ent) := ("sub_inner", Ent.fn 2 2 f_sub_inner []) :: E4
noncomputable def m_mul_inner : SS := (sSeq (sRet (eCall f_lowest (aCons (eBin .Mult (eIx (eVar 0) (eC (.int 0))) (eIx (eVar 1) (eC (.int 0)))) (aCons (eBin .Mult (eIx (eVar 0) (eC (.int 1))) (eIx (eVar 1) (eC (.int 1)))) aNil)))) sNext)
noncomputable def f_mul_inner : List PV → MH → R PV := runB 0 m_mul_inner
noncomputable def E6 : List (Str × Ent) := ("mul_inner", Ent.fn 2 2 f_mul_inner []) :: E5
noncomputable def m_div_inner : SS := (sSeq (sIf (tBl (eCmp .Lt (eIx (eVar 1) (eC (.int 0))) (eC (.int 0)))) (sSeq (sRet (eCall f_lowest (aCons (eBin .Sub (eC (.int 0)) (eBin .Mult (eIx (eVar 0) (eC (.int 0))) (eIx (eVar 1) (eC (.int 1))))) (aCons (eBin .Sub (eC (.int 0)) (eBin .Mult (eIx (eVar 0) (eC (.int 1))) (eIx (eVar 1) (eC (.int 0))))) aNil)))) sNext) sNext) (sSeq (sRet (eCall f_lowest (aCons (eBin .Mult (eIx (eVar 0) (eC (.int 0))) (eIx (eVar 1) (eC (.int 1)))) (aCons (eBin .Mult (eIx (eVar 0) (eC (.int 1))) (eIx (eVar 1) (eC (.int 0)))) aNil)))) sNext))
noncomputable def f_div_inner : List PV → MH → R PV := runB 0 m_div_inner
noncomputable def E7 : List (Str × Ent) := ("div_inner", Ent.fn 2 2 f_div_inner []) :: E6
noncomputable def m_less_inner : SS := (sSeq (sRet (eCmp .Lt (eBin .Mult (eIx (eVar 0) (eC (.int 0))) (eIx (eVar 1) (eC (.int 1)))) (eBin .Mult (eIx (eVar 1) (eC (.int 0))) (eIx (eVar 0) (eC (.int 1)))))) sNext)
noncomputable def f_less_inner : List PV → MH → R PV := runB 0 m_less_inner
noncomputable def E8 : List (Str × Ent) := ("less_inner", Ent.fn 1 2 f_less_inner []) :: E7
noncomputable def m_floor_inner : SS := (sSeq (sRet (eBin .FloorDiv (eIx (eVar 0) (eC (.int 0))) (eIx (eVar 0) (eC (.int 1))))) sNext)
noncomputable def f_floor_inner : List PV → MH → R PV := runB 0 m_floor_inner
noncomputable def E9 : List (Str × Ent) := ("floor_inner", Ent.fn 1 1 f_floor_inner []) :: E8
noncomputable def m_ceil_inner : SS := (sSeq (sRet (eBin .Sub (eC (.int 0)) (eBin .FloorDiv (eBin .Sub (eC (.int 0)) (eIx (eVar 0) (eC (.int 0)))) (eIx (eVar 0) (eC (.int 1)))))) sNext)
noncomputable def f_ceil_inner : List PV → MH → R PV := runB 0 m_ceil_inner
noncomputable def E10 : List (Str × Ent) := ("ceil_inner", Ent.fn 1 1 f_ceil_inner []) :: E9
noncomputable def m_asked_ratio : SS := (sSeq (sIf (tNotP (tTru (eCall f_is_ratio (aCons (eVar 0) aNil)))) (sSeq (sRaise "BadRatio" (eVar 0)) sNext) sNext) sNext)
noncomputable def f_asked_ratio : List PV → MH → R PV := runB 0 m_asked_ratio
noncomputable def E11 : List (Str × Ent) := ("asked_ratio", Ent.fn 5 1 f_asked_ratio []) :: E10
noncomputable def m_ratio : SS := (sSeq (sIf (tOrP (tNotP (tTru (eCall f_is_whole (aCons (eVar 0) aNil)))) (tOrP (tNotP (tTru (eCall f_is_whole (aCons (eVar 1) aNil)))) (tBl (eCmp .Eq (eVar 1) (eC (.int 0)))))) (sSeq (sRaise "BadRatio" (eTup (aCons (eVar 0) (aCons (eVar 1) aNil)))) sNext) sNext) (sSeq (sRet (eIf (tBl (eCmp .Gt (eVar 1) (eC (.int 0)))) (eCall f_lowest (aCons (eVar 0) (aCons (eVar 1) aNil))) (eCall f_lowest (aCons (eBin .Sub (eC (.int 0)) (eVar 0)) (aCons (eBin .Sub (eC (.int 0)) (eVar 1)) aNil))))) sNext))
noncomputable def f_ratio : List PV → MH → R PV := runB 0 m_ratio
noncomputable def E12 : List (Str × Ent) := ("ratio", Ent.fn 5 2 f_ratio [⟨0, ["bottom", "top"], [1, 0]⟩]) :: E11
noncomputable def m_plus : SS := (sSeq (sExpr (eCall f_asked_ratio (aCons (eVar 0) aNil))) (sSeq (sExpr (eCall f_asked_ratio (aCons (eVar 1) aNil))) (sSeq (sRet (eCall f_add_inner (aCons (eVar 0) (aCons (eVar 1) aNil)))) sNext)))
noncomputable def f_plus : List PV → MH → R PV := runB 0 m_plus
noncomputable def E13 : List (Str × Ent) := ("plus", Ent.fn 6 2 f_plus []) :: E12
noncomputable def m_minus : SS := (sSeq (sExpr (eCall f_asked_ratio (aCons (eVar 0) aNil))) (sSeq (sExpr (eCall f_asked_ratio (aCons (eVar 1) aNil))) (sSeq (sRet (eCall f_sub_inner (aCons (eVar 0) (aCons (eVar 1) aNil)))) sNext)))
noncomputable def f_minus : List PV → MH → R PV := runB 0 m_minus
noncomputable def E14 : List (Str × Ent) := ("minus", Ent.fn 6 2 f_minus [⟨0, ["b", "a"], [1, 0]⟩]) :: E13
noncomputable def m_times : SS := (sSeq (sExpr (eCall f_asked_ratio (aCons (eVar 0) aNil))) (sSeq (sExpr (eCall f_asked_ratio (aCons (eVar 1) aNil))) (sSeq (sRet (eCall f_mul_inner (aCons (eVar 0) (aCons (eVar 1) aNil)))) sNext)))
noncomputable def f_times : List PV → MH → R PV := runB 0 m_times
noncomputable def E15 : List (Str × Ent) := ("times", Ent.fn 6 2 f_times [⟨1, ["b"], [0, 1]⟩]) :: E14
noncomputable def m_over : SS := (sSeq (sExpr (eCall f_asked_ratio (aCons (eVar 0) aNil))) (sSeq (sExpr (eCall f_asked_ratio (aCons (eVar 1) aNil))) (sSeq (sIf (tBl (eCmp .Eq (eIx (eVar 1) (eC (.int 0))) (eC (.int 0)))) (sSeq (sRaise "ByNought" (eVar 0)) sNext) sNext) (sSeq (sRet (eCall f_div_inner (aCons (eVar 0) (aCons (eVar 1) aNil)))) sNext))))
noncomputable def f_over : List PV → MH → R PV := runB 0 m_over
noncomputable def E16 : List (Str × Ent) := ("over", Ent.fn 6 2 f_over []) :: E15
noncomputable def m_compare : SS := (sSeq (sExpr (eCall f_asked_ratio (aCons (eVar 0) aNil))) (sSeq (sExpr (eCall f_asked_ratio (aCons (eVar 1) aNil))) (sSeq (sIf (tTru (eCall f_less_inner (aCons (eVar 0) (aCons (eVar 1) aNil)))) (sSeq (sRet (eNeg (eC (.int 1)))) sNext) sNext) (sSeq (sRet (eIf (tTru (eCall f_less_inner (aCons (eVar 1) (aCons (eVar 0) aNil)))) (eC (.int 1)) (eC (.int 0)))) sNext))))
noncomputable def f_compare : List PV → MH → R PV := runB 0 m_compare
noncomputable def E17 : List (Str × Ent) := ("compare", Ent.fn 6 2 f_compare []) :: E16
noncomputable def m_whole_below : SS := (sSeq (sExpr (eCall f_asked_ratio (aCons (eVar 0) aNil))) (sSeq (sRet (eCall f_floor_inner (aCons (eVar 0) aNil))) sNext))
noncomputable def f_whole_below : List PV → MH → R PV := runB 0 m_whole_below
noncomputable def E18 : List (Str × Ent) := ("whole_below", Ent.fn 6 1 f_whole_below []) :: E17
noncomputable def m_whole_above : SS := (sSeq (sExpr (eCall f_asked_ratio (aCons (eVar 0) aNil))) (sSeq (sRet (eCall f_ceil_inner (aCons (eVar 0) aNil))) sNext))
noncomputable def f_whole_above : List PV → MH → R PV := runB 0 m_whole_above
noncomputable def E19 : List (Str × Ent) := ("whole_above", Ent.fn 6 1 f_whole_above [⟨0, ["a"], [0]⟩]) :: E18
noncomputable def m__law_is_whole : SS := (sSeq (sRet (eAnd (eIsTy .tInt (eVar 0)) (eNot (eIsTy .tBool (eVar 0))))) sNext)
noncomputable def f__law_is_whole : List PV → MH → R PV := runB 0 m__law_is_whole
noncomputable def E20 : List (Str × Ent) := ("_law_is_whole", Ent.fn 1 1 f__law_is_whole []) :: E19
noncomputable def m__law_same (rec : List PV → MH → R PV) : SS := (sSeq (sIf (tBl (eCmp .Is (eVar 1) (eC .non))) (sSeq (sRet (eCmp .Is (eVar 0) (eC .non))) sNext) sNext) (sSeq (sIf (tTru (eIsTy .tBool (eVar 1))) (sSeq (sRet (eIf (tTru (eVar 1)) (eCmp .Is (eVar 0) (eC (.bl true))) (eCmp .Is (eVar 0) (eC (.bl false))))) sNext) sNext) (sSeq (sIf (tTru (eIsTy .tInt (eVar 1))) (sSeq (sRet (eAnd (eCall f__law_is_whole (aCons (eVar 0) aNil)) (eCmp .Eq (eVar 0) (eVar 1)))) sNext) sNext) (sSeq (sIf (tTru (eIsTy .tStr (eVar 1))) (sSeq (sRet (eAnd (eIsTy .tStr (eVar 0)) (eCmp .Eq (eVar 0) (eVar 1)))) sNext) sNext) (sSeq (sIf (tOrP (tAndP (tTru (eIsTy .tTuple (eVar 1))) (tNotP (tTru (eIsTy .tTuple (eVar 0))))) (tAndP (tTru (eIsTy .tList (eVar 1))) (tNotP (tTru (eIsTy .tList (eVar 0)))))) (sSeq (sRet (eC (.bl false))) sNext) sNext) (sSeq (sIf (tBl (eCmp .NotEq (eCall lenV (aCons (eVar 0) aNil)) (eCall lenV (aCons (eVar 1) aNil)))) (sSeq (sRet (eC (.bl false))) sNext) sNext) (sSeq (sFor (iRng1P (eCall lenV (aCons (eVar 1) aNil))) (gNm 2) (sSeq (sIf (tNotP (tTru (eCall rec (aCons (eIx (eVar 0) (eVar 2)) (aCons (eIx (eVar 1) (eVar 2)) aNil))))) (sSeq (sRet (eC (.bl false))) sNext) sNext) sNext)) (sSeq (sRet (eC (.bl true))) sNext))))))))
noncomputable def f__law_same : Nat → List PV → MH → R PV
  | 0 => fun _ _ => .stk
  | d + 1 => runB 1 (m__law_same (f__law_same d))
noncomputable def E21 : List (Str × Ent) := ("_law_same", Ent.fn 13 2 (f__law_same 12) []) :: E20
noncomputable def E22 : List (Str × Ent) := ("_law_heard", Ent.heard) :: E21
noncomputable def t__law_tells : MH → R PV → List PV → R PV := tellsM cs (f__law_same 12) (eTup (aCons (eC (.str "told")) (aCons (eVar 1) aNil)))
noncomputable def E23 : List (Str × Ent) := ("_law_tells", Ent.tells 19 2 t__law_tells) :: E22
noncomputable def t__law_refuses : MH → R PV → List PV → R PV := tellsM cs (f__law_same 12) (eTup (aCons (eVar 1) (aCons (eVar 2) aNil)))
noncomputable def E24 : List (Str × Ent) := ("_law_refuses", Ent.tells 19 3 t__law_refuses) :: E23
noncomputable def m__law_pool : SS := (sSeq (sAsg (eC (.int 0)) (gNm 2)) (sSeq (sIf (tBl (eCmp .Lt (eVar 1) (eCall lenV (aCons (eVar 0) aNil)))) (sSeq (sAsg (eIx (eVar 0) (eVar 1)) (gNm 2)) sNext) (sSeq (sIf (tBl (eCmp .NotEq (eVar 0) (eLst aNil))) (sSeq (sAsg (eIx (eVar 0) (eC (.int 0))) (gNm 2)) sNext) sNext) sNext)) (sSeq (sAsg (eCall maxV (aCons (eCall intV (aCons (eVar 2) aNil)) (aCons (eCall intV (aCons (eBin .Sub (eNeg (eC (.int 1))) (eVar 2)) aNil)) aNil))) (gNm 3)) (sSeq (sAsg (eBin .Mod (eCall intV (aCons (eBin .Mult (eBin .Add (eBin .Add (eBin .Add (eBin .Mod (eCall intV (aCons (eVar 3) aNil)) (eC (.int 2147483629))) (eBin .Mult (eBin .Mult (eC (.int 7919)) (eVar 1)) (eVar 1))) (eBin .Mult (eC (.int 31)) (eVar 1))) (eC (.int 17))) (eC (.int 48271))) aNil)) (eC (.int 2147483647))) (gNm 4)) (sSeq (sRet (eLst (aCons (eBin .Mult (eVar 3) (eCall intV (aCons (eAnd (eCmp .GtE (eVar 3) (eBin .Pow (eC (.int 10)) (eC (.int 18)))) (eCmp .Lt (eVar 1) (eCall lenV (aCons (eVar 0) aNil)))) aNil))) (aCons (eVar 4) aNil)))) sNext)))))
noncomputable def f__law_pool : List PV → MH → R PV := runB 3 m__law_pool
noncomputable def E25 : List (Str × Ent) := ("_law_pool", Ent.fn 1 2 f__law_pool []) :: E24
noncomputable def m__law_take : SS := (sSeq (sIf (tBl (eCmp .Gt (eIx (eVar 0) (eC (.int 0))) (eC (.int 0)))) (sSeq (sAsg (eBin .Mod (eCall intV (aCons (eIx (eVar 0) (eC (.int 0))) aNil)) (eVar 1)) (gNm 2)) (sSeq (sAsg (eBin .FloorDiv (eIx (eVar 0) (eC (.int 0))) (eVar 1)) (gSubS (eVar 0) (eC (.int 0)))) (sSeq (sRet (eVar 2)) sNext))) sNext) (sSeq (sAsg (eBin .Mod (eCall intV (aCons (eBin .Add (eBin .Mult (eIx (eVar 0) (eC (.int 1))) (eC (.int 39373))) (eC (.int 7))) aNil)) (eC (.int 2147483647))) (gSubS (eVar 0) (eC (.int 1)))) (sSeq (sRet (eBin .Mod (eCall intV (aCons (eBin .FloorDiv (eBin .Mod (eCall intV (aCons (eBin .Mult (eIx (eVar 0) (eC (.int 1))) (eIx (eVar 0) (eC (.int 1)))) aNil)) (eC (.int 2147483629))) (eC (.int 32))) aNil)) (eVar 1))) sNext)))
noncomputable def f__law_take : List PV → MH → R PV := runB 1 m__law_take
noncomputable def E26 : List (Str × Ent) := ("_law_take", Ent.fn 1 2 f__law_take []) :: E25
noncomputable def m__law_one : SS := (sSeq (sRet (eIx (eVar 1) (eCall f__law_take (aCons (eVar 0) (aCons (eCall lenV (aCons (eVar 1) aNil)) aNil))))) sNext)
noncomputable def f__law_one : List PV → MH → R PV := runB 0 m__law_one
noncomputable def E27 : List (Str × Ent) := ("_law_one", Ent.fn 2 2 f__law_one []) :: E26
noncomputable def m__law_long_number : SS := (sSeq (sAsg (eBin .Add (eC (.int 1)) (eCall f__law_take (aCons (eVar 0) (aCons (eC (.int 9)) aNil)))) (gNm 2)) (sSeq (sFor (iRng1P (eBin .Sub (eVar 1) (eC (.int 1)))) (gNm 3) (sSeq (sAsg (eBin .Add (eBin .Mult (eVar 2) (eC (.int 10))) (eCall f__law_take (aCons (eVar 0) (aCons (eC (.int 10)) aNil)))) (gNm 2)) sNext)) (sSeq (sRet (eVar 2)) sNext)))
noncomputable def f__law_long_number : List PV → MH → R PV := runB 2 m__law_long_number
noncomputable def E28 : List (Str × Ent) := ("_law_long_number", Ent.fn 2 2 f__law_long_number []) :: E27
noncomputable def m__law_common : SS := (sSeq (sWhile (tBl (eCmp .NotEq (eVar 1) (eC (.int 0)))) (sSeq (sPar 0 1 (aCons (eVar 1) (aCons (eBin .Mod (eCall intV (aCons (eVar 0) aNil)) (eVar 1)) aNil))) sNext)) (sSeq (sRet (eVar 0)) sNext))
noncomputable def f__law_common : List PV → MH → R PV := runB 0 m__law_common
noncomputable def E29 : List (Str × Ent) := ("_law_common", Ent.fn 1 2 f__law_common []) :: E28
noncomputable def m__law_lowest : SS := (sSeq (sIf (tBl (eCmp .Lt (eVar 1) (eC (.int 0)))) (sSeq (sPar 0 1 (aCons (eNeg (eVar 0)) (aCons (eNeg (eVar 1)) aNil))) sNext) sNext) (sSeq (sAsg (eCall f__law_common (aCons (eCall absV1 (aCons (eVar 0) aNil)) (aCons (eVar 1) aNil))) (gNm 2)) (sSeq (sRet (eTup (aCons (eBin .FloorDiv (eVar 0) (eVar 2)) (aCons (eBin .FloorDiv (eVar 1) (eVar 2)) aNil)))) sNext)))
noncomputable def f__law_lowest : List PV → MH → R PV := runB 1 m__law_lowest
noncomputable def E30 : List (Str × Ent) := ("_law_lowest", Ent.fn 2 2 f__law_lowest []) :: E29
noncomputable def m__law_plus : SS := (sSeq (sRet (eCall f__law_lowest (aCons (eBin .Add (eBin .Mult (eIx (eVar 0) (eC (.int 0))) (eIx (eVar 1) (eC (.int 1)))) (eBin .Mult (eIx (eVar 1) (eC (.int 0))) (eIx (eVar 0) (eC (.int 1))))) (aCons (eBin .Mult (eIx (eVar 0) (eC (.int 1))) (eIx (eVar 1) (eC (.int 1)))) aNil)))) sNext)
noncomputable def f__law_plus : List PV → MH → R PV := runB 0 m__law_plus
noncomputable def E31 : List (Str × Ent) := ("_law_plus", Ent.fn 3 2 f__law_plus []) :: E30
noncomputable def m__law_less : SS := (sSeq (sRet (eCall f__law_lowest (aCons (eBin .Sub (eBin .Mult (eIx (eVar 0) (eC (.int 0))) (eIx (eVar 1) (eC (.int 1)))) (eBin .Mult (eIx (eVar 1) (eC (.int 0))) (eIx (eVar 0) (eC (.int 1))))) (aCons (eBin .Mult (eIx (eVar 0) (eC (.int 1))) (eIx (eVar 1) (eC (.int 1)))) aNil)))) sNext)
noncomputable def f__law_less : List PV → MH → R PV := runB 0 m__law_less
noncomputable def E32 : List (Str × Ent) := ("_law_less", Ent.fn 3 2 f__law_less []) :: E31
noncomputable def m__law_times : SS := (sSeq (sRet (eCall f__law_lowest (aCons (eBin .Mult (eIx (eVar 0) (eC (.int 0))) (eIx (eVar 1) (eC (.int 0)))) (aCons (eBin .Mult (eIx (eVar 0) (eC (.int 1))) (eIx (eVar 1) (eC (.int 1)))) aNil)))) sNext)
noncomputable def f__law_times : List PV → MH → R PV := runB 0 m__law_times
noncomputable def E33 : List (Str × Ent) := ("_law_times", Ent.fn 3 2 f__law_times []) :: E32
noncomputable def m__law_over : SS := (sSeq (sRet (eCall f__law_lowest (aCons (eBin .Mult (eIx (eVar 0) (eC (.int 0))) (eIx (eVar 1) (eC (.int 1)))) (aCons (eBin .Mult (eIx (eVar 0) (eC (.int 1))) (eIx (eVar 1) (eC (.int 0)))) aNil)))) sNext)
noncomputable def f__law_over : List PV → MH → R PV := runB 0 m__law_over
noncomputable def E34 : List (Str × Ent) := ("_law_over", Ent.fn 3 2 f__law_over []) :: E33
noncomputable def m__law_cmp : SS := (sSeq (sPar 2 3 (aCons (eBin .Mult (eIx (eVar 0) (eC (.int 0))) (eIx (eVar 1) (eC (.int 1)))) (aCons (eBin .Mult (eIx (eVar 1) (eC (.int 0))) (eIx (eVar 0) (eC (.int 1)))) aNil))) (sSeq (sRet (eBin .Sub (eCall intV (aCons (eCmp .Gt (eVar 2) (eVar 3)) aNil)) (eCall intV (aCons (eCmp .Lt (eVar 2) (eVar 3)) aNil)))) sNext))
noncomputable def f__law_cmp : List PV → MH → R PV := runB 2 m__law_cmp
noncomputable def E35 : List (Str × Ent) := ("_law_cmp", Ent.fn 1 2 f__law_cmp []) :: E34
noncomputable def m__law_floor_of : SS := (sSeq (sRet (eBin .FloorDiv (eIx (eVar 0) (eC (.int 0))) (eIx (eVar 0) (eC (.int 1))))) sNext)
noncomputable def f__law_floor_of : List PV → MH → R PV := runB 0 m__law_floor_of
noncomputable def E36 : List (Str × Ent) := ("_law_floor_of", Ent.fn 1 1 f__law_floor_of []) :: E35
noncomputable def m__law_ceil_of : SS := (sSeq (sRet (eNeg (eBin .FloorDiv (eNeg (eIx (eVar 0) (eC (.int 0)))) (eIx (eVar 0) (eC (.int 1)))))) sNext)
noncomputable def f__law_ceil_of : List PV → MH → R PV := runB 0 m__law_ceil_of
noncomputable def E37 : List (Str × Ent) := ("_law_ceil_of", Ent.fn 1 1 f__law_ceil_of []) :: E36
noncomputable def m__law_any_whole : SS := (sSeq (sAsg (eCall f__law_take (aCons (eVar 0) (aCons (eC (.int 8)) aNil))) (gNm 1)) (sSeq (sAsg (eCall f__law_take (aCons (eVar 0) (aCons (eC (.int 12)) aNil))) (gNm 2)) (sSeq (sIf (tBl (eCmp .Eq (eVar 1) (eC (.int 0)))) (sSeq (sAsg (eCall f__law_long_number (aCons (eVar 0) (aCons (eBin .Add (eC (.int 1)) (eCall f__law_take (aCons (eVar 0) (aCons (eC (.int 70)) aNil)))) aNil))) (gNm 2)) sNext) sNext) (sSeq (sIf (tBl (eCmp .Eq (eVar 1) (eC (.int 1)))) (sSeq (sAsg (eBin .Sub (eBin .Add (eCall intV (aCons (eBin .Add (eC (.str "1")) (eBin .Mult (eC (.str "0")) (eCall f__law_one (aCons (eVar 0) (aCons (eLst (aCons (eC (.int 1)) (aCons (eC (.int 2)) (aCons (eC (.int 9)) (aCons (eC (.int 15)) (aCons (eC (.int 18)) (aCons (eC (.int 30)) (aCons (eC (.int 59)) aNil)))))))) aNil))))) aNil)) (eCall f__law_take (aCons (eVar 0) (aCons (eC (.int 3)) aNil)))) (eC (.int 1))) (gNm 2)) sNext) sNext) (sSeq (sIf (tBl (eCmp .Eq (eVar 1) (eC (.int 2)))) (sSeq (sAsg (eCall f__law_one (aCons (eVar 0) (aCons (eLst (aCons (eBin .Pow (eC (.int 2)) (eC (.int 53))) (aCons (eBin .Add (eBin .Pow (eC (.int 2)) (eC (.int 53))) (eC (.int 1))) (aCons (eBin .Pow (eC (.int 2)) (eC (.int 31))) (aCons (eBin .Sub (eBin .Pow (eC (.int 2)) (eC (.int 64))) (eC (.int 1))) (aCons (eC (.int 60)) (aCons (eC (.int 360)) aNil))))))) aNil))) (gNm 2)) sNext) sNext) (sSeq (sRet (eIf (tBl (eCmp .Gt (eCall f__law_take (aCons (eVar 0) (aCons (eC (.int 3)) aNil))) (eC (.int 0)))) (eVar 2) (eNeg (eVar 2)))) sNext))))))
noncomputable def f__law_any_whole : List PV → MH → R PV := runB 2 m__law_any_whole
noncomputable def E38 : List (Str × Ent) := ("_law_any_whole", Ent.fn 3 1 f__law_any_whole []) :: E37
noncomputable def m__law_any_ratio : SS := (sSeq (sAsg (eCall f__law_any_whole (aCons (eVar 0) aNil)) (gNm 1)) (sSeq (sRet (eCall f__law_lowest (aCons (eCall f__law_any_whole (aCons (eVar 0) aNil)) (aCons (eIf (tBl (eCmp .NotEq (eVar 1) (eC (.int 0)))) (eVar 1) (eC (.int 1))) aNil)))) sNext))
noncomputable def f__law_any_ratio : List PV → MH → R PV := runB 1 m__law_any_ratio
noncomputable def E39 : List (Str × Ent) := ("_law_any_ratio", Ent.fn 4 1 f__law_any_ratio []) :: E38
noncomputable def m__law_near_ratio : SS := (sSeq (sAsg (eCall f__law_take (aCons (eVar 0) (aCons (eC (.int 6)) aNil))) (gNm 2)) (sSeq (sIf (tBl (eCmp .Eq (eVar 2) (eC (.int 0)))) (sSeq (sRet (eVar 1)) sNext) sNext) (sSeq (sIf (tBl (eCmp .Eq (eVar 2) (eC (.int 1)))) (sSeq (sRet (eTup (aCons (eNeg (eIx (eVar 1) (eC (.int 0)))) (aCons (eIx (eVar 1) (eC (.int 1))) aNil)))) sNext) sNext) (sSeq (sIf (tAndP (tBl (eCmp .Eq (eVar 2) (eC (.int 2)))) (tBl (eCmp .NotEq (eIx (eVar 1) (eC (.int 0))) (eC (.int 0))))) (sSeq (sRet (eCall f__law_over (aCons (eTup (aCons (eC (.int 1)) (aCons (eC (.int 1)) aNil))) (aCons (eVar 1) aNil)))) sNext) sNext) (sSeq (sIf (tBl (eCmp .Eq (eVar 2) (eC (.int 3)))) (sSeq (sRet (eCall f__law_plus (aCons (eVar 1) (aCons (eTup (aCons (eC (.int 1)) (aCons (eCall f__law_one (aCons (eVar 0) (aCons (eLst (aCons (eBin .Pow (eC (.int 10)) (eC (.int 18))) (aCons (eBin .Pow (eC (.int 10)) (eC (.int 9))) (aCons (eC (.int 3)) (aCons (eC (.int 7)) aNil))))) aNil))) aNil))) aNil)))) sNext) sNext) (sSeq (sRet (eCall f__law_any_ratio (aCons (eVar 0) aNil))) sNext))))))
noncomputable def f__law_near_ratio : List PV → MH → R PV := runB 1 m__law_near_ratio
noncomputable def E40 : List (Str × Ent) := ("_law_near_ratio", Ent.fn 5 2 f__law_near_ratio []) :: E39
noncomputable def m__law_no_ratio : SS := (sSeq (sPar 1 2 (aCons (eCall f__law_any_whole (aCons (eVar 0) aNil)) (aCons (eBin .Add (eC (.int 2)) (eCall f__law_take (aCons (eVar 0) (aCons (eC (.int 9)) aNil)))) aNil))) (sSeq (sAsg (eLst (aCons (eTup (aCons (eBin .Mult (eVar 1) (eVar 2)) (aCons (eBin .Mult (eVar 2) (eVar 2)) aNil))) (aCons (eTup (aCons (eVar 1) (aCons (eC (.int 0)) aNil))) (aCons (eTup (aCons (eVar 1) (aCons (eNeg (eVar 2)) aNil))) (aCons (eTup (aCons (eVar 1) (aCons (eNeg (eC (.int 1))) aNil))) (aCons (eTup (aCons (eC (.int 0)) (aCons (eVar 2) aNil))) (aCons (eTup (aCons (eC (.bl true)) (aCons (eVar 2) aNil))) (aCons (eTup (aCons (eVar 1) (aCons (eC (.bl true)) aNil))) (aCons (eLst (aCons (eVar 1) (aCons (eC (.int 1)) aNil))) (aCons (eTup (aCons (eVar 1) aNil)) (aCons (eTup (aCons (eVar 1) (aCons (eC (.int 1)) (aCons (eC (.int 1)) aNil)))) (aCons (eVar 1) (aCons (eC .non) (aCons (eC (.str "1/2")) (aCons (eTup aNil) aNil))))))))))))))) (gNm 3)) (sSeq (sRet (eCall f__law_one (aCons (eVar 0) (aCons (eBin .Add (eVar 3) (eLst (aCons (eTup (aCons (eC (.str "1")) (aCons (eC (.int 2)) aNil))) (aCons (eTup (aCons (eTup (aCons (eC (.int 1)) (aCons (eC (.int 2)) aNil))) (aCons (eC (.int 1)) aNil))) (aCons (eTup (aCons (eVar 1) (aCons (eC .non) aNil))) (aCons (eBin .Pow (eC (.int 10)) (eC (.int 40))) aNil)))))) aNil)))) sNext)))
noncomputable def f__law_no_ratio : List PV → MH → R PV := runB 3 m__law_no_ratio
noncomputable def E41 : List (Str × Ent) := ("_law_no_ratio", Ent.fn 4 1 f__law_no_ratio []) :: E40
noncomputable def m__law_pair_right : SS := (sSeq (sAsg (eLst (aCons (eHear cs (eCall f_plus (aCons (eVar 0) (aCons (eVar 1) aNil)))) aNil)) (gNm 2)) (sSeq (sExpr (eMeth1 appendV (eVar 2) (eHear cs (eCallK f_minus [1, 0] aNil (aCons (eVar 1) (aCons (eVar 0) aNil)))))) (sSeq (sExpr (eMeth1 appendV (eVar 2) (eHear cs (eCallK f_times [0, 1] (aCons (eVar 0) aNil) (aCons (eVar 1) aNil))))) (sSeq (sExpr (eMeth1 appendV (eVar 2) (eHear cs (eCall f_compare (aCons (eVar 0) (aCons (eVar 1) aNil)))))) (sSeq (sExpr (eMeth1 appendV (eVar 2) (eHear cs (eCall f_over (aCons (eVar 0) (aCons (eVar 1) aNil)))))) (sSeq (sExpr (eMeth1 appendV (eVar 2) (eHear cs (eCall f_whole_below (aCons (eVar 0) aNil))))) (sSeq (sExpr (eMeth1 appendV (eVar 2) (eHear cs (eCallK f_whole_above [0] aNil (aCons (eVar 0) aNil))))) (sSeq (sExpr (eMeth1 appendV (eVar 2) (eHear cs (eCallK f_is_ratio [0] aNil (aCons (eVar 1) aNil))))) (sSeq (sAsg (eLst (aCons (eTup (aCons (eC (.str "told")) (aCons (eCall f__law_plus (aCons (eVar 0) (aCons (eVar 1) aNil))) aNil))) (aCons (eTup (aCons (eC (.str "told")) (aCons (eCall f__law_less (aCons (eVar 0) (aCons (eVar 1) aNil))) aNil))) (aCons (eTup (aCons (eC (.str "told")) (aCons (eCall f__law_times (aCons (eVar 0) (aCons (eVar 1) aNil))) aNil))) (aCons (eTup (aCons (eC (.str "told")) (aCons (eCall f__law_cmp (aCons (eVar 0) (aCons (eVar 1) aNil))) aNil))) aNil))))) (gNm 3)) (sSeq (sExpr (eMeth1 appendV (eVar 3) (eIf (tBl (eCmp .Eq (eIx (eVar 1) (eC (.int 0))) (eC (.int 0)))) (eTup (aCons (eC (.str "ByNought")) (aCons (eVar 0) aNil))) (eTup (aCons (eC (.str "told")) (aCons (eCall f__law_over (aCons (eVar 0) (aCons (eVar 1) aNil))) aNil)))))) (sSeq (sAsg (eBin .Add (eVar 3) (eLst (aCons (eTup (aCons (eC (.str "told")) (aCons (eCall f__law_floor_of (aCons (eVar 0) aNil)) aNil))) (aCons (eTup (aCons (eC (.str "told")) (aCons (eCall f__law_ceil_of (aCons (eVar 0) aNil)) aNil))) (aCons (eTup (aCons (eC (.str "told")) (aCons (eC (.bl true)) aNil))) aNil))))) (gNm 3)) (sSeq (sIf (tOrP (tNotP (tTru (eCall (f__law_same 12) (aCons (eVar 2) (aCons (eVar 3) aNil))))) (tNotP (tTru (eTells t__law_tells (eCall f_plus (aCons (eCall f_minus (aCons (eVar 0) (aCons (eVar 1) aNil))) (aCons (eVar 1) aNil))) (aCons (eVar 0) aNil))))) (sSeq (sRet (eC (.bl false))) sNext) sNext) (sSeq (sRet (eOr (eCmp .Eq (eIx (eVar 1) (eC (.int 0))) (eC (.int 0))) (eTells t__law_tells (eCall f_over (aCons (eCall f_times (aCons (eVar 0) (aCons (eVar 1) aNil))) (aCons (eVar 1) aNil))) (aCons (eVar 0) aNil)))) sNext)))))))))))))
noncomputable def f__law_pair_right : List PV → MH → R PV := runB 2 m__law_pair_right
noncomputable def E42 : List (Str × Ent) := ("_law_pair_right", Ent.fn 27 2 f__law_pair_right []) :: E41
noncomputable def m__law_made_right : SS := (sSeq (sAsg (eTup (aCons (eCall f__law_any_whole (aCons (eVar 0) aNil)) (aCons (eCall f__law_any_whole (aCons (eVar 0) aNil)) aNil))) (gTupS 2 (gsCons (gNm 1) (gsCons (gNm 2) gsNil)))) (sSeq (sAsg (eIf (tBl (eCmp .Eq (eVar 2) (eC (.int 0)))) (eTup (aCons (eC (.str "BadRatio")) (aCons (eTup (aCons (eVar 1) (aCons (eVar 2) aNil))) aNil))) (eTup (aCons (eC (.str "told")) (aCons (eCall f__law_lowest (aCons (eVar 1) (aCons (eVar 2) aNil))) aNil)))) (gNm 3)) (sSeq (sIf (tNotP (tTru (eCall (f__law_same 12) (aCons (eHear cs (eCall f_ratio (aCons (eVar 1) (aCons (eVar 2) aNil)))) (aCons (eVar 3) aNil))))) (sSeq (sRet (eC (.bl false))) sNext) sNext) (sSeq (sIf (tNotP (tTru (eCall (f__law_same 12) (aCons (eHear cs (eCallK f_ratio [1, 0] aNil (aCons (eVar 2) (aCons (eVar 1) aNil)))) (aCons (eVar 3) aNil))))) (sSeq (sRet (eC (.bl false))) sNext) sNext) (sSeq (sAsg (eCall f__law_one (aCons (eVar 0) (aCons (eLst (aCons (eC (.bl true)) (aCons (eC .non) (aCons (eC (.str "1")) (aCons (eTup (aCons (eC (.int 1)) (aCons (eC (.int 1)) aNil))) (aCons (eLst (aCons (eC (.int 1)) aNil)) aNil)))))) aNil))) (gNm 4)) (sSeq (sAsg (eCall f__law_one (aCons (eVar 0) (aCons (eLst (aCons (eVar 2) (aCons (eC (.int 0)) (aCons (eVar 4) aNil)))) aNil))) (gNm 5)) (sSeq (sIf (tNotP (tTru (eTells t__law_refuses (eCall f_ratio (aCons (eVar 4) (aCons (eVar 5) aNil))) (aCons (eC (.str "BadRatio")) (aCons (eTup (aCons (eVar 4) (aCons (eVar 5) aNil))) aNil))))) (sSeq (sRet (eC (.bl false))) sNext) sNext) (sSeq (sRet (eTells t__law_refuses (eCall f_ratio (aCons (eVar 1) (aCons (eVar 4) aNil))) (aCons (eC (.str "BadRatio")) (aCons (eTup (aCons (eVar 1) (aCons (eVar 4) aNil))) aNil)))) sNext))))))))
noncomputable def f__law_made_right : List PV → MH → R PV := runB 5 m__law_made_right
noncomputable def E43 : List (Str × Ent) := ("_law_made_right", Ent.fn 26 1 f__law_made_right []) :: E42
noncomputable def m__law_is_denied : SS := (sSeq (sRet (eTells t__law_tells (eCall f_is_ratio (aCons (eVar 0) aNil)) (aCons (eC (.bl false)) aNil))) sNext)
noncomputable def f__law_is_denied : List PV → MH → R PV := runB 0 m__law_is_denied
noncomputable def E44 : List (Str × Ent) := ("_law_is_denied", Ent.fn 23 1 f__law_is_denied []) :: E43
noncomputable def fvs : List (Str × Nat × (List PV → MH → R PV)) := [("plus", 2, f_plus), ("minus", 2, f_minus), ("times", 2, f_times), ("over", 2, f_over), ("compare", 2, f_compare)]
noncomputable def m__law_refused_right : SS := (sSeq (sAsg (eTup (aCons (eCall f__law_no_ratio (aCons (eVar 0) aNil)) (aCons (eCall f__law_no_ratio (aCons (eVar 0) aNil)) aNil))) (gTupS 2 (gsCons (gNm 2) (gsCons (gNm 3) gsNil)))) (sSeq (sFor (iSeqP (eLst (aCons (eC (.fn "plus")) (aCons (eC (.fn "minus")) (aCons (eC (.fn "times")) (aCons (eC (.fn "over")) (aCons (eC (.fn "compare")) aNil))))))) (gNm 4) (sSeq (sIf (tNotP (tTru (eTells t__law_refuses (eCallV fvs 4 (aCons (eVar 2) (aCons (eCall f__law_one (aCons (eVar 0) (aCons (eLst (aCons (eVar 1) (aCons (eVar 3) aNil))) aNil))) aNil))) (aCons (eC (.str "BadRatio")) (aCons (eVar 2) aNil))))) (sSeq (sRet (eC (.bl false))) sNext) sNext) (sSeq (sIf (tNotP (tTru (eTells t__law_refuses (eCallV fvs 4 (aCons (eVar 1) (aCons (eVar 2) aNil))) (aCons (eC (.str "BadRatio")) (aCons (eVar 2) aNil))))) (sSeq (sRet (eC (.bl false))) sNext) sNext) sNext))) (sSeq (sIf (tOrP (tNotP (tTru (eTells t__law_refuses (eCall f_over (aCons (eVar 2) (aCons (eTup (aCons (eC (.int 0)) (aCons (eC (.int 1)) aNil))) aNil))) (aCons (eC (.str "BadRatio")) (aCons (eVar 2) aNil))))) (tNotP (tTru (eCall f__law_is_denied (aCons (eVar 2) aNil))))) (sSeq (sRet (eC (.bl false))) sNext) sNext) (sSeq (sAsg (eLst (aCons (eHear cs (eCall f_whole_below (aCons (eVar 2) aNil))) aNil)) (gNm 5)) (sSeq (sExpr (eMeth1 appendV (eVar 5) (eHear cs (eCall f_whole_above (aCons (eVar 2) aNil))))) (sSeq (sRet (eCall (f__law_same 12) (aCons (eVar 5) (aCons (eBin .Mult (eLst (aCons (eTup (aCons (eC (.str "BadRatio")) (aCons (eVar 2) aNil))) aNil)) (eC (.int 2))) aNil)))) sNext))))))
noncomputable def f__law_refused_right : List PV → MH → R PV := runB 4 m__law_refused_right
noncomputable def E45 : List (Str × Ent) := ("_law_refused_right", Ent.fn 27 2 f__law_refused_right []) :: E44
noncomputable def m_law : SS := (sSeq (sAsg (eLst aNil) (gNm 1)) (sSeq (sFor (iRng1P (eC (.int 10))) (gNm 2) (sSeq (sAsg (eCall f__law_pool (aCons (eVar 0) (aCons (eVar 2) aNil))) (gNm 3)) (sSeq (sAsg (eCall f__law_any_ratio (aCons (eVar 3) aNil)) (gNm 4)) (sSeq (sExpr (eMeth1 appendV (eVar 1) (eTup (aCons (eVar 4) (aCons (eCall f__law_near_ratio (aCons (eVar 3) (aCons (eVar 4) aNil))) aNil))))) (sSeq (sExpr (eMeth1 appendV (eVar 1) (eTup (aCons (eVar 4) (aCons (eCall f__law_one (aCons (eVar 3) (aCons (eLst (aCons (eTup (aCons (eC (.int 0)) (aCons (eC (.int 1)) aNil))) (aCons (eTup (aCons (eC (.int 1)) (aCons (eC (.int 1)) aNil))) (aCons (eTup (aCons (eNeg (eC (.int 1))) (aCons (eC (.int 1)) aNil))) (aCons (eTup (aCons (eC (.int 1)) (aCons (eC (.int 2)) aNil))) (aCons (eVar 4) aNil)))))) aNil))) aNil))))) (sSeq (sIf (tOrP (tNotP (tTru (eCall f__law_made_right (aCons (eVar 3) aNil)))) (tNotP (tTru (eCall f__law_refused_right (aCons (eVar 3) (aCons (eVar 4) aNil)))))) (sSeq (sRet (eC (.bl false))) sNext) sNext) sNext)))))) (sSeq (sRet (eCmp .Eq (eLc (iSeqP (eBin .Add (eVar 1) (eSl (eVar 1) oNone (oSome (eC (.int 3)))))) (gTupS 2 (gsCons (gNm 4) (gsCons (gNm 5) gsNil))) (tNotP (tTru (eCall f__law_pair_right (aCons (eVar 4) (aCons (eVar 5) aNil))))) (eC (.int 1)) [4, 5]) (eLst aNil))) sNext)))
noncomputable def f_law : List PV → MH → R PV := runB 5 m_law
noncomputable def E46 : List (Str × Ent) := ("law", Ent.fn 28 1 f_law []) :: E45
abbrev Fx (w : World) (K : PySem.W.Frag) (mg : Str → Option Value) (T : List (Addr × Str)) (base : Heap) : Prop := FxG fa fn tf ins ex K mg T base
section
variable {w : World} {K : PySem.W.Frag} {mg : Str → Option Value} {T : List (Addr × Str)} {base : Heap}
theorem ba1 {a b : Bool} (h : (a && b) = true) : a = true ∧ b = true := Bool.and_eq_true_iff.mp h
theorem ex_ref (z : ex K = true) : refB Pg K "Refused.__init__" = true := (ba1 (ba1 (ba1 (ba1 z).1).1).1).2
theorem ex_BadRatio (z : ex K = true) : excB Pg K ns "BadRatio" "BadRatio.__init__" = true := (ba1 (ba1 (ba1 (ba1 (ba1 z).1).1).1).1).1
theorem rs_BadRatio (h : Fx w K mg T base) : RaisF Pg w K mg base 3 "BadRatio" ∧ ∃ D, mg ("BadRatio" : Str) = some (.ref D) ∧ SaysC K mg D "BadRatio" ns ∧ PySem.W.exmOne K (.ref D) (.ref (He.ga K "Refused")) = some true :=
  raise_ok (d := i_BadRatio) (dR := i_Refused) h.X h.G (ex_BadRatio h.exOk) (ex_ref h.exOk) (by kernel_rfl) (by kernel_rfl) (by kernel_rfl) (h.ini (by unfold ins; simp)) (h.ini (by unfold ins; simp))
theorem ex_ByNought (z : ex K = true) : excB Pg K ns "ByNought" "ByNought.__init__" = true := (ba1 (ba1 (ba1 (ba1 (ba1 z).1).1).1).1).2
theorem rs_ByNought (h : Fx w K mg T base) : RaisF Pg w K mg base 3 "ByNought" ∧ ∃ D, mg ("ByNought" : Str) = some (.ref D) ∧ SaysC K mg D "ByNought" ns ∧ PySem.W.exmOne K (.ref D) (.ref (He.ga K "Refused")) = some true :=
  raise_ok (d := i_ByNought) (dR := i_Refused) h.X h.G (ex_ByNought h.exOk) (ex_ref h.exOk) (by kernel_rfl) (by kernel_rfl) (by kernel_rfl) (h.ini (by unfold ins; simp)) (h.ini (by unfold ins; simp))
theorem gcd_gcd (h : Fx w K mg T base) : mg ("gcd" : Str) = some (.builtin "math.gcd") := by
  have z := h.exOk
  have y : (match PySem.W.nsIn K mainGlobals "gcd" with
    | some (some (.builtin b)) => decide (b = "math.gcd")
    | _ => false) = true := (ba1 (ba1 (ba1 z).1).1).2
  split at y
  · rename_i b hb
    rw [of_decide_eq_true y] at hb
    exact PySem.W.mg_of h.X h.G hb
  · cases y
theorem mem_free {x : Str} (hx : x ∈ (["isinstance", "int", "bool", "tuple", "len", "str", "range", "list", "max", "abs"] : List Str)) : He.Fa.free x ∈ fa := by
  simp only [List.mem_cons, List.not_mem_nil, or_false] at hx
  rcases hx with rfl | rfl | rfl | rfl | rfl | rfl | rfl | rfl | rfl | rfl
  · exact List.mem_of_getElem? (i := 47) rfl
  · exact List.mem_of_getElem? (i := 48) rfl
  · exact List.mem_of_getElem? (i := 49) rfl
  · exact List.mem_of_getElem? (i := 50) rfl
  · exact List.mem_of_getElem? (i := 51) rfl
  · exact List.mem_of_getElem? (i := 52) rfl
  · exact List.mem_of_getElem? (i := 53) rfl
  · exact List.mem_of_getElem? (i := 54) rfl
  · exact List.mem_of_getElem? (i := 55) rfl
  · exact List.mem_of_getElem? (i := 56) rfl
noncomputable def G0 (E : List (Str × Ent)) : Gam := { ents := E, free := ["isinstance", "int", "bool", "tuple", "len", "str", "range", "list", "max", "abs"], gcd := ["gcd"], exc := ["BadRatio", "ByNought"], kR := 3, cs := cs, fv := [], fvk := 0, lam := false }
theorem Fx.exc (h : Fx w K mg T base) : ∀ c ∈ (["BadRatio", "ByNought"] : List Str), RaisF Pg w K mg base 3 c := by
  intro c hc
  simp only [List.mem_cons, List.not_mem_nil, or_false] at hc
  rcases hc with rfl | rfl
  · exact (rs_BadRatio h).1
  · exact (rs_ByNought h).1
theorem Fx.gcd (h : Fx w K mg T base) : ∀ c ∈ (["gcd"] : List Str), mg c = some (.builtin "math.gcd") := by
  intro c hc
  simp only [List.mem_cons, List.not_mem_nil, or_false] at hc
  rcases hc with rfl
  · exact gcd_gcd h
theorem heard_S : HeardS "deed" "_law_classes" (defScope (top 68)) := ⟨⟨rfl, rfl, rfl, by decide +kernel, rfl, by decide +kernel, by decide +kernel⟩, .inl (by decide +kernel), .inl (by decide +kernel), by decide +kernel, by decide +kernel, by decide +kernel, by decide, by decide, by decide⟩
theorem cls_S : FnScope ["refused_one"] ["refused_one"] (defScope (top 67)) := ⟨rfl, rfl, rfl, by decide +kernel, rfl, by decide +kernel, by decide +kernel⟩
theorem heard_ent (h : Fx w K mg T base) : EntOk Pg w K mg T base cs "_law_heard" .heard := by
  obtain ⟨fd, F⟩ := h.def_ 22 (d := d__law_heard) rfl
  obtain ⟨fdC, FC⟩ := h.def_ 21 (d := d__law_classes) rfl
  have bC : L2.Binds K fdC ["refused_one"] [] := FC.bindsN fun _ _ _ _ _ _ us hl => match us, hl with | [_], _ => rfl
  have bH : L2.Binds K fd ["deed"] [] := F.bindsN fun _ _ _ _ _ _ us hl => match us, hl with | [_], _ => rfl
  have CF : ClsFn K mg (He.fAd K ("_law_classes", none)) ns := clsFn_of FC cls_S (by kernel_rfl) (by decide +kernel) (by decide +kernel) (by decide +kernel) bC (h.free_ (mem_free (by simp))) (by decide)
  refine ⟨_, h.glo 22 rfl, F.kp, heard_ok (deed := "deed") (xc := "_law_classes") (ns := ns) (cs := cs) F heard_S bH CF (h.glo 21 rfl) FC.kp (CR := He.ga K "Refused") ?_ ⟨by decide +kernel, by decide +kernel, by decide +kernel, by decide +kernel, by decide +kernel⟩ ?_ rfl⟩
  · have z := ex_ref h.exOk
    unfold refB at z
    exact PySem.W.mg_of h.X h.G (He.eqO_ok (ba1 (ba1 (ba1 z).1).1).2)
  · intro c hc
    unfold cs at hc
    simp only [List.mem_cons, List.not_mem_nil, or_false] at hc
    rcases hc with rfl | rfl
    · obtain ⟨_, D, m1, m2, m3⟩ := rs_BadRatio h
      exact ⟨D, m1, m2, by decide +kernel, by decide +kernel, m3⟩
    · obtain ⟨_, D, m1, m2, m3⟩ := rs_ByNought h
      exact ⟨D, m1, m2, by decide +kernel, by decide +kernel, m3⟩
theorem g0 (h : Fx w K mg T base) : GOk Pg w K mg T base (G0 E0) := ⟨fun x e he => (by cases he), fun x hx => h.free_ (mem_free hx), h.gcd, h.exc, fun y n f hy => (by cases hy)⟩
theorem sc_is_whole : FnScope ["x"] ["x"] (defScope (top 44)) := ⟨rfl, rfl, rfl, by decide +kernel, rfl, by decide +kernel, by decide +kernel⟩
theorem k_is_whole : (compB 40 { G0 E0 with lam := false } ⟨["x"], defScope (top 44), 0, List.range 1, true⟩ (defBody (top 44))).map (·.1) = some m_is_whole := by kernel_rfl
theorem e_is_whole (h : Fx w K mg T base) : EFn Pg w K mg T base "is_whole" 1 1 f_is_whole [] := by
  obtain ⟨fd, F⟩ := h.def_ 0 (d := d_is_whole) rfl
  exact EFn.mk (h.glo 0 rfl) F (fn_comp F sc_is_whole (((g0 h)).lamd false) (fun z => Bool.noConfusion z) k_is_whole) rfl (fun _ _ _ _ _ _ us hl => match us, hl with | [_], _ => rfl) (fun _ _ _ _ _ _ p hp => absurd hp (by simp))
theorem g1 (h : Fx w K mg T base) : GOk Pg w K mg T base (G0 E1) := GOk.cons (g0 h) (e := .fn 1 1 f_is_whole []) (e_is_whole h)
theorem sc_is_ratio : FnScope ["thing"] ["thing"] (defScope (top 46)) := ⟨rfl, rfl, rfl, by decide +kernel, rfl, by decide +kernel, by decide +kernel⟩
theorem k_is_ratio : (compB 40 { G0 E1 with lam := false } ⟨["thing"], defScope (top 46), 1, List.range 1, true⟩ (defBody (top 46))).map (·.1) = some m_is_ratio := by kernel_rfl
theorem e_is_ratio (h : Fx w K mg T base) : EFn Pg w K mg T base "is_ratio" 2 1 f_is_ratio [⟨0, ["thing"], [0]⟩] := by
  obtain ⟨fd, F⟩ := h.def_ 1 (d := d_is_ratio) rfl
  exact EFn.mk (h.glo 1 rfl) F (fn_comp F sc_is_ratio (((g1 h)).lamd false) (fun z => Bool.noConfusion z) k_is_ratio) rfl (fun _ _ _ _ _ _ us hl => match us, hl with | [_], _ => rfl) (by
    intro kV doc pm an cdv ct p hp
    simp only [List.mem_cons, List.not_mem_nil, or_false] at hp
    rcases hp with rfl
    · exact ⟨rfl, by decide, fun us ws hl hw => match us, ws, hl, hw with | [], [_], _, _ => rfl⟩
)
theorem g2 (h : Fx w K mg T base) : GOk Pg w K mg T base (G0 E2) := GOk.cons (g1 h) (e := .fn 2 1 f_is_ratio [⟨0, ["thing"], [0]⟩]) (e_is_ratio h)
theorem sc_lowest : FnScope ["top", "bottom", "factor"] ["top", "bottom"] (defScope (top 47)) := ⟨rfl, rfl, rfl, by decide +kernel, rfl, by decide +kernel, by decide +kernel⟩
theorem k_lowest : (compB 40 { G0 E2 with lam := false } ⟨["top", "bottom", "factor"], defScope (top 47), 0, List.range 3, true⟩ (defBody (top 47))).map (·.1) = some m_lowest := by kernel_rfl
theorem e_lowest (h : Fx w K mg T base) : EFn Pg w K mg T base "lowest" 1 2 f_lowest [] := by
  obtain ⟨fd, F⟩ := h.def_ 2 (d := d_lowest) rfl
  exact EFn.mk (h.glo 2 rfl) F (fn_comp F sc_lowest (((g2 h)).lamd false) (fun z => Bool.noConfusion z) k_lowest) rfl (fun _ _ _ _ _ _ us hl => match us, hl with | [_, _], _ => rfl) (fun _ _ _ _ _ _ p hp => absurd hp (by simp))
theorem g3 (h : Fx w K mg T base) : GOk Pg w K mg T base (G0 E3) := GOk.cons (g2 h) (e := .fn 1 2 f_lowest []) (e_lowest h)
theorem sc_add_inner : FnScope ["a", "b"] ["a", "b"] (defScope (top 48)) := ⟨rfl, rfl, rfl, by decide +kernel, rfl, by decide +kernel, by decide +kernel⟩
theorem k_add_inner : (compB 40 { G0 E3 with lam := false } ⟨["a", "b"], defScope (top 48), 1, List.range 2, true⟩ (defBody (top 48))).map (·.1) = some m_add_inner := by kernel_rfl
theorem e_add_inner (h : Fx w K mg T base) : EFn Pg w K mg T base "add_inner" 2 2 f_add_inner [] := by
  obtain ⟨fd, F⟩ := h.def_ 3 (d := d_add_inner) rfl
  exact EFn.mk (h.glo 3 rfl) F (fn_comp F sc_add_inner (((g3 h)).lamd false) (fun z => Bool.noConfusion z) k_add_inner) rfl (fun _ _ _ _ _ _ us hl => match us, hl with | [_, _], _ => rfl) (fun _ _ _ _ _ _ p hp => absurd hp (by simp))
theorem g4 (h : Fx w K mg T base) : GOk Pg w K mg T base (G0 E4) := GOk.cons (g3 h) (e := .fn 2 2 f_add_inner []) (e_add_inner h)
theorem sc_sub_inner : FnScope ["a", "b"] ["a", "b"] (defScope (top 49)) := ⟨rfl, rfl, rfl, by decide +kernel, rfl, by decide +kernel, by decide +kernel⟩
theorem k_sub_inner : (compB 40 { G0 E4 with lam := false } ⟨["a", "b"], defScope (top 49), 1, List.range 2, true⟩ (defBody (top 49))).map (·.1) = some m_sub_inner := by kernel_rfl
theorem e_sub_inner (h : Fx w K mg T base) : EFn Pg w K mg T base "sub_inner" 2 2 f_sub_inner [] := by
  obtain ⟨fd, F⟩ := h.def_ 4 (d := d_sub_inner) rfl
  exact EFn.mk (h.glo 4 rfl) F (fn_comp F sc_sub_inner (((g4 h)).lamd false) (fun z => Bool.noConfusion z) k_sub_inner) rfl (fun _ _ _ _ _ _ us hl => match us, hl with | [_, _], _ => rfl) (fun _ _ _ _ _ _ p hp => absurd hp (by simp))
theorem g5 (h : Fx w K mg T base) : GOk Pg w K mg T base (G0 E5) := GOk.cons (g4 h) (e := .fn 2 2 f_sub_inner []) (e_sub_inner h)
theorem sc_mul_inner : FnScope ["a", "b"] ["a", "b"] (defScope (top 50)) := ⟨rfl, rfl, rfl, by decide +kernel, rfl, by decide +kernel, by decide +kernel⟩
theorem k_mul_inner : (compB 40 { G0 E5 with lam := false } ⟨["a", "b"], defScope (top 50), 1, List.range 2, true⟩ (defBody (top 50))).map (·.1) = some m_mul_inner := by kernel_rfl
theorem e_mul_inner (h : Fx w K mg T base) : EFn Pg w K mg T base "mul_inner" 2 2 f_mul_inner [] := by
  obtain ⟨fd, F⟩ := h.def_ 5 (d := d_mul_inner) rfl
  exact EFn.mk (h.glo 5 rfl) F (fn_comp F sc_mul_inner (((g5 h)).lamd false) (fun z => Bool.noConfusion z) k_mul_inner) rfl (fun _ _ _ _ _ _ us hl => match us, hl with | [_, _], _ => rfl) (fun _ _ _ _ _ _ p hp => absurd hp (by simp))
theorem g6 (h : Fx w K mg T base) : GOk Pg w K mg T base (G0 E6) := GOk.cons (g5 h) (e := .fn 2 2 f_mul_inner []) (e_mul_inner h)
theorem sc_div_inner : FnScope ["a", "b"] ["a", "b"] (defScope (top 51)) := ⟨rfl, rfl, rfl, by decide +kernel, rfl, by decide +kernel, by decide +kernel⟩
theorem k_div_inner : (compB 40 { G0 E6 with lam := false } ⟨["a", "b"], defScope (top 51), 1, List.range 2, true⟩ (defBody (top 51))).map (·.1) = some m_div_inner := by kernel_rfl
theorem e_div_inner (h : Fx w K mg T base) : EFn Pg w K mg T base "div_inner" 2 2 f_div_inner [] := by
  obtain ⟨fd, F⟩ := h.def_ 6 (d := d_div_inner) rfl
  exact EFn.mk (h.glo 6 rfl) F (fn_comp F sc_div_inner (((g6 h)).lamd false) (fun z => Bool.noConfusion z) k_div_inner) rfl (fun _ _ _ _ _ _ us hl => match us, hl with | [_, _], _ => rfl) (fun _ _ _ _ _ _ p hp => absurd hp (by simp))
theorem g7 (h : Fx w K mg T base) : GOk Pg w K mg T base (G0 E7) := GOk.cons (g6 h) (e := .fn 2 2 f_div_inner []) (e_div_inner h)
theorem sc_less_inner : FnScope ["a", "b"] ["a", "b"] (defScope (top 52)) := ⟨rfl, rfl, rfl, by decide +kernel, rfl, by decide +kernel, by decide +kernel⟩
theorem k_less_inner : (compB 40 { G0 E7 with lam := false } ⟨["a", "b"], defScope (top 52), 0, List.range 2, true⟩ (defBody (top 52))).map (·.1) = some m_less_inner := by kernel_rfl
theorem e_less_inner (h : Fx w K mg T base) : EFn Pg w K mg T base "less_inner" 1 2 f_less_inner [] := by
  obtain ⟨fd, F⟩ := h.def_ 7 (d := d_less_inner) rfl
  exact EFn.mk (h.glo 7 rfl) F (fn_comp F sc_less_inner (((g7 h)).lamd false) (fun z => Bool.noConfusion z) k_less_inner) rfl (fun _ _ _ _ _ _ us hl => match us, hl with | [_, _], _ => rfl) (fun _ _ _ _ _ _ p hp => absurd hp (by simp))
theorem g8 (h : Fx w K mg T base) : GOk Pg w K mg T base (G0 E8) := GOk.cons (g7 h) (e := .fn 1 2 f_less_inner []) (e_less_inner h)
theorem sc_floor_inner : FnScope ["a"] ["a"] (defScope (top 53)) := ⟨rfl, rfl, rfl, by decide +kernel, rfl, by decide +kernel, by decide +kernel⟩
theorem k_floor_inner : (compB 40 { G0 E8 with lam := false } ⟨["a"], defScope (top 53), 0, List.range 1, true⟩ (defBody (top 53))).map (·.1) = some m_floor_inner := by kernel_rfl
theorem e_floor_inner (h : Fx w K mg T base) : EFn Pg w K mg T base "floor_inner" 1 1 f_floor_inner [] := by
  obtain ⟨fd, F⟩ := h.def_ 8 (d := d_floor_inner) rfl
  exact EFn.mk (h.glo 8 rfl) F (fn_comp F sc_floor_inner (((g8 h)).lamd false) (fun z => Bool.noConfusion z) k_floor_inner) rfl (fun _ _ _ _ _ _ us hl => match us, hl with | [_], _ => rfl) (fun _ _ _ _ _ _ p hp => absurd hp (by simp))
theorem g9 (h : Fx w K mg T base) : GOk Pg w K mg T base (G0 E9) := GOk.cons (g8 h) (e := .fn 1 1 f_floor_inner []) (e_floor_inner h)
theorem sc_ceil_inner : FnScope ["a"] ["a"] (defScope (top 54)) := ⟨rfl, rfl, rfl, by decide +kernel, rfl, by decide +kernel, by decide +kernel⟩
theorem k_ceil_inner : (compB 40 { G0 E9 with lam := false } ⟨["a"], defScope (top 54), 0, List.range 1, true⟩ (defBody (top 54))).map (·.1) = some m_ceil_inner := by kernel_rfl
theorem e_ceil_inner (h : Fx w K mg T base) : EFn Pg w K mg T base "ceil_inner" 1 1 f_ceil_inner [] := by
  obtain ⟨fd, F⟩ := h.def_ 9 (d := d_ceil_inner) rfl
  exact EFn.mk (h.glo 9 rfl) F (fn_comp F sc_ceil_inner (((g9 h)).lamd false) (fun z => Bool.noConfusion z) k_ceil_inner) rfl (fun _ _ _ _ _ _ us hl => match us, hl with | [_], _ => rfl) (fun _ _ _ _ _ _ p hp => absurd hp (by simp))
theorem g10 (h : Fx w K mg T base) : GOk Pg w K mg T base (G0 E10) := GOk.cons (g9 h) (e := .fn 1 1 f_ceil_inner []) (e_ceil_inner h)
theorem sc_asked_ratio : FnScope ["thing"] ["thing"] (defScope (top 55)) := ⟨rfl, rfl, rfl, by decide +kernel, rfl, by decide +kernel, by decide +kernel⟩
theorem k_asked_ratio : (compB 40 { G0 E10 with lam := false } ⟨["thing"], defScope (top 55), 4, List.range 1, true⟩ (defBody (top 55))).map (·.1) = some m_asked_ratio := by kernel_rfl
theorem e_asked_ratio (h : Fx w K mg T base) : EFn Pg w K mg T base "asked_ratio" 5 1 f_asked_ratio [] := by
  obtain ⟨fd, F⟩ := h.def_ 10 (d := d_asked_ratio) rfl
  exact EFn.mk (h.glo 10 rfl) F (fn_comp F sc_asked_ratio (((g10 h)).lamd false) (fun z => Bool.noConfusion z) k_asked_ratio) rfl (fun _ _ _ _ _ _ us hl => match us, hl with | [_], _ => rfl) (fun _ _ _ _ _ _ p hp => absurd hp (by simp))
theorem g11 (h : Fx w K mg T base) : GOk Pg w K mg T base (G0 E11) := GOk.cons (g10 h) (e := .fn 5 1 f_asked_ratio []) (e_asked_ratio h)
theorem sc_ratio : FnScope ["top", "bottom"] ["top", "bottom"] (defScope (top 56)) := ⟨rfl, rfl, rfl, by decide +kernel, rfl, by decide +kernel, by decide +kernel⟩
theorem k_ratio : (compB 40 { G0 E11 with lam := false } ⟨["top", "bottom"], defScope (top 56), 4, List.range 2, true⟩ (defBody (top 56))).map (·.1) = some m_ratio := by kernel_rfl
theorem e_ratio (h : Fx w K mg T base) : EFn Pg w K mg T base "ratio" 5 2 f_ratio [⟨0, ["bottom", "top"], [1, 0]⟩] := by
  obtain ⟨fd, F⟩ := h.def_ 11 (d := d_ratio) rfl
  exact EFn.mk (h.glo 11 rfl) F (fn_comp F sc_ratio (((g11 h)).lamd false) (fun z => Bool.noConfusion z) k_ratio) rfl (fun _ _ _ _ _ _ us hl => match us, hl with | [_, _], _ => rfl) (by
    intro kV doc pm an cdv ct p hp
    simp only [List.mem_cons, List.not_mem_nil, or_false] at hp
    rcases hp with rfl
    · exact ⟨rfl, by decide, fun us ws hl hw => match us, ws, hl, hw with | [], [_, _], _, _ => rfl⟩
)
theorem g12 (h : Fx w K mg T base) : GOk Pg w K mg T base (G0 E12) := GOk.cons (g11 h) (e := .fn 5 2 f_ratio [⟨0, ["bottom", "top"], [1, 0]⟩]) (e_ratio h)
theorem sc_plus : FnScope ["a", "b"] ["a", "b"] (defScope (top 57)) := ⟨rfl, rfl, rfl, by decide +kernel, rfl, by decide +kernel, by decide +kernel⟩
theorem k_plus : (compB 40 { G0 E12 with lam := false } ⟨["a", "b"], defScope (top 57), 5, List.range 2, true⟩ (defBody (top 57))).map (·.1) = some m_plus := by kernel_rfl
theorem e_plus (h : Fx w K mg T base) : EFn Pg w K mg T base "plus" 6 2 f_plus [] := by
  obtain ⟨fd, F⟩ := h.def_ 12 (d := d_plus) rfl
  exact EFn.mk (h.glo 12 rfl) F (fn_comp F sc_plus (((g12 h)).lamd false) (fun z => Bool.noConfusion z) k_plus) rfl (fun _ _ _ _ _ _ us hl => match us, hl with | [_, _], _ => rfl) (fun _ _ _ _ _ _ p hp => absurd hp (by simp))
theorem g13 (h : Fx w K mg T base) : GOk Pg w K mg T base (G0 E13) := GOk.cons (g12 h) (e := .fn 6 2 f_plus []) (e_plus h)
theorem sc_minus : FnScope ["a", "b"] ["a", "b"] (defScope (top 58)) := ⟨rfl, rfl, rfl, by decide +kernel, rfl, by decide +kernel, by decide +kernel⟩
theorem k_minus : (compB 40 { G0 E13 with lam := false } ⟨["a", "b"], defScope (top 58), 5, List.range 2, true⟩ (defBody (top 58))).map (·.1) = some m_minus := by kernel_rfl
theorem e_minus (h : Fx w K mg T base) : EFn Pg w K mg T base "minus" 6 2 f_minus [⟨0, ["b", "a"], [1, 0]⟩] := by
  obtain ⟨fd, F⟩ := h.def_ 13 (d := d_minus) rfl
  exact EFn.mk (h.glo 13 rfl) F (fn_comp F sc_minus (((g13 h)).lamd false) (fun z => Bool.noConfusion z) k_minus) rfl (fun _ _ _ _ _ _ us hl => match us, hl with | [_, _], _ => rfl) (by
    intro kV doc pm an cdv ct p hp
    simp only [List.mem_cons, List.not_mem_nil, or_false] at hp
    rcases hp with rfl
    · exact ⟨rfl, by decide, fun us ws hl hw => match us, ws, hl, hw with | [], [_, _], _, _ => rfl⟩
)
theorem g14 (h : Fx w K mg T base) : GOk Pg w K mg T base (G0 E14) := GOk.cons (g13 h) (e := .fn 6 2 f_minus [⟨0, ["b", "a"], [1, 0]⟩]) (e_minus h)
theorem sc_times : FnScope ["a", "b"] ["a", "b"] (defScope (top 59)) := ⟨rfl, rfl, rfl, by decide +kernel, rfl, by decide +kernel, by decide +kernel⟩
theorem k_times : (compB 40 { G0 E14 with lam := false } ⟨["a", "b"], defScope (top 59), 5, List.range 2, true⟩ (defBody (top 59))).map (·.1) = some m_times := by kernel_rfl
theorem e_times (h : Fx w K mg T base) : EFn Pg w K mg T base "times" 6 2 f_times [⟨1, ["b"], [0, 1]⟩] := by
  obtain ⟨fd, F⟩ := h.def_ 14 (d := d_times) rfl
  exact EFn.mk (h.glo 14 rfl) F (fn_comp F sc_times (((g14 h)).lamd false) (fun z => Bool.noConfusion z) k_times) rfl (fun _ _ _ _ _ _ us hl => match us, hl with | [_, _], _ => rfl) (by
    intro kV doc pm an cdv ct p hp
    simp only [List.mem_cons, List.not_mem_nil, or_false] at hp
    rcases hp with rfl
    · exact ⟨rfl, by decide, fun us ws hl hw => match us, ws, hl, hw with | [_], [_], _, _ => rfl⟩
)
theorem g15 (h : Fx w K mg T base) : GOk Pg w K mg T base (G0 E15) := GOk.cons (g14 h) (e := .fn 6 2 f_times [⟨1, ["b"], [0, 1]⟩]) (e_times h)
theorem sc_over : FnScope ["a", "b"] ["a", "b"] (defScope (top 60)) := ⟨rfl, rfl, rfl, by decide +kernel, rfl, by decide +kernel, by decide +kernel⟩
theorem k_over : (compB 40 { G0 E15 with lam := false } ⟨["a", "b"], defScope (top 60), 5, List.range 2, true⟩ (defBody (top 60))).map (·.1) = some m_over := by kernel_rfl
theorem e_over (h : Fx w K mg T base) : EFn Pg w K mg T base "over" 6 2 f_over [] := by
  obtain ⟨fd, F⟩ := h.def_ 15 (d := d_over) rfl
  exact EFn.mk (h.glo 15 rfl) F (fn_comp F sc_over (((g15 h)).lamd false) (fun z => Bool.noConfusion z) k_over) rfl (fun _ _ _ _ _ _ us hl => match us, hl with | [_, _], _ => rfl) (fun _ _ _ _ _ _ p hp => absurd hp (by simp))
theorem g16 (h : Fx w K mg T base) : GOk Pg w K mg T base (G0 E16) := GOk.cons (g15 h) (e := .fn 6 2 f_over []) (e_over h)
theorem sc_compare : FnScope ["a", "b"] ["a", "b"] (defScope (top 61)) := ⟨rfl, rfl, rfl, by decide +kernel, rfl, by decide +kernel, by decide +kernel⟩
theorem k_compare : (compB 40 { G0 E16 with lam := false } ⟨["a", "b"], defScope (top 61), 5, List.range 2, true⟩ (defBody (top 61))).map (·.1) = some m_compare := by kernel_rfl
theorem e_compare (h : Fx w K mg T base) : EFn Pg w K mg T base "compare" 6 2 f_compare [] := by
  obtain ⟨fd, F⟩ := h.def_ 16 (d := d_compare) rfl
  exact EFn.mk (h.glo 16 rfl) F (fn_comp F sc_compare (((g16 h)).lamd false) (fun z => Bool.noConfusion z) k_compare) rfl (fun _ _ _ _ _ _ us hl => match us, hl with | [_, _], _ => rfl) (fun _ _ _ _ _ _ p hp => absurd hp (by simp))
theorem g17 (h : Fx w K mg T base) : GOk Pg w K mg T base (G0 E17) := GOk.cons (g16 h) (e := .fn 6 2 f_compare []) (e_compare h)
theorem sc_whole_below : FnScope ["a"] ["a"] (defScope (top 62)) := ⟨rfl, rfl, rfl, by decide +kernel, rfl, by decide +kernel, by decide +kernel⟩
theorem k_whole_below : (compB 40 { G0 E17 with lam := false } ⟨["a"], defScope (top 62), 5, List.range 1, true⟩ (defBody (top 62))).map (·.1) = some m_whole_below := by kernel_rfl
theorem e_whole_below (h : Fx w K mg T base) : EFn Pg w K mg T base "whole_below" 6 1 f_whole_below [] := by
  obtain ⟨fd, F⟩ := h.def_ 17 (d := d_whole_below) rfl
  exact EFn.mk (h.glo 17 rfl) F (fn_comp F sc_whole_below (((g17 h)).lamd false) (fun z => Bool.noConfusion z) k_whole_below) rfl (fun _ _ _ _ _ _ us hl => match us, hl with | [_], _ => rfl) (fun _ _ _ _ _ _ p hp => absurd hp (by simp))
theorem g18 (h : Fx w K mg T base) : GOk Pg w K mg T base (G0 E18) := GOk.cons (g17 h) (e := .fn 6 1 f_whole_below []) (e_whole_below h)
theorem sc_whole_above : FnScope ["a"] ["a"] (defScope (top 63)) := ⟨rfl, rfl, rfl, by decide +kernel, rfl, by decide +kernel, by decide +kernel⟩
theorem k_whole_above : (compB 40 { G0 E18 with lam := false } ⟨["a"], defScope (top 63), 5, List.range 1, true⟩ (defBody (top 63))).map (·.1) = some m_whole_above := by kernel_rfl
theorem e_whole_above (h : Fx w K mg T base) : EFn Pg w K mg T base "whole_above" 6 1 f_whole_above [⟨0, ["a"], [0]⟩] := by
  obtain ⟨fd, F⟩ := h.def_ 18 (d := d_whole_above) rfl
  exact EFn.mk (h.glo 18 rfl) F (fn_comp F sc_whole_above (((g18 h)).lamd false) (fun z => Bool.noConfusion z) k_whole_above) rfl (fun _ _ _ _ _ _ us hl => match us, hl with | [_], _ => rfl) (by
    intro kV doc pm an cdv ct p hp
    simp only [List.mem_cons, List.not_mem_nil, or_false] at hp
    rcases hp with rfl
    · exact ⟨rfl, by decide, fun us ws hl hw => match us, ws, hl, hw with | [], [_], _, _ => rfl⟩
)
theorem g19 (h : Fx w K mg T base) : GOk Pg w K mg T base (G0 E19) := GOk.cons (g18 h) (e := .fn 6 1 f_whole_above [⟨0, ["a"], [0]⟩]) (e_whole_above h)
theorem sc__law_is_whole : FnScope ["thing"] ["thing"] (defScope (top 65)) := ⟨rfl, rfl, rfl, by decide +kernel, rfl, by decide +kernel, by decide +kernel⟩
theorem k__law_is_whole : (compB 40 { G0 E19 with lam := false } ⟨["thing"], defScope (top 65), 0, List.range 1, true⟩ (defBody (top 65))).map (·.1) = some m__law_is_whole := by kernel_rfl
theorem e__law_is_whole (h : Fx w K mg T base) : EFn Pg w K mg T base "_law_is_whole" 1 1 f__law_is_whole [] := by
  obtain ⟨fd, F⟩ := h.def_ 19 (d := d__law_is_whole) rfl
  exact EFn.mk (h.glo 19 rfl) F (fn_comp F sc__law_is_whole (((g19 h)).lamd false) (fun z => Bool.noConfusion z) k__law_is_whole) rfl (fun _ _ _ _ _ _ us hl => match us, hl with | [_], _ => rfl) (fun _ _ _ _ _ _ p hp => absurd hp (by simp))
theorem g20 (h : Fx w K mg T base) : GOk Pg w K mg T base (G0 E20) := GOk.cons (g19 h) (e := .fn 1 1 f__law_is_whole []) (e__law_is_whole h)
theorem sc__law_same : FnScope ["told", "owed", "at"] ["told", "owed"] (defScope (top 66)) := ⟨rfl, rfl, rfl, by decide +kernel, rfl, by decide +kernel, by decide +kernel⟩
theorem k__law_same_0 : (compB 40 { G0 (("_law_same", Ent.fn 1 2 (f__law_same 0) []) :: E20) with lam := false } ⟨["told", "owed", "at"], defScope (top 66), 1, List.range 3, true⟩ (defBody (top 66))).map (·.1) = some (m__law_same (f__law_same 0)) := by kernel_rfl
theorem k__law_same_1 : (compB 40 { G0 (("_law_same", Ent.fn 2 2 (f__law_same 1) []) :: E20) with lam := false } ⟨["told", "owed", "at"], defScope (top 66), 2, List.range 3, true⟩ (defBody (top 66))).map (·.1) = some (m__law_same (f__law_same 1)) := by kernel_rfl
theorem k__law_same_2 : (compB 40 { G0 (("_law_same", Ent.fn 3 2 (f__law_same 2) []) :: E20) with lam := false } ⟨["told", "owed", "at"], defScope (top 66), 3, List.range 3, true⟩ (defBody (top 66))).map (·.1) = some (m__law_same (f__law_same 2)) := by kernel_rfl
theorem k__law_same_3 : (compB 40 { G0 (("_law_same", Ent.fn 4 2 (f__law_same 3) []) :: E20) with lam := false } ⟨["told", "owed", "at"], defScope (top 66), 4, List.range 3, true⟩ (defBody (top 66))).map (·.1) = some (m__law_same (f__law_same 3)) := by kernel_rfl
theorem k__law_same_4 : (compB 40 { G0 (("_law_same", Ent.fn 5 2 (f__law_same 4) []) :: E20) with lam := false } ⟨["told", "owed", "at"], defScope (top 66), 5, List.range 3, true⟩ (defBody (top 66))).map (·.1) = some (m__law_same (f__law_same 4)) := by kernel_rfl
theorem k__law_same_5 : (compB 40 { G0 (("_law_same", Ent.fn 6 2 (f__law_same 5) []) :: E20) with lam := false } ⟨["told", "owed", "at"], defScope (top 66), 6, List.range 3, true⟩ (defBody (top 66))).map (·.1) = some (m__law_same (f__law_same 5)) := by kernel_rfl
theorem k__law_same_6 : (compB 40 { G0 (("_law_same", Ent.fn 7 2 (f__law_same 6) []) :: E20) with lam := false } ⟨["told", "owed", "at"], defScope (top 66), 7, List.range 3, true⟩ (defBody (top 66))).map (·.1) = some (m__law_same (f__law_same 6)) := by kernel_rfl
theorem k__law_same_7 : (compB 40 { G0 (("_law_same", Ent.fn 8 2 (f__law_same 7) []) :: E20) with lam := false } ⟨["told", "owed", "at"], defScope (top 66), 8, List.range 3, true⟩ (defBody (top 66))).map (·.1) = some (m__law_same (f__law_same 7)) := by kernel_rfl
theorem k__law_same_8 : (compB 40 { G0 (("_law_same", Ent.fn 9 2 (f__law_same 8) []) :: E20) with lam := false } ⟨["told", "owed", "at"], defScope (top 66), 9, List.range 3, true⟩ (defBody (top 66))).map (·.1) = some (m__law_same (f__law_same 8)) := by kernel_rfl
theorem k__law_same_9 : (compB 40 { G0 (("_law_same", Ent.fn 10 2 (f__law_same 9) []) :: E20) with lam := false } ⟨["told", "owed", "at"], defScope (top 66), 10, List.range 3, true⟩ (defBody (top 66))).map (·.1) = some (m__law_same (f__law_same 9)) := by kernel_rfl
theorem k__law_same_10 : (compB 40 { G0 (("_law_same", Ent.fn 11 2 (f__law_same 10) []) :: E20) with lam := false } ⟨["told", "owed", "at"], defScope (top 66), 11, List.range 3, true⟩ (defBody (top 66))).map (·.1) = some (m__law_same (f__law_same 10)) := by kernel_rfl
theorem k__law_same_11 : (compB 40 { G0 (("_law_same", Ent.fn 12 2 (f__law_same 11) []) :: E20) with lam := false } ⟨["told", "owed", "at"], defScope (top 66), 12, List.range 3, true⟩ (defBody (top 66))).map (·.1) = some (m__law_same (f__law_same 11)) := by kernel_rfl
theorem er__law_same_0 (h : Fx w K mg T base) : EFn Pg w K mg T base "_law_same" 1 2 (f__law_same 0) [] := by
  obtain ⟨fd, F⟩ := h.def_ 20 (d := d__law_same) rfl
  exact EFn.mk (ps := ["told", "owed"]) (h.glo 20 rfl) F (fn_stk rfl) rfl (fun _ _ _ _ _ _ us hl => match us, hl with | [_, _], _ => rfl) (fun _ _ _ _ _ _ p hp => absurd hp (by simp))
theorem er__law_same_1 (h : Fx w K mg T base) : EFn Pg w K mg T base "_law_same" 2 2 (f__law_same 1) [] := by
  obtain ⟨fd, F⟩ := h.def_ 20 (d := d__law_same) rfl
  have z := fn_comp F sc__law_same (((GOk.cons (g20 h) (e := .fn 1 2 (f__law_same 0) []) (er__law_same_0 h)).lamd false)) (fun z => Bool.noConfusion z) k__law_same_0
  exact EFn.mk (h.glo 20 rfl) F z rfl (fun _ _ _ _ _ _ us hl => match us, hl with | [_, _], _ => rfl) (fun _ _ _ _ _ _ p hp => absurd hp (by simp))
theorem er__law_same_2 (h : Fx w K mg T base) : EFn Pg w K mg T base "_law_same" 3 2 (f__law_same 2) [] := by
  obtain ⟨fd, F⟩ := h.def_ 20 (d := d__law_same) rfl
  have z := fn_comp F sc__law_same (((GOk.cons (g20 h) (e := .fn 2 2 (f__law_same 1) []) (er__law_same_1 h)).lamd false)) (fun z => Bool.noConfusion z) k__law_same_1
  exact EFn.mk (h.glo 20 rfl) F z rfl (fun _ _ _ _ _ _ us hl => match us, hl with | [_, _], _ => rfl) (fun _ _ _ _ _ _ p hp => absurd hp (by simp))
theorem er__law_same_3 (h : Fx w K mg T base) : EFn Pg w K mg T base "_law_same" 4 2 (f__law_same 3) [] := by
  obtain ⟨fd, F⟩ := h.def_ 20 (d := d__law_same) rfl
  have z := fn_comp F sc__law_same (((GOk.cons (g20 h) (e := .fn 3 2 (f__law_same 2) []) (er__law_same_2 h)).lamd false)) (fun z => Bool.noConfusion z) k__law_same_2
  exact EFn.mk (h.glo 20 rfl) F z rfl (fun _ _ _ _ _ _ us hl => match us, hl with | [_, _], _ => rfl) (fun _ _ _ _ _ _ p hp => absurd hp (by simp))
theorem er__law_same_4 (h : Fx w K mg T base) : EFn Pg w K mg T base "_law_same" 5 2 (f__law_same 4) [] := by
  obtain ⟨fd, F⟩ := h.def_ 20 (d := d__law_same) rfl
  have z := fn_comp F sc__law_same (((GOk.cons (g20 h) (e := .fn 4 2 (f__law_same 3) []) (er__law_same_3 h)).lamd false)) (fun z => Bool.noConfusion z) k__law_same_3
  exact EFn.mk (h.glo 20 rfl) F z rfl (fun _ _ _ _ _ _ us hl => match us, hl with | [_, _], _ => rfl) (fun _ _ _ _ _ _ p hp => absurd hp (by simp))
theorem er__law_same_5 (h : Fx w K mg T base) : EFn Pg w K mg T base "_law_same" 6 2 (f__law_same 5) [] := by
  obtain ⟨fd, F⟩ := h.def_ 20 (d := d__law_same) rfl
  have z := fn_comp F sc__law_same (((GOk.cons (g20 h) (e := .fn 5 2 (f__law_same 4) []) (er__law_same_4 h)).lamd false)) (fun z => Bool.noConfusion z) k__law_same_4
  exact EFn.mk (h.glo 20 rfl) F z rfl (fun _ _ _ _ _ _ us hl => match us, hl with | [_, _], _ => rfl) (fun _ _ _ _ _ _ p hp => absurd hp (by simp))
theorem er__law_same_6 (h : Fx w K mg T base) : EFn Pg w K mg T base "_law_same" 7 2 (f__law_same 6) [] := by
  obtain ⟨fd, F⟩ := h.def_ 20 (d := d__law_same) rfl
  have z := fn_comp F sc__law_same (((GOk.cons (g20 h) (e := .fn 6 2 (f__law_same 5) []) (er__law_same_5 h)).lamd false)) (fun z => Bool.noConfusion z) k__law_same_5
  exact EFn.mk (h.glo 20 rfl) F z rfl (fun _ _ _ _ _ _ us hl => match us, hl with | [_, _], _ => rfl) (fun _ _ _ _ _ _ p hp => absurd hp (by simp))
theorem er__law_same_7 (h : Fx w K mg T base) : EFn Pg w K mg T base "_law_same" 8 2 (f__law_same 7) [] := by
  obtain ⟨fd, F⟩ := h.def_ 20 (d := d__law_same) rfl
  have z := fn_comp F sc__law_same (((GOk.cons (g20 h) (e := .fn 7 2 (f__law_same 6) []) (er__law_same_6 h)).lamd false)) (fun z => Bool.noConfusion z) k__law_same_6
  exact EFn.mk (h.glo 20 rfl) F z rfl (fun _ _ _ _ _ _ us hl => match us, hl with | [_, _], _ => rfl) (fun _ _ _ _ _ _ p hp => absurd hp (by simp))
theorem er__law_same_8 (h : Fx w K mg T base) : EFn Pg w K mg T base "_law_same" 9 2 (f__law_same 8) [] := by
  obtain ⟨fd, F⟩ := h.def_ 20 (d := d__law_same) rfl
  have z := fn_comp F sc__law_same (((GOk.cons (g20 h) (e := .fn 8 2 (f__law_same 7) []) (er__law_same_7 h)).lamd false)) (fun z => Bool.noConfusion z) k__law_same_7
  exact EFn.mk (h.glo 20 rfl) F z rfl (fun _ _ _ _ _ _ us hl => match us, hl with | [_, _], _ => rfl) (fun _ _ _ _ _ _ p hp => absurd hp (by simp))
theorem er__law_same_9 (h : Fx w K mg T base) : EFn Pg w K mg T base "_law_same" 10 2 (f__law_same 9) [] := by
  obtain ⟨fd, F⟩ := h.def_ 20 (d := d__law_same) rfl
  have z := fn_comp F sc__law_same (((GOk.cons (g20 h) (e := .fn 9 2 (f__law_same 8) []) (er__law_same_8 h)).lamd false)) (fun z => Bool.noConfusion z) k__law_same_8
  exact EFn.mk (h.glo 20 rfl) F z rfl (fun _ _ _ _ _ _ us hl => match us, hl with | [_, _], _ => rfl) (fun _ _ _ _ _ _ p hp => absurd hp (by simp))
theorem er__law_same_10 (h : Fx w K mg T base) : EFn Pg w K mg T base "_law_same" 11 2 (f__law_same 10) [] := by
  obtain ⟨fd, F⟩ := h.def_ 20 (d := d__law_same) rfl
  have z := fn_comp F sc__law_same (((GOk.cons (g20 h) (e := .fn 10 2 (f__law_same 9) []) (er__law_same_9 h)).lamd false)) (fun z => Bool.noConfusion z) k__law_same_9
  exact EFn.mk (h.glo 20 rfl) F z rfl (fun _ _ _ _ _ _ us hl => match us, hl with | [_, _], _ => rfl) (fun _ _ _ _ _ _ p hp => absurd hp (by simp))
theorem er__law_same_11 (h : Fx w K mg T base) : EFn Pg w K mg T base "_law_same" 12 2 (f__law_same 11) [] := by
  obtain ⟨fd, F⟩ := h.def_ 20 (d := d__law_same) rfl
  have z := fn_comp F sc__law_same (((GOk.cons (g20 h) (e := .fn 11 2 (f__law_same 10) []) (er__law_same_10 h)).lamd false)) (fun z => Bool.noConfusion z) k__law_same_10
  exact EFn.mk (h.glo 20 rfl) F z rfl (fun _ _ _ _ _ _ us hl => match us, hl with | [_, _], _ => rfl) (fun _ _ _ _ _ _ p hp => absurd hp (by simp))
theorem er__law_same_12 (h : Fx w K mg T base) : EFn Pg w K mg T base "_law_same" 13 2 (f__law_same 12) [] := by
  obtain ⟨fd, F⟩ := h.def_ 20 (d := d__law_same) rfl
  have z := fn_comp F sc__law_same (((GOk.cons (g20 h) (e := .fn 12 2 (f__law_same 11) []) (er__law_same_11 h)).lamd false)) (fun z => Bool.noConfusion z) k__law_same_11
  exact EFn.mk (h.glo 20 rfl) F z rfl (fun _ _ _ _ _ _ us hl => match us, hl with | [_, _], _ => rfl) (fun _ _ _ _ _ _ p hp => absurd hp (by simp))
theorem e__law_same (h : Fx w K mg T base) : EFn Pg w K mg T base "_law_same" 13 2 (f__law_same 12) [] := er__law_same_12 h
theorem g21 (h : Fx w K mg T base) : GOk Pg w K mg T base (G0 E21) := GOk.cons (g20 h) (e := .fn 13 2 (f__law_same 12) []) (e__law_same h)
theorem g22 (h : Fx w K mg T base) : GOk Pg w K mg T base (G0 E22) := GOk.cons (g21 h) (e := .heard) (heard_ent h)
theorem sc__law_tells : FnScope ["deed", "owed"] ["deed", "owed"] (defScope (top 69)) := ⟨rfl, rfl, rfl, by decide +kernel, rfl, by decide +kernel, by decide +kernel⟩
theorem e__law_tells (h : Fx w K mg T base) : EntOk Pg w K mg T base cs "_law_tells" (.tells 19 2 t__law_tells) := by
  obtain ⟨fd, F⟩ := h.def_ 23 (d := d__law_tells) rfl
  obtain ⟨gH, m1, k1, HP⟩ := heard_ent h
  obtain ⟨fS, fdS, psS, m2, k2, FS, l2, b2, _⟩ := e__law_same h
  have TP := tells_ok (m2 := (eTup (aCons (eC (.str "told")) (aCons (eVar 1) aNil)))) F sc__law_tells HP m1 k1 (by decide +kernel) m2 k2 (by decide +kernel) FS b2 (.inl (by decide +kernel)) (by decide) (by decide) (by decide) (by decide) (fun X W e1 e2 e3 e4 e5 e6 e7 => ce_tup (ca_cons ce_str (ca_cons (ce_var (i := 1) (by rw [e6]; rfl) (.inl (by rw [e7]; decide +kernel)) (by decide) (by decide)) ca_nil rfl) rfl)) (fun _ => rfl) (fun _ => rfl)
  obtain ⟨oc, od, dV, kV, doc, pm, an, cdv, ct, osl, rfl, lk, hcd, hD, hK⟩ := id F.ex
  rcases hD with ⟨_, rfl⟩ | ⟨e, _⟩
  · exact ⟨_, _, _, h.glo 23 rfl, F.kp, TP, rfl, fun us hl => match us, hl with | [_, _], _ => rfl⟩
  · exact absurd rfl e
theorem g23 (h : Fx w K mg T base) : GOk Pg w K mg T base (G0 E23) := GOk.cons (g22 h) (e := .tells 19 2 t__law_tells) (e__law_tells h)
theorem sc__law_refuses : FnScope ["deed", "name", "what"] ["deed", "name", "what"] (defScope (top 70)) := ⟨rfl, rfl, rfl, by decide +kernel, rfl, by decide +kernel, by decide +kernel⟩
theorem e__law_refuses (h : Fx w K mg T base) : EntOk Pg w K mg T base cs "_law_refuses" (.tells 19 3 t__law_refuses) := by
  obtain ⟨fd, F⟩ := h.def_ 24 (d := d__law_refuses) rfl
  obtain ⟨gH, m1, k1, HP⟩ := heard_ent h
  obtain ⟨fS, fdS, psS, m2, k2, FS, l2, b2, _⟩ := e__law_same h
  have TP := tells_ok (m2 := (eTup (aCons (eVar 1) (aCons (eVar 2) aNil)))) F sc__law_refuses HP m1 k1 (by decide +kernel) m2 k2 (by decide +kernel) FS b2 (.inl (by decide +kernel)) (by decide) (by decide) (by decide) (by decide) (fun X W e1 e2 e3 e4 e5 e6 e7 => ce_tup (ca_cons (ce_var (i := 1) (by rw [e6]; rfl) (.inl (by rw [e7]; decide +kernel)) (by decide) (by decide)) (ca_cons (ce_var (i := 2) (by rw [e6]; rfl) (.inl (by rw [e7]; decide +kernel)) (by decide) (by decide)) ca_nil rfl) rfl)) (fun _ => rfl) (fun _ => rfl)
  obtain ⟨oc, od, dV, kV, doc, pm, an, cdv, ct, osl, rfl, lk, hcd, hD, hK⟩ := id F.ex
  rcases hD with ⟨_, rfl⟩ | ⟨e, _⟩
  · exact ⟨_, _, _, h.glo 24 rfl, F.kp, TP, rfl, fun us hl => match us, hl with | [_, _, _], _ => rfl⟩
  · exact absurd rfl e
theorem g24 (h : Fx w K mg T base) : GOk Pg w K mg T base (G0 E24) := GOk.cons (g23 h) (e := .tells 19 3 t__law_refuses) (e__law_refuses h)
theorem sc__law_pool : FnScope ["script", "k", "cell", "big", "mixed"] ["script", "k"] (defScope (top 71)) := ⟨rfl, rfl, rfl, by decide +kernel, rfl, by decide +kernel, by decide +kernel⟩
theorem k__law_pool : (compB 40 { G0 E24 with lam := false } ⟨["script", "k", "cell", "big", "mixed"], defScope (top 71), 0, List.range 5, true⟩ (defBody (top 71))).map (·.1) = some m__law_pool := by kernel_rfl
theorem e__law_pool (h : Fx w K mg T base) : EFn Pg w K mg T base "_law_pool" 1 2 f__law_pool [] := by
  obtain ⟨fd, F⟩ := h.def_ 25 (d := d__law_pool) rfl
  exact EFn.mk (h.glo 25 rfl) F (fn_comp F sc__law_pool (((g24 h)).lamd false) (fun z => Bool.noConfusion z) k__law_pool) rfl (fun _ _ _ _ _ _ us hl => match us, hl with | [_, _], _ => rfl) (fun _ _ _ _ _ _ p hp => absurd hp (by simp))
theorem g25 (h : Fx w K mg T base) : GOk Pg w K mg T base (G0 E25) := GOk.cons (g24 h) (e := .fn 1 2 f__law_pool []) (e__law_pool h)
theorem sc__law_take : FnScope ["jar", "top", "number"] ["jar", "top"] (defScope (top 72)) := ⟨rfl, rfl, rfl, by decide +kernel, rfl, by decide +kernel, by decide +kernel⟩
theorem k__law_take : (compB 40 { G0 E25 with lam := false } ⟨["jar", "top", "number"], defScope (top 72), 0, List.range 3, true⟩ (defBody (top 72))).map (·.1) = some m__law_take := by kernel_rfl
theorem e__law_take (h : Fx w K mg T base) : EFn Pg w K mg T base "_law_take" 1 2 f__law_take [] := by
  obtain ⟨fd, F⟩ := h.def_ 26 (d := d__law_take) rfl
  exact EFn.mk (h.glo 26 rfl) F (fn_comp F sc__law_take (((g25 h)).lamd false) (fun z => Bool.noConfusion z) k__law_take) rfl (fun _ _ _ _ _ _ us hl => match us, hl with | [_, _], _ => rfl) (fun _ _ _ _ _ _ p hp => absurd hp (by simp))
theorem g26 (h : Fx w K mg T base) : GOk Pg w K mg T base (G0 E26) := GOk.cons (g25 h) (e := .fn 1 2 f__law_take []) (e__law_take h)
theorem sc__law_one : FnScope ["jar", "things"] ["jar", "things"] (defScope (top 73)) := ⟨rfl, rfl, rfl, by decide +kernel, rfl, by decide +kernel, by decide +kernel⟩
theorem k__law_one : (compB 40 { G0 E26 with lam := false } ⟨["jar", "things"], defScope (top 73), 1, List.range 2, true⟩ (defBody (top 73))).map (·.1) = some m__law_one := by kernel_rfl
theorem e__law_one (h : Fx w K mg T base) : EFn Pg w K mg T base "_law_one" 2 2 f__law_one [] := by
  obtain ⟨fd, F⟩ := h.def_ 27 (d := d__law_one) rfl
  exact EFn.mk (h.glo 27 rfl) F (fn_comp F sc__law_one (((g26 h)).lamd false) (fun z => Bool.noConfusion z) k__law_one) rfl (fun _ _ _ _ _ _ us hl => match us, hl with | [_, _], _ => rfl) (fun _ _ _ _ _ _ p hp => absurd hp (by simp))
theorem g27 (h : Fx w K mg T base) : GOk Pg w K mg T base (G0 E27) := GOk.cons (g26 h) (e := .fn 2 2 f__law_one []) (e__law_one h)
theorem sc__law_long_number : FnScope ["jar", "figures", "number", "go"] ["jar", "figures"] (defScope (top 74)) := ⟨rfl, rfl, rfl, by decide +kernel, rfl, by decide +kernel, by decide +kernel⟩
theorem k__law_long_number : (compB 40 { G0 E27 with lam := false } ⟨["jar", "figures", "number", "go"], defScope (top 74), 1, List.range 4, true⟩ (defBody (top 74))).map (·.1) = some m__law_long_number := by kernel_rfl
theorem e__law_long_number (h : Fx w K mg T base) : EFn Pg w K mg T base "_law_long_number" 2 2 f__law_long_number [] := by
  obtain ⟨fd, F⟩ := h.def_ 28 (d := d__law_long_number) rfl
  exact EFn.mk (h.glo 28 rfl) F (fn_comp F sc__law_long_number (((g27 h)).lamd false) (fun z => Bool.noConfusion z) k__law_long_number) rfl (fun _ _ _ _ _ _ us hl => match us, hl with | [_, _], _ => rfl) (fun _ _ _ _ _ _ p hp => absurd hp (by simp))
theorem g28 (h : Fx w K mg T base) : GOk Pg w K mg T base (G0 E28) := GOk.cons (g27 h) (e := .fn 2 2 f__law_long_number []) (e__law_long_number h)
theorem sc__law_common : FnScope ["one", "two"] ["one", "two"] (defScope (top 75)) := ⟨rfl, rfl, rfl, by decide +kernel, rfl, by decide +kernel, by decide +kernel⟩
theorem k__law_common : (compB 40 { G0 E28 with lam := false } ⟨["one", "two"], defScope (top 75), 0, List.range 2, true⟩ (defBody (top 75))).map (·.1) = some m__law_common := by kernel_rfl
theorem e__law_common (h : Fx w K mg T base) : EFn Pg w K mg T base "_law_common" 1 2 f__law_common [] := by
  obtain ⟨fd, F⟩ := h.def_ 29 (d := d__law_common) rfl
  exact EFn.mk (h.glo 29 rfl) F (fn_comp F sc__law_common (((g28 h)).lamd false) (fun z => Bool.noConfusion z) k__law_common) rfl (fun _ _ _ _ _ _ us hl => match us, hl with | [_, _], _ => rfl) (fun _ _ _ _ _ _ p hp => absurd hp (by simp))
theorem g29 (h : Fx w K mg T base) : GOk Pg w K mg T base (G0 E29) := GOk.cons (g28 h) (e := .fn 1 2 f__law_common []) (e__law_common h)
theorem sc__law_lowest : FnScope ["top", "bottom", "by"] ["top", "bottom"] (defScope (top 76)) := ⟨rfl, rfl, rfl, by decide +kernel, rfl, by decide +kernel, by decide +kernel⟩
theorem k__law_lowest : (compB 40 { G0 E29 with lam := false } ⟨["top", "bottom", "by"], defScope (top 76), 1, List.range 3, true⟩ (defBody (top 76))).map (·.1) = some m__law_lowest := by kernel_rfl
theorem e__law_lowest (h : Fx w K mg T base) : EFn Pg w K mg T base "_law_lowest" 2 2 f__law_lowest [] := by
  obtain ⟨fd, F⟩ := h.def_ 30 (d := d__law_lowest) rfl
  exact EFn.mk (h.glo 30 rfl) F (fn_comp F sc__law_lowest (((g29 h)).lamd false) (fun z => Bool.noConfusion z) k__law_lowest) rfl (fun _ _ _ _ _ _ us hl => match us, hl with | [_, _], _ => rfl) (fun _ _ _ _ _ _ p hp => absurd hp (by simp))
theorem g30 (h : Fx w K mg T base) : GOk Pg w K mg T base (G0 E30) := GOk.cons (g29 h) (e := .fn 2 2 f__law_lowest []) (e__law_lowest h)
theorem sc__law_plus : FnScope ["a", "b"] ["a", "b"] (defScope (top 77)) := ⟨rfl, rfl, rfl, by decide +kernel, rfl, by decide +kernel, by decide +kernel⟩
theorem k__law_plus : (compB 40 { G0 E30 with lam := false } ⟨["a", "b"], defScope (top 77), 2, List.range 2, true⟩ (defBody (top 77))).map (·.1) = some m__law_plus := by kernel_rfl
theorem e__law_plus (h : Fx w K mg T base) : EFn Pg w K mg T base "_law_plus" 3 2 f__law_plus [] := by
  obtain ⟨fd, F⟩ := h.def_ 31 (d := d__law_plus) rfl
  exact EFn.mk (h.glo 31 rfl) F (fn_comp F sc__law_plus (((g30 h)).lamd false) (fun z => Bool.noConfusion z) k__law_plus) rfl (fun _ _ _ _ _ _ us hl => match us, hl with | [_, _], _ => rfl) (fun _ _ _ _ _ _ p hp => absurd hp (by simp))
theorem g31 (h : Fx w K mg T base) : GOk Pg w K mg T base (G0 E31) := GOk.cons (g30 h) (e := .fn 3 2 f__law_plus []) (e__law_plus h)
theorem sc__law_less : FnScope ["a", "b"] ["a", "b"] (defScope (top 78)) := ⟨rfl, rfl, rfl, by decide +kernel, rfl, by decide +kernel, by decide +kernel⟩
theorem k__law_less : (compB 40 { G0 E31 with lam := false } ⟨["a", "b"], defScope (top 78), 2, List.range 2, true⟩ (defBody (top 78))).map (·.1) = some m__law_less := by kernel_rfl
theorem e__law_less (h : Fx w K mg T base) : EFn Pg w K mg T base "_law_less" 3 2 f__law_less [] := by
  obtain ⟨fd, F⟩ := h.def_ 32 (d := d__law_less) rfl
  exact EFn.mk (h.glo 32 rfl) F (fn_comp F sc__law_less (((g31 h)).lamd false) (fun z => Bool.noConfusion z) k__law_less) rfl (fun _ _ _ _ _ _ us hl => match us, hl with | [_, _], _ => rfl) (fun _ _ _ _ _ _ p hp => absurd hp (by simp))
theorem g32 (h : Fx w K mg T base) : GOk Pg w K mg T base (G0 E32) := GOk.cons (g31 h) (e := .fn 3 2 f__law_less []) (e__law_less h)
theorem sc__law_times : FnScope ["a", "b"] ["a", "b"] (defScope (top 79)) := ⟨rfl, rfl, rfl, by decide +kernel, rfl, by decide +kernel, by decide +kernel⟩
theorem k__law_times : (compB 40 { G0 E32 with lam := false } ⟨["a", "b"], defScope (top 79), 2, List.range 2, true⟩ (defBody (top 79))).map (·.1) = some m__law_times := by kernel_rfl
theorem e__law_times (h : Fx w K mg T base) : EFn Pg w K mg T base "_law_times" 3 2 f__law_times [] := by
  obtain ⟨fd, F⟩ := h.def_ 33 (d := d__law_times) rfl
  exact EFn.mk (h.glo 33 rfl) F (fn_comp F sc__law_times (((g32 h)).lamd false) (fun z => Bool.noConfusion z) k__law_times) rfl (fun _ _ _ _ _ _ us hl => match us, hl with | [_, _], _ => rfl) (fun _ _ _ _ _ _ p hp => absurd hp (by simp))
theorem g33 (h : Fx w K mg T base) : GOk Pg w K mg T base (G0 E33) := GOk.cons (g32 h) (e := .fn 3 2 f__law_times []) (e__law_times h)
theorem sc__law_over : FnScope ["a", "b"] ["a", "b"] (defScope (top 80)) := ⟨rfl, rfl, rfl, by decide +kernel, rfl, by decide +kernel, by decide +kernel⟩
theorem k__law_over : (compB 40 { G0 E33 with lam := false } ⟨["a", "b"], defScope (top 80), 2, List.range 2, true⟩ (defBody (top 80))).map (·.1) = some m__law_over := by kernel_rfl
theorem e__law_over (h : Fx w K mg T base) : EFn Pg w K mg T base "_law_over" 3 2 f__law_over [] := by
  obtain ⟨fd, F⟩ := h.def_ 34 (d := d__law_over) rfl
  exact EFn.mk (h.glo 34 rfl) F (fn_comp F sc__law_over (((g33 h)).lamd false) (fun z => Bool.noConfusion z) k__law_over) rfl (fun _ _ _ _ _ _ us hl => match us, hl with | [_, _], _ => rfl) (fun _ _ _ _ _ _ p hp => absurd hp (by simp))
theorem g34 (h : Fx w K mg T base) : GOk Pg w K mg T base (G0 E34) := GOk.cons (g33 h) (e := .fn 3 2 f__law_over []) (e__law_over h)
theorem sc__law_cmp : FnScope ["a", "b", "one", "two"] ["a", "b"] (defScope (top 81)) := ⟨rfl, rfl, rfl, by decide +kernel, rfl, by decide +kernel, by decide +kernel⟩
theorem k__law_cmp : (compB 40 { G0 E34 with lam := false } ⟨["a", "b", "one", "two"], defScope (top 81), 0, List.range 4, true⟩ (defBody (top 81))).map (·.1) = some m__law_cmp := by kernel_rfl
theorem e__law_cmp (h : Fx w K mg T base) : EFn Pg w K mg T base "_law_cmp" 1 2 f__law_cmp [] := by
  obtain ⟨fd, F⟩ := h.def_ 35 (d := d__law_cmp) rfl
  exact EFn.mk (h.glo 35 rfl) F (fn_comp F sc__law_cmp (((g34 h)).lamd false) (fun z => Bool.noConfusion z) k__law_cmp) rfl (fun _ _ _ _ _ _ us hl => match us, hl with | [_, _], _ => rfl) (fun _ _ _ _ _ _ p hp => absurd hp (by simp))
theorem g35 (h : Fx w K mg T base) : GOk Pg w K mg T base (G0 E35) := GOk.cons (g34 h) (e := .fn 1 2 f__law_cmp []) (e__law_cmp h)
theorem sc__law_floor_of : FnScope ["a"] ["a"] (defScope (top 82)) := ⟨rfl, rfl, rfl, by decide +kernel, rfl, by decide +kernel, by decide +kernel⟩
theorem k__law_floor_of : (compB 40 { G0 E35 with lam := false } ⟨["a"], defScope (top 82), 0, List.range 1, true⟩ (defBody (top 82))).map (·.1) = some m__law_floor_of := by kernel_rfl
theorem e__law_floor_of (h : Fx w K mg T base) : EFn Pg w K mg T base "_law_floor_of" 1 1 f__law_floor_of [] := by
  obtain ⟨fd, F⟩ := h.def_ 36 (d := d__law_floor_of) rfl
  exact EFn.mk (h.glo 36 rfl) F (fn_comp F sc__law_floor_of (((g35 h)).lamd false) (fun z => Bool.noConfusion z) k__law_floor_of) rfl (fun _ _ _ _ _ _ us hl => match us, hl with | [_], _ => rfl) (fun _ _ _ _ _ _ p hp => absurd hp (by simp))
theorem g36 (h : Fx w K mg T base) : GOk Pg w K mg T base (G0 E36) := GOk.cons (g35 h) (e := .fn 1 1 f__law_floor_of []) (e__law_floor_of h)
theorem sc__law_ceil_of : FnScope ["a"] ["a"] (defScope (top 83)) := ⟨rfl, rfl, rfl, by decide +kernel, rfl, by decide +kernel, by decide +kernel⟩
theorem k__law_ceil_of : (compB 40 { G0 E36 with lam := false } ⟨["a"], defScope (top 83), 0, List.range 1, true⟩ (defBody (top 83))).map (·.1) = some m__law_ceil_of := by kernel_rfl
theorem e__law_ceil_of (h : Fx w K mg T base) : EFn Pg w K mg T base "_law_ceil_of" 1 1 f__law_ceil_of [] := by
  obtain ⟨fd, F⟩ := h.def_ 37 (d := d__law_ceil_of) rfl
  exact EFn.mk (h.glo 37 rfl) F (fn_comp F sc__law_ceil_of (((g36 h)).lamd false) (fun z => Bool.noConfusion z) k__law_ceil_of) rfl (fun _ _ _ _ _ _ us hl => match us, hl with | [_], _ => rfl) (fun _ _ _ _ _ _ p hp => absurd hp (by simp))
theorem g37 (h : Fx w K mg T base) : GOk Pg w K mg T base (G0 E37) := GOk.cons (g36 h) (e := .fn 1 1 f__law_ceil_of []) (e__law_ceil_of h)
theorem sc__law_any_whole : FnScope ["jar", "form", "found"] ["jar"] (defScope (top 84)) := ⟨rfl, rfl, rfl, by decide +kernel, rfl, by decide +kernel, by decide +kernel⟩
theorem k__law_any_whole : (compB 40 { G0 E37 with lam := false } ⟨["jar", "form", "found"], defScope (top 84), 2, List.range 3, true⟩ (defBody (top 84))).map (·.1) = some m__law_any_whole := by kernel_rfl
theorem e__law_any_whole (h : Fx w K mg T base) : EFn Pg w K mg T base "_law_any_whole" 3 1 f__law_any_whole [] := by
  obtain ⟨fd, F⟩ := h.def_ 38 (d := d__law_any_whole) rfl
  exact EFn.mk (h.glo 38 rfl) F (fn_comp F sc__law_any_whole (((g37 h)).lamd false) (fun z => Bool.noConfusion z) k__law_any_whole) rfl (fun _ _ _ _ _ _ us hl => match us, hl with | [_], _ => rfl) (fun _ _ _ _ _ _ p hp => absurd hp (by simp))
theorem g38 (h : Fx w K mg T base) : GOk Pg w K mg T base (G0 E38) := GOk.cons (g37 h) (e := .fn 3 1 f__law_any_whole []) (e__law_any_whole h)
theorem sc__law_any_ratio : FnScope ["jar", "bottom"] ["jar"] (defScope (top 85)) := ⟨rfl, rfl, rfl, by decide +kernel, rfl, by decide +kernel, by decide +kernel⟩
theorem k__law_any_ratio : (compB 40 { G0 E38 with lam := false } ⟨["jar", "bottom"], defScope (top 85), 3, List.range 2, true⟩ (defBody (top 85))).map (·.1) = some m__law_any_ratio := by kernel_rfl
theorem e__law_any_ratio (h : Fx w K mg T base) : EFn Pg w K mg T base "_law_any_ratio" 4 1 f__law_any_ratio [] := by
  obtain ⟨fd, F⟩ := h.def_ 39 (d := d__law_any_ratio) rfl
  exact EFn.mk (h.glo 39 rfl) F (fn_comp F sc__law_any_ratio (((g38 h)).lamd false) (fun z => Bool.noConfusion z) k__law_any_ratio) rfl (fun _ _ _ _ _ _ us hl => match us, hl with | [_], _ => rfl) (fun _ _ _ _ _ _ p hp => absurd hp (by simp))
theorem g39 (h : Fx w K mg T base) : GOk Pg w K mg T base (G0 E39) := GOk.cons (g38 h) (e := .fn 4 1 f__law_any_ratio []) (e__law_any_ratio h)
theorem sc__law_near_ratio : FnScope ["jar", "a", "form"] ["jar", "a"] (defScope (top 86)) := ⟨rfl, rfl, rfl, by decide +kernel, rfl, by decide +kernel, by decide +kernel⟩
theorem k__law_near_ratio : (compB 40 { G0 E39 with lam := false } ⟨["jar", "a", "form"], defScope (top 86), 4, List.range 3, true⟩ (defBody (top 86))).map (·.1) = some m__law_near_ratio := by kernel_rfl
theorem e__law_near_ratio (h : Fx w K mg T base) : EFn Pg w K mg T base "_law_near_ratio" 5 2 f__law_near_ratio [] := by
  obtain ⟨fd, F⟩ := h.def_ 40 (d := d__law_near_ratio) rfl
  exact EFn.mk (h.glo 40 rfl) F (fn_comp F sc__law_near_ratio (((g39 h)).lamd false) (fun z => Bool.noConfusion z) k__law_near_ratio) rfl (fun _ _ _ _ _ _ us hl => match us, hl with | [_, _], _ => rfl) (fun _ _ _ _ _ _ p hp => absurd hp (by simp))
theorem g40 (h : Fx w K mg T base) : GOk Pg w K mg T base (G0 E40) := GOk.cons (g39 h) (e := .fn 5 2 f__law_near_ratio []) (e__law_near_ratio h)
theorem sc__law_no_ratio : FnScope ["jar", "p", "q", "some"] ["jar"] (defScope (top 87)) := ⟨rfl, rfl, rfl, by decide +kernel, rfl, by decide +kernel, by decide +kernel⟩
theorem k__law_no_ratio : (compB 40 { G0 E40 with lam := false } ⟨["jar", "p", "q", "some"], defScope (top 87), 3, List.range 4, true⟩ (defBody (top 87))).map (·.1) = some m__law_no_ratio := by kernel_rfl
theorem e__law_no_ratio (h : Fx w K mg T base) : EFn Pg w K mg T base "_law_no_ratio" 4 1 f__law_no_ratio [] := by
  obtain ⟨fd, F⟩ := h.def_ 41 (d := d__law_no_ratio) rfl
  exact EFn.mk (h.glo 41 rfl) F (fn_comp F sc__law_no_ratio (((g40 h)).lamd false) (fun z => Bool.noConfusion z) k__law_no_ratio) rfl (fun _ _ _ _ _ _ us hl => match us, hl with | [_], _ => rfl) (fun _ _ _ _ _ _ p hp => absurd hp (by simp))
theorem g41 (h : Fx w K mg T base) : GOk Pg w K mg T base (G0 E41) := GOk.cons (g40 h) (e := .fn 4 1 f__law_no_ratio []) (e__law_no_ratio h)
theorem sc__law_pair_right : FnScope ["a", "b", "told", "owed"] ["a", "b"] (defScope (top 88)) := ⟨rfl, rfl, rfl, by decide +kernel, rfl, by decide +kernel, by decide +kernel⟩
theorem k__law_pair_right : (compB 40 { G0 E41 with lam := true } ⟨["a", "b", "told", "owed"], defScope (top 88), 26, List.range 4, true⟩ (defBody (top 88))).map (·.1) = some m__law_pair_right := by kernel_rfl
theorem e__law_pair_right (h : Fx w K mg T base) : EFn Pg w K mg T base "_law_pair_right" 27 2 f__law_pair_right [] := by
  obtain ⟨fd, F⟩ := h.def_ 42 (d := d__law_pair_right) rfl
  exact EFn.mk (h.glo 42 rfl) F (fn_comp F sc__law_pair_right (((g41 h)).lamd true) (fun _ => h.lamD F (by decide +kernel)) k__law_pair_right) rfl (fun _ _ _ _ _ _ us hl => match us, hl with | [_, _], _ => rfl) (fun _ _ _ _ _ _ p hp => absurd hp (by simp))
theorem g42 (h : Fx w K mg T base) : GOk Pg w K mg T base (G0 E42) := GOk.cons (g41 h) (e := .fn 27 2 f__law_pair_right []) (e__law_pair_right h)
theorem sc__law_made_right : FnScope ["jar", "top", "bottom", "owed", "odd", "under"] ["jar"] (defScope (top 89)) := ⟨rfl, rfl, rfl, by decide +kernel, rfl, by decide +kernel, by decide +kernel⟩
theorem k__law_made_right : (compB 40 { G0 E42 with lam := true } ⟨["jar", "top", "bottom", "owed", "odd", "under"], defScope (top 89), 25, List.range 6, true⟩ (defBody (top 89))).map (·.1) = some m__law_made_right := by kernel_rfl
theorem e__law_made_right (h : Fx w K mg T base) : EFn Pg w K mg T base "_law_made_right" 26 1 f__law_made_right [] := by
  obtain ⟨fd, F⟩ := h.def_ 43 (d := d__law_made_right) rfl
  exact EFn.mk (h.glo 43 rfl) F (fn_comp F sc__law_made_right (((g42 h)).lamd true) (fun _ => h.lamD F (by decide +kernel)) k__law_made_right) rfl (fun _ _ _ _ _ _ us hl => match us, hl with | [_], _ => rfl) (fun _ _ _ _ _ _ p hp => absurd hp (by simp))
theorem g43 (h : Fx w K mg T base) : GOk Pg w K mg T base (G0 E43) := GOk.cons (g42 h) (e := .fn 26 1 f__law_made_right []) (e__law_made_right h)
theorem sc__law_is_denied : FnScope ["bad"] ["bad"] (defScope (top 91)) := ⟨rfl, rfl, rfl, by decide +kernel, rfl, by decide +kernel, by decide +kernel⟩
theorem k__law_is_denied : (compB 40 { G0 E43 with lam := true } ⟨["bad"], defScope (top 91), 22, List.range 1, true⟩ (defBody (top 91))).map (·.1) = some m__law_is_denied := by kernel_rfl
theorem e__law_is_denied (h : Fx w K mg T base) : EFn Pg w K mg T base "_law_is_denied" 23 1 f__law_is_denied [] := by
  obtain ⟨fd, F⟩ := h.def_ 45 (d := d__law_is_denied) rfl
  exact EFn.mk (h.glo 45 rfl) F (fn_comp F sc__law_is_denied (((g43 h)).lamd true) (fun _ => h.lamD F (by decide +kernel)) k__law_is_denied) rfl (fun _ _ _ _ _ _ us hl => match us, hl with | [_], _ => rfl) (fun _ _ _ _ _ _ p hp => absurd hp (by simp))
theorem g44 (h : Fx w K mg T base) : GOk Pg w K mg T base (G0 E44) := GOk.cons (g43 h) (e := .fn 23 1 f__law_is_denied []) (e__law_is_denied h)
theorem fv_ok (h : Fx w K mg T base) : ∀ y n f, fvs.lookup y = some (n, f) → EFn Pg w K mg T base y 6 n f [] := by
  intro y n f hy
  unfold fvs at hy
  simp only [List.lookup_cons, List.lookup_nil] at hy
  split at hy
  · rename_i hb
    cases hy
    rw [show y = ("plus" : Str) by simpa using hb]
    exact (e_plus h).up (by decide)
  split at hy
  · rename_i hb
    cases hy
    rw [show y = ("minus" : Str) by simpa using hb]
    exact (e_minus h).up (by decide)
  split at hy
  · rename_i hb
    cases hy
    rw [show y = ("times" : Str) by simpa using hb]
    exact (e_times h).up (by decide)
  split at hy
  · rename_i hb
    cases hy
    rw [show y = ("over" : Str) by simpa using hb]
    exact (e_over h).up (by decide)
  split at hy
  · rename_i hb
    cases hy
    rw [show y = ("compare" : Str) by simpa using hb]
    exact (e_compare h).up (by decide)
  cases hy
theorem sc__law_refused_right : FnScope ["jar", "a", "bad", "worse", "deed", "told"] ["jar", "a"] (defScope (top 90)) := ⟨rfl, rfl, rfl, by decide +kernel, rfl, by decide +kernel, by decide +kernel⟩
theorem k__law_refused_right : (compB 40 { G0 E44 with lam := true, fv := fvs, fvk := 6 } ⟨["jar", "a", "bad", "worse", "deed", "told"], defScope (top 90), 26, List.range 6, true⟩ (defBody (top 90))).map (·.1) = some m__law_refused_right := by kernel_rfl
theorem e__law_refused_right (h : Fx w K mg T base) : EFn Pg w K mg T base "_law_refused_right" 27 2 f__law_refused_right [] := by
  obtain ⟨fd, F⟩ := h.def_ 44 (d := d__law_refused_right) rfl
  exact EFn.mk (h.glo 44 rfl) F (fn_comp F sc__law_refused_right ((((g44 h)).fvd (fv_ok h)).lamd true) (fun _ => h.lamD F (by decide +kernel)) k__law_refused_right) rfl (fun _ _ _ _ _ _ us hl => match us, hl with | [_, _], _ => rfl) (fun _ _ _ _ _ _ p hp => absurd hp (by simp))
theorem g45 (h : Fx w K mg T base) : GOk Pg w K mg T base (G0 E45) := GOk.cons (g44 h) (e := .fn 27 2 f__law_refused_right []) (e__law_refused_right h)
theorem sc_law : FnScope ["script", "some", "go", "jar", "a", "b"] ["script"] (defScope (top 92)) := ⟨rfl, rfl, rfl, by decide +kernel, rfl, by decide +kernel, by decide +kernel⟩
theorem k_law : (compB 40 { G0 E45 with lam := false } ⟨["script", "some", "go", "jar", "a", "b"], defScope (top 92), 27, List.range 6, true⟩ (defBody (top 92))).map (·.1) = some m_law := by kernel_rfl
theorem e_law (h : Fx w K mg T base) : EFn Pg w K mg T base "law" 28 1 f_law [] := by
  obtain ⟨fd, F⟩ := h.def_ 46 (d := d_law) rfl
  exact EFn.mk (h.glo 46 rfl) F (fn_comp F sc_law (((g45 h)).lamd false) (fun z => Bool.noConfusion z) k_law) rfl (fun _ _ _ _ _ _ us hl => match us, hl with | [_], _ => rfl) (fun _ _ _ _ _ _ p hp => absurd hp (by simp))
theorem g46 (h : Fx w K mg T base) : GOk Pg w K mg T base (G0 E46) := GOk.cons (g45 h) (e := .fn 28 1 f_law []) (e_law h)
end
end Kx
namespace Kx
open PySem PySem.Spec PyProof.Rows L2 Px
abbrev rt (a b : Int) : PV := .tup [.int a, .int b]
theorem whole_int (a : Int) (mh : MH) : f_is_whole [.int a] mh = .ok (.bl true) mh := by
  simp [f_is_whole, runB, m_is_whole, isTyP]
theorem lawhole_int (a : Int) (mh : MH) : f__law_is_whole [.int a] mh = .ok (.bl true) mh := by
  simp [f__law_is_whole, runB, m__law_is_whole, isTyP]
/-- both ways of lowest terms -/
def lo1 (a b : Int) : Int := a / (Int.gcd a b : Int)
def lo2 (a b : Int) : Int := b / (Int.gcd a b : Int)
def Sm (n : Nat) (a : Int) : Prop := a.natAbs < 2 ^ n
theorem Sm.mono {n m : Nat} {a : Int} (h : Sm n a) (hm : n ≤ m) : Sm m a := Nat.lt_of_lt_of_le h (Nat.pow_le_pow_right (by decide) hm)
theorem Sm.mul {n m : Nat} {a b : Int} (h : Sm n a) (h2 : Sm m b) : Sm (n + m) (a * b) := by
  unfold Sm at *
  rw [Int.natAbs_mul, Nat.pow_add]
  exact Nat.mul_lt_mul'' h h2
theorem Sm.add {n : Nat} {a b : Int} (h : Sm n a) (h2 : Sm n b) : Sm (n + 1) (a + b) := by
  unfold Sm at *
  rw [Nat.pow_succ]
  omega
theorem Sm.sub {n : Nat} {a b : Int} (h : Sm n a) (h2 : Sm n b) : Sm (n + 1) (a - b) := by
  unfold Sm at *
  rw [Nat.pow_succ]
  omega
theorem Sm.neg {n : Nat} {a : Int} (h : Sm n a) : Sm n (-a) := by
  unfold Sm at *
  rwa [Int.natAbs_neg]
theorem Sm.log {n : Nat} {a : Int} (h : Sm n a) (h0 : 0 < n) : a.natAbs.log2 < n := PySem.Flt.log2_lt_of h0 h
theorem Sm.mulW {n m : Nat} {a b : Int} (h : Sm n a) (h2 : Sm m b) (h0 : 0 < n) (h1 : 0 < m) (hm : n + m ≤ 1000000) : CMulW a b ∨ CMul a b := .inl (wide_mul h h2 h0 h1 hm)
theorem gcd_pos_of {a b : Int} (h : 0 < b) : 0 < (Int.gcd a b : Int) := by
  have := Int.gcd_pos_of_ne_zero_right a (show b ≠ 0 by omega)
  omega
theorem gcd_le {a b : Int} (h : 0 < b) : (Int.gcd a b : Int) ≤ b := Int.le_of_dvd h (Int.gcd_dvd_right ..)
theorem Sm.gcd {n : Nat} {a b : Int} (h : Sm n b) (hb : 0 < b) : Sm n (Int.gcd a b : Int) := by
  have := gcd_le (a := a) hb
  have := gcd_pos_of (a := a) hb
  unfold Sm at *
  omega
theorem Sm.div {n : Nat} {a b : Int} (h : Sm n a) : Sm n (a / b) := by
  unfold Sm at *
  exact Nat.lt_of_le_of_lt (Int.natAbs_ediv_le_natAbs a b) h
theorem lowest_ok {a b : Int} (mh : MH) (hb : 0 < b) (hs : Sm 8000 b) : f_lowest [.int a, .int b] mh = .ok (rt (lo1 a b) (lo2 a b)) mh := by
  by_cases h1 : b = 1
  · subst h1
    simp [f_lowest, runB, m_lowest, lo1, lo2, le2]
  · have g := gcd_pos_of (a := a) hb
    have gl : ((Nat.gcd a.natAbs b.natAbs : Nat) : Int).natAbs.log2 < 9000 := Nat.lt_of_lt_of_le (Sm.log (Sm.gcd (a := a) hs hb) (by decide)) (by decide)
    simp [f_lowest, runB, m_lowest, h1, le2, v_div (show 0 < ((Nat.gcd a.natAbs b.natAbs : Nat) : Int) from g) gl]
    exact ⟨rfl, rfl⟩
theorem common_loop : ∀ (n : Nat) (a b : Int) (mh : MH), b.natAbs ≤ n → 0 ≤ a → 0 ≤ b → Sm 8000 b → ∃ x,
    whileN (tBl (eCmp .NotEq (eVar 1) (eC (.int 0)))) (sSeq (sPar 0 1 (aCons (eVar 1) (aCons (eBin .Mod (eCall intV (aCons (eVar 0) aNil)) (eVar 1)) aNil))) sNext) (n + 1) [some (.int a), some (.int b)] mh = .ok .nx [some (.int (Int.gcd a b : Int)), some (.int x)] mh := by
  intro n
  induction n with
  | zero =>
    intro a b mh hb ha h0 hs
    have : b = 0 := by omega
    subst this
    refine ⟨0, ?_⟩
    unfold whileN
    simp [Int.gcd_zero_right]
    omega
  | succ n ih =>
    intro a b mh hb ha h0 hs
    by_cases hz : b = 0
    · subst hz
      refine ⟨0, ?_⟩
      unfold whileN
      simp [Int.gcd_zero_right]
      omega
    · have hb0 : 0 < b := by omega
      have h1 := Int.emod_nonneg a hz
      have h2 := Int.emod_lt_of_pos a hb0
      have hs2 : Sm 8000 (a % b) := by
        unfold Sm at *
        omega
      obtain ⟨x, hx⟩ := ih b (a % b) mh (by omega) h0 h1 hs2
      refine ⟨x, ?_⟩
      unfold whileN
      simp only [s_bl, s_cmp, s_var, s_c, List.getElem?_cons_succ, List.getElem?_cons_zero, rb_ok, c_ne, b_bl, rs_ok, hz, decide_false, Bool.not_false, if_true, s_seq, s_par, s_cons, s_nil, s_bin, s_call, s_next, intV, v_mod hb0, List.set_cons_zero, List.set_cons_succ]
      rw [hx]
      have e : Int.gcd b (a % b) = Int.gcd a b := by
        have e1 := Int.emod_add_mul_ediv a b
        unfold Int.gcd
        have e2 : (a % b).natAbs = a.natAbs % b.natAbs := by
          have := Int.natAbs_emod_of_nonneg (a := a) ha b
          exact this
        rw [e2, Nat.gcd_comm b.natAbs, ← Nat.gcd_rec, Nat.gcd_comm]
      rw [e]
theorem common_ok {a b : Int} (mh : MH) (ha : 0 ≤ a) (hb : 0 ≤ b) (hs : Sm 8000 b) : f__law_common [.int a, .int b] mh = .ok (.int (Int.gcd a b : Int)) mh := by
  obtain ⟨x, hx⟩ := common_loop b.natAbs a b mh (Nat.le_refl _) ha hb hs
  unfold f__law_common runB m__law_common
  have hw := sWhile_eq _ hx (by intro h; cases h)
  simp [hw]
end Kx

namespace Kx
open PySem PySem.Spec PyProof.Rows L2 Px
structure Gd (n : Nat) (a b : Int) : Prop where
  pos : 0 < b
  cop : Int.gcd a b = 1
  s1 : Sm n a
  s2 : Sm n b
theorem Gd.mono {n m : Nat} {a b : Int} (g : Gd n a b) (h : n ≤ m) : Gd m a b := ⟨g.pos, g.cop, g.s1.mono h, g.s2.mono h⟩
theorem lo_gd {n : Nat} {a b : Int} (hb : 0 < b) (s1 : Sm n a) (s2 : Sm n b) : Gd n (lo1 a b) (lo2 a b) := by
  have g := gcd_pos_of (a := a) hb
  refine ⟨?_, ?_, s1.div, s2.div⟩
  · unfold lo2
    exact Int.ediv_pos_of_pos_of_dvd hb (by omega) (Int.gcd_dvd_right ..)
  · unfold lo1 lo2
    exact Int.gcd_ediv_gcd_ediv_gcd (by omega)
theorem is_ratio_ok {n : Nat} {a b : Int} (g : Gd n a b) (mh : MH) : f_is_ratio [rt a b] mh = .ok (.bl true) mh := by
  have h1 : ¬ b < 1 := by have := g.pos; omega
  have h2 := g.cop
  unfold Int.gcd at h2
  by_cases hb : b = 1
  · simp [f_is_ratio, runB, m_is_ratio, isTyP, whole_int, h1, h2, hb]
  · simp [f_is_ratio, runB, m_is_ratio, isTyP, whole_int, h1, h2, hb]
theorem asked_ok {n : Nat} {a b : Int} (g : Gd n a b) (mh : MH) : f_asked_ratio [rt a b] mh = .ok .non mh := by
  simp [f_asked_ratio, runB, m_asked_ratio, is_ratio_ok g]
theorem lawlow_pos {a b : Int} (mh : MH) (hb : 0 < b) (hs : Sm 8000 b) : f__law_lowest [.int a, .int b] mh = .ok (rt (lo1 a b) (lo2 a b)) mh := by
  have h1 : ¬ b < 0 := by omega
  have g := gcd_pos_of (a := a) hb
  have gl : (Int.gcd a b : Int).natAbs.log2 < 9000 := Nat.lt_of_lt_of_le (Sm.log (Sm.gcd (a := a) hs hb) (by decide)) (by decide)
  have c : f__law_common [.int (if a < 0 then -a else a), .int b] mh = .ok (.int (Int.gcd a b : Int)) mh := by
    have := common_ok (a := if a < 0 then -a else a) mh (by split <;> omega) (by omega) hs
    rw [this]
    congr 3
    unfold Int.gcd
    congr 1
    split <;> simp
  simp [f__law_lowest, runB, m__law_lowest, h1, le2, absV1, c, v_div g gl, lo1, lo2]
theorem lawlow_neg {a b : Int} (mh : MH) (hb : b < 0) (hs : Sm 8000 b) : f__law_lowest [.int a, .int b] mh = .ok (rt (lo1 (-a) (-b)) (lo2 (-a) (-b))) mh := by
  have hb' : 0 < -b := by omega
  have g := gcd_pos_of (a := -a) hb'
  have gl : (Int.gcd (-a) (-b) : Int).natAbs.log2 < 9000 := Nat.lt_of_lt_of_le (Sm.log (Sm.gcd (a := -a) hs.neg hb') (by decide)) (by decide)
  have c : f__law_common [.int (if -a < 0 then a else -a), .int (-b)] mh = .ok (.int (Int.gcd (-a) (-b) : Int)) mh := by
    have := common_ok (a := if -a < 0 then a else -a) mh (by split <;> omega) (by omega) hs.neg
    rw [this]
    congr 3
    unfold Int.gcd
    congr 1
    split <;> simp
  have c2 : f__law_common [.int (if 0 < a then a else -a), .int (-b)] mh = .ok (.int (Int.gcd (-a) (-b) : Int)) mh := by
    have e : (if 0 < a then a else -a) = (if -a < 0 then a else -a) := by
      by_cases h : 0 < a
      · rw [if_pos h, if_pos (by omega)]
      · rw [if_neg h, if_neg (by omega)]
    rw [e]
    exact c
  have g' : 0 < (Int.gcd a b : Int) := by simpa using g
  have gl' : (Int.gcd a b : Int).natAbs.log2 < 9000 := by simpa using gl
  have c3 : f__law_common [.int (if 0 < a then a else -a), .int (-b)] mh = .ok (.int (Int.gcd a b : Int)) mh := by simpa using c2
  simp [f__law_lowest, runB, m__law_lowest, hb, le2, absV1, c3, v_div g' gl', lo1, lo2]
section
variable {n : Nat} {a b c d : Int} (mh : MH) (g : Gd n a b) (g2 : Gd n c d) (hn : n ≤ 2000) (h0 : 0 < n)
include g g2 hn h0
theorem pos2 : 0 < b * d := Int.mul_pos g.pos g2.pos
theorem sm2 : Sm 8000 (b * d) := (g.s2.mul g2.s2).mono (by omega)
theorem mw {x y : Int} (s : Sm n x) (t : Sm n y) : CMulW x y ∨ CMul x y := s.mulW t h0 h0 (by omega)
theorem add_in : f_add_inner [rt a b, rt c d] mh = .ok (rt (lo1 (a * d + c * b) (b * d)) (lo2 (a * d + c * b) (b * d))) mh := by
  simp [f_add_inner, runB, m_add_inner, v_mul (mw g g2 hn h0 g.s1 g2.s2), v_mul (mw g g2 hn h0 g2.s1 g.s2), v_mul (mw g g2 hn h0 g.s2 g2.s2), lowest_ok mh (pos2 g g2 hn h0) (sm2 g g2 hn h0)]
theorem sub_in : f_sub_inner [rt a b, rt c d] mh = .ok (rt (lo1 (a * d - c * b) (b * d)) (lo2 (a * d - c * b) (b * d))) mh := by
  simp [f_sub_inner, runB, m_sub_inner, v_mul (mw g g2 hn h0 g.s1 g2.s2), v_mul (mw g g2 hn h0 g2.s1 g.s2), v_mul (mw g g2 hn h0 g.s2 g2.s2), lowest_ok mh (pos2 g g2 hn h0) (sm2 g g2 hn h0)]
theorem mul_in : f_mul_inner [rt a b, rt c d] mh = .ok (rt (lo1 (a * c) (b * d)) (lo2 (a * c) (b * d))) mh := by
  simp [f_mul_inner, runB, m_mul_inner, v_mul (mw g g2 hn h0 g.s1 g2.s1), v_mul (mw g g2 hn h0 g.s2 g2.s2), lowest_ok mh (pos2 g g2 hn h0) (sm2 g g2 hn h0)]
theorem lawplus_ok : f__law_plus [rt a b, rt c d] mh = .ok (rt (lo1 (a * d + c * b) (b * d)) (lo2 (a * d + c * b) (b * d))) mh := by
  simp [f__law_plus, runB, m__law_plus, v_mul (mw g g2 hn h0 g.s1 g2.s2), v_mul (mw g g2 hn h0 g2.s1 g.s2), v_mul (mw g g2 hn h0 g.s2 g2.s2), lawlow_pos mh (pos2 g g2 hn h0) (sm2 g g2 hn h0)]
theorem lawless_ok : f__law_less [rt a b, rt c d] mh = .ok (rt (lo1 (a * d - c * b) (b * d)) (lo2 (a * d - c * b) (b * d))) mh := by
  simp [f__law_less, runB, m__law_less, v_mul (mw g g2 hn h0 g.s1 g2.s2), v_mul (mw g g2 hn h0 g2.s1 g.s2), v_mul (mw g g2 hn h0 g.s2 g2.s2), lawlow_pos mh (pos2 g g2 hn h0) (sm2 g g2 hn h0)]
theorem lawtimes_ok : f__law_times [rt a b, rt c d] mh = .ok (rt (lo1 (a * c) (b * d)) (lo2 (a * c) (b * d))) mh := by
  simp [f__law_times, runB, m__law_times, v_mul (mw g g2 hn h0 g.s1 g2.s1), v_mul (mw g g2 hn h0 g.s2 g2.s2), lawlow_pos mh (pos2 g g2 hn h0) (sm2 g g2 hn h0)]
/-- the pair that a division gives -/
def ov (a b c d : Int) : PV := if c < 0 then rt (lo1 (-(a * d)) (-(b * c))) (lo2 (-(a * d)) (-(b * c))) else rt (lo1 (a * d) (b * c)) (lo2 (a * d) (b * c))
theorem div_in (hc : c ≠ 0) : f_div_inner [rt a b, rt c d] mh = .ok (ov a b c d) mh := by
  by_cases h : c < 0
  · have p : b * c < 0 := Int.mul_neg_of_pos_of_neg g.pos h
    have p' : 0 < -(b * c) := by omega
    have s : Sm 8000 (-(b * c)) := ((g.s2.mul g2.s1).mono (by omega)).neg
    simp [f_div_inner, runB, m_div_inner, h, v_mul (mw g g2 hn h0 g.s1 g2.s2), v_mul (mw g g2 hn h0 g.s2 g2.s1), lowest_ok mh p' s, ov]
  · have p : 0 < b * c := Int.mul_pos g.pos (by omega)
    have s : Sm 8000 (b * c) := (g.s2.mul g2.s1).mono (by omega)
    simp [f_div_inner, runB, m_div_inner, h, v_mul (mw g g2 hn h0 g.s1 g2.s2), v_mul (mw g g2 hn h0 g.s2 g2.s1), lowest_ok mh p s, ov]
theorem lawover_ok (hc : c ≠ 0) : f__law_over [rt a b, rt c d] mh = .ok (ov a b c d) mh := by
  by_cases h : c < 0
  · have p : b * c < 0 := Int.mul_neg_of_pos_of_neg g.pos h
    have s : Sm 8000 (b * c) := (g.s2.mul g2.s1).mono (by omega)
    simp [f__law_over, runB, m__law_over, h, v_mul (mw g g2 hn h0 g.s1 g2.s2), v_mul (mw g g2 hn h0 g.s2 g2.s1), lawlow_neg mh p s, ov]
  · have p : 0 < b * c := Int.mul_pos g.pos (by omega)
    have s : Sm 8000 (b * c) := (g.s2.mul g2.s1).mono (by omega)
    simp [f__law_over, runB, m__law_over, h, v_mul (mw g g2 hn h0 g.s1 g2.s2), v_mul (mw g g2 hn h0 g.s2 g2.s1), lawlow_pos mh p s, ov]
theorem ov_gd (hc : c ≠ 0) : ∃ x y, ov a b c d = rt x y ∧ Gd (n + n) x y := by
  unfold ov
  by_cases h : c < 0
  · have p : b * c < 0 := Int.mul_neg_of_pos_of_neg g.pos h
    rw [if_pos h]
    exact ⟨_, _, rfl, lo_gd (by omega) (g.s1.mul g2.s2).neg (g.s2.mul g2.s1).neg⟩
  · have p : 0 < b * c := Int.mul_pos g.pos (by omega)
    rw [if_neg h]
    exact ⟨_, _, rfl, lo_gd p (g.s1.mul g2.s2) (g.s2.mul g2.s1)⟩
theorem plus_ok : f_plus [rt a b, rt c d] mh = .ok (rt (lo1 (a * d + c * b) (b * d)) (lo2 (a * d + c * b) (b * d))) mh := by
  simp [f_plus, runB, m_plus, asked_ok g, asked_ok g2, add_in mh g g2 hn h0]
theorem minus_ok : f_minus [rt a b, rt c d] mh = .ok (rt (lo1 (a * d - c * b) (b * d)) (lo2 (a * d - c * b) (b * d))) mh := by
  simp [f_minus, runB, m_minus, asked_ok g, asked_ok g2, sub_in mh g g2 hn h0]
theorem times_ok : f_times [rt a b, rt c d] mh = .ok (rt (lo1 (a * c) (b * d)) (lo2 (a * c) (b * d))) mh := by
  simp [f_times, runB, m_times, asked_ok g, asked_ok g2, mul_in mh g g2 hn h0]
theorem over_ok (hc : c ≠ 0) : f_over [rt a b, rt c d] mh = .ok (ov a b c d) mh := by
  simp [f_over, runB, m_over, asked_ok g, asked_ok g2, div_in mh g g2 hn h0 hc, hc]
theorem over_no (hc : c = 0) : f_over [rt a b, rt c d] mh = .exc "ByNought" (rt a b) mh := by
  subst hc
  simp [f_over, runB, m_over, asked_ok g, asked_ok g2]
theorem less_in : f_less_inner [rt a b, rt c d] mh = .ok (.bl (decide (a * d < c * b))) mh := by
  simp [f_less_inner, runB, m_less_inner, v_mul (mw g g2 hn h0 g.s1 g2.s2), v_mul (mw g g2 hn h0 g2.s1 g.s2)]
theorem compare_ok : f_compare [rt a b, rt c d] mh = .ok (.int (if a * d < c * b then -1 else if c * b < a * d then 1 else 0)) mh := by
  by_cases h : a * d < c * b
  · simp [f_compare, runB, m_compare, asked_ok g, asked_ok g2, less_in mh g g2 hn h0, h]
  · by_cases h2 : c * b < a * d
    · simp [f_compare, runB, m_compare, asked_ok g, asked_ok g2, less_in mh g g2 hn h0, less_in mh g2 g hn h0, h, h2]
    · simp [f_compare, runB, m_compare, asked_ok g, asked_ok g2, less_in mh g g2 hn h0, less_in mh g2 g hn h0, h, h2]
theorem lawcmp_ok : f__law_cmp [rt a b, rt c d] mh = .ok (.int (if a * d < c * b then -1 else if c * b < a * d then 1 else 0)) mh := by
  simp [f__law_cmp, runB, m__law_cmp, v_mul (mw g g2 hn h0 g.s1 g2.s2), v_mul (mw g g2 hn h0 g2.s1 g.s2), intV]
  by_cases h : a * d < c * b
  · rw [if_pos h, if_pos h, if_neg (by omega)]; rfl
  · rw [if_neg h, if_neg h]
    split <;> simp_all
end
section
variable {n : Nat} {a b : Int} (mh : MH) (g : Gd n a b) (hn : n ≤ 8000) (h0 : 0 < n)
include g hn h0
theorem dlog : b.natAbs.log2 < 9000 := Nat.lt_of_lt_of_le (g.s2.log h0) (by omega)
theorem floor_ok : f_whole_below [rt a b] mh = .ok (.int (a / b)) mh := by
  simp [f_whole_below, runB, m_whole_below, asked_ok g, f_floor_inner, m_floor_inner, v_div g.pos (dlog g hn h0)]
theorem ceil_ok : f_whole_above [rt a b] mh = .ok (.int (-(-a / b))) mh := by
  simp [f_whole_above, runB, m_whole_above, asked_ok g, f_ceil_inner, m_ceil_inner, v_div g.pos (dlog g hn h0)]
theorem lawfloor_ok : f__law_floor_of [rt a b] mh = .ok (.int (a / b)) mh := by
  simp [f__law_floor_of, runB, m__law_floor_of, v_div g.pos (dlog g hn h0)]
theorem lawceil_ok : f__law_ceil_of [rt a b] mh = .ok (.int (-(-a / b))) mh := by
  simp [f__law_ceil_of, runB, m__law_ceil_of, v_div g.pos (dlog g hn h0)]
end
end Kx

namespace Kx
open PySem PySem.Spec PyProof.Rows L2 Px
/-! ## the jar -/
structure Hx (n : Nat) (mh mh' : MH) : Prop where
  le : mh.length ≤ mh'.length
  old : ∀ i, i < mh.length → i ≠ n → mh'[i]? = mh[i]?
  jar : ∃ a b : Int, mh'[n]? = some (.lst [.int a, .int b]) ∧ 0 ≤ a ∧ 0 ≤ b
  lt : n < mh.length
def Jar (n : Nat) (mh : MH) : Prop := ∃ a b : Int, mh[n]? = some (.lst [.int a, .int b]) ∧ 0 ≤ a ∧ 0 ≤ b
theorem Jar.lt {n : Nat} {mh : MH} (j : Jar n mh) : n < mh.length := by
  obtain ⟨a, b, h, _⟩ := j
  exact (List.getElem?_eq_some_iff.mp h).1
theorem Hx.self {n : Nat} {mh : MH} (j : Jar n mh) : Hx n mh mh := ⟨Nat.le_refl _, fun _ _ _ => rfl, j, j.lt⟩
theorem Hx.trans {n : Nat} {a b c : MH} (h : Hx n a b) (k : Hx n b c) : Hx n a c :=
  ⟨Nat.le_trans h.le k.le, fun i hi hn => by rw [k.old i (Nat.lt_of_lt_of_le hi h.le) hn, h.old i hi hn], k.jar, h.lt⟩
theorem Hx.Jar {n : Nat} {a b : MH} (h : Hx n a b) : Kx.Jar n b := h.jar
theorem Hx.app {n : Nat} {mh : MH} {r : MH} (j : Kx.Jar n mh) : Hx n mh (mh ++ r) := by
  refine ⟨by simp, fun i hi _ => List.getElem?_append_left hi, ?_, j.lt⟩
  obtain ⟨a, b, h, h2⟩ := id j
  exact ⟨a, b, by rw [List.getElem?_append_left j.lt]; exact h, h2⟩
theorem Hx.set {n : Nat} {mh : MH} {a b : Int} (j : Kx.Jar n mh) (ha : 0 ≤ a) (hb : 0 ≤ b) : Hx n mh (mh.set n (.lst [.int a, .int b])) := by
  refine ⟨by simp, fun i hi hn => List.getElem?_set_ne (Ne.symm hn), ⟨a, b, ?_, ha, hb⟩, j.lt⟩
  rw [List.getElem?_set_self j.lt]
theorem Hx.cut {n : Nat} {mh mh' : MH} (h : Hx n mh mh') : Hx n mh (mh'.take mh.length) := by
  refine ⟨by rw [List.length_take]; have := h.le; omega, fun i hi hn => by rw [List.getElem?_take_of_lt hi, h.old i hi hn], ?_, h.lt⟩
  obtain ⟨a, b, e, q⟩ := h.jar
  exact ⟨a, b, by rw [List.getElem?_take_of_lt h.lt]; exact e, q⟩
theorem gc_hx {n : Nat} {mh mh' : MH} {v : PV} (h : Hx n mh mh') : ∃ mh2, gc mh (.ok v mh') = .ok v mh2 ∧ Hx n mh mh2 ∧ ∀ r ∈ refsV v, mh2[r]? = mh'[r]? := by
  unfold gc
  by_cases c : GcOk mh mh' v
  · refine ⟨_, if_pos c, h.cut, fun r hr => ?_⟩
    exact List.getElem?_take_of_lt (c.2.1 r hr)
  · exact ⟨_, if_neg c, h, fun _ _ => rfl⟩
theorem Jar.i0 {n : Nat} {mh : MH} {a b : Int} (h : mh[n]? = some (.lst [.int a, .int b])) : ixP (.ref n) (.int 0) mh = .ok (.int a) mh := by
  simp [ixP, itemsP, getL, h, atI, ixN]
theorem Jar.i1 {n : Nat} {mh : MH} {a b : Int} (h : mh[n]? = some (.lst [.int a, .int b])) : ixP (.ref n) (.int 1) mh = .ok (.int b) mh := by
  simp [ixP, itemsP, getL, h, atI, ixN]
theorem Jar.s0 {n : Nat} {mh : MH} {a b c : Int} {ps : PSt} (h : mh[n]? = some (.lst [.int a, .int b])) : setV (.ref n) (.int 0) (.int c) ps mh = .ok .nx ps (mh.set n (.lst [.int c, .int b])) := by
  simp [setV, getM, h, ixN]
theorem Jar.s1 {n : Nat} {mh : MH} {a b c : Int} {ps : PSt} (h : mh[n]? = some (.lst [.int a, .int b])) : setV (.ref n) (.int 1) (.int c) ps mh = .ok .nx ps (mh.set n (.lst [.int a, .int c])) := by
  simp [setV, getM, h, ixN]
theorem small_log {j : Int} (h : 0 < j) (h2 : j < 1000000) : j.natAbs.log2 < 9000 := by
  have : j.natAbs < 2 ^ 20 := by omega
  have := PySem.Flt.log2_lt_of (k := 20) (by decide) this
  omega
theorem mul64 {i j : Int} (h : -(2 ^ 64) < j ∧ j < 2 ^ 64) : CMulW i j ∨ CMul i j := .inr (.inr h)
theorem mul64l {i j : Int} (h : -(2 ^ 64) < i ∧ i < 2 ^ 64) : CMulW i j ∨ CMul i j := .inr (.inl h)
theorem take_ok {n : Nat} {mh : MH} {top : Int} (j : Jar n mh) (h : 0 < top) (h2 : top < 1000000) : ∃ v mh', f__law_take [.ref n, .int top] mh = .ok (.int v) mh' ∧ Hx n mh mh' ∧ 0 ≤ v ∧ v < top := by
  obtain ⟨a, b, e, ha, hb⟩ := id j
  by_cases hc : 0 < a
  · have k : Hx n mh (mh.set n (.lst [.int (a / top), .int b])) := Hx.set j (Int.ediv_nonneg ha (by omega)) hb
    obtain ⟨mh2, g, k2, _⟩ := gc_hx (v := .int (a % top)) k
    refine ⟨a % top, mh2, ?_, k2, Int.emod_nonneg _ (by omega), Int.emod_lt_of_pos _ h⟩
    rw [← g]
    simp [f__law_take, runB, m__law_take, Jar.i0 e, hc, intV, v_mod h, v_div h (small_log h h2), Jar.s0 e]
  · have hm : (0 : Int) < 2147483647 := by decide
    have hb2 : 0 ≤ (b * 39373 + 7) % 2147483647 := Int.emod_nonneg _ (by decide)
    have k : Hx n mh (mh.set n (.lst [.int a, .int ((b * 39373 + 7) % 2147483647)])) := Hx.set j ha hb2
    have e2 : (mh.set n (.lst [.int a, .int ((b * 39373 + 7) % 2147483647)]))[n]? = some (.lst [.int a, .int ((b * 39373 + 7) % 2147483647)]) := List.getElem?_set_self j.lt
    have hb3 : (b * 39373 + 7) % 2147483647 < 2147483647 := Int.emod_lt_of_pos _ hm
    generalize hq : (b * 39373 + 7) % 2147483647 = q at *
    obtain ⟨mh2, g, k2, _⟩ := gc_hx (v := .int ((q * q % 2147483629 / 32) % top)) k
    refine ⟨(q * q % 2147483629 / 32) % top, mh2, ?_, k2, Int.emod_nonneg _ (by omega), Int.emod_lt_of_pos _ h⟩
    rw [← g]
    have m1 : CMulW b 39373 ∨ CMul b 39373 := mul64 (by decide)
    have m2 : CMulW q q ∨ CMul q q := mul64 (by omega)
    have l32 : (32 : Int).natAbs.log2 < 9000 := small_log (by decide) (by decide)
    simp [f__law_take, runB, m__law_take, Jar.i0 e, Jar.i1 e, hc, intV, v_mod h, v_mod hm, v_mul m1, hq, Jar.s1 e, Jar.i1 e2, v_mul m2, v_mod (show (0 : Int) < 2147483629 by decide), v_div (show (0 : Int) < 32 by decide) l32]
/-- what a jar's def owes -/
def JQ (n : Nat) (mh : MH) (r : R PV) (P : PV → MH → Prop) : Prop := ∃ v mh', r = .ok v mh' ∧ Hx n mh mh' ∧ P v mh'
theorem len_ref {r : Nat} {mh : MH} {xs : List PV} (h : mh[r]? = some (.lst xs)) : lenV [.ref r] mh = .ok (.int xs.length) mh := by
  simp [lenV, getL, h]
theorem ix_ref {r : Nat} {mh : MH} {xs : List PV} {i : Int} {v : PV} (h : mh[r]? = some (.lst xs)) (h0 : 0 ≤ i) (h1 : xs[i.toNat]? = some v) : ixP (.ref r) (.int i) mh = .ok v mh := by
  have h2 : i < xs.length := by have := (List.getElem?_eq_some_iff.mp h1).1; omega
  simp [ixP, itemsP, getL, h, atI, ixN, h0, h2]
  exact (List.getElem?_eq_some_iff.mp h1).2
theorem one_ok {n r : Nat} {mh : MH} {xs : List PV} (j : Jar n mh) (h : mh[r]? = some (.lst xs)) (hr : r ≠ n) (h0 : 0 < xs.length) (h1 : xs.length < 1000000) : ∃ v mh', f__law_one [.ref n, .ref r] mh = .ok v mh' ∧ Hx n mh mh' ∧ v ∈ xs ∧ ∀ q ∈ refsV v, q < mh.length → q ≠ n → mh'[q]? = mh[q]? := by
  obtain ⟨i, mh1, e, k, i0, i1⟩ := take_ok (top := xs.length) j (by omega) (by omega)
  have hlt : r < mh.length := (List.getElem?_eq_some_iff.mp h).1
  have h' : mh1[r]? = some (.lst xs) := by rw [k.old r hlt hr, h]
  obtain ⟨v, hv⟩ : ∃ v, xs[i.toNat]? = some v := ⟨_, List.getElem?_eq_getElem (by omega)⟩
  obtain ⟨mh2, g, k2, _⟩ := gc_hx (v := v) k
  refine ⟨v, mh2, ?_, k2, List.mem_of_getElem? hv, fun q _ hq hn => k2.old q hq hn⟩
  rw [← g]
  simp [f__law_one, runB, m__law_one, len_ref h, e, ix_ref h' i0 hv]
/-- a list made on the spot and one of it taken -/
theorem oneL_ok {n : Nat} {mh : MH} {xs : List PV} (j : Jar n mh) (h0 : 0 < xs.length) (h1 : xs.length < 1000000) : ∃ v mh', f__law_one [.ref n, .ref mh.length] (mh ++ [.lst xs]) = .ok v mh' ∧ Hx n mh mh' ∧ v ∈ xs := by
  have k := Hx.app (r := [.lst xs]) j
  obtain ⟨v, mh', e, k2, hv, _⟩ := one_ok (n := n) (r := mh.length) (mh := mh ++ [.lst xs]) (xs := xs) k.Jar (by simp) (by have := j.lt; omega) h0 h1
  exact ⟨v, mh', e, k.trans k2, hv⟩
end Kx

namespace Kx
open PySem PySem.Spec PyProof.Rows L2 Px
theorem for_rng {g : GS} {body : SS} {N : Nat} (Inv : Nat → PSt → MH → Prop) (step : ∀ i ps mh, i < N → Inv i ps mh → ∃ ps1 mh1 ps2 mh2, g (.int i) ps mh = .ok .nx ps1 mh1 ∧ body ps1 mh1 = .ok .nx ps2 mh2 ∧ Inv (i + 1) ps2 mh2) :
    ∀ k i fuel ps mh, i + k = N → k ≤ fuel → Inv i ps mh → ∃ ps' mh', forL (itRange 0 N).nxt g body fuel i ps mh = .ok .nx ps' mh' ∧ Inv N ps' mh' := by
  intro k
  induction k with
  | zero =>
    intro i fuel ps mh hi _ I
    refine ⟨ps, mh, ?_, by have : i = N := by omega
                           rwa [this] at I⟩
    unfold forL
    have : ¬ i < N := by omega
    simp [itRange, this]
  | succ k ih =>
    intro i fuel ps mh hi hf I
    obtain ⟨fuel, rfl⟩ : ∃ f, fuel = f + 1 := ⟨fuel - 1, by omega⟩
    obtain ⟨ps1, mh1, ps2, mh2, h1, h2, h3⟩ := step i ps mh (by omega) I
    obtain ⟨ps', mh', h4, h5⟩ := ih (i + 1) fuel ps2 mh2 (by omega) (by omega) h3
    refine ⟨ps', mh', ?_, h5⟩
    unfold forL
    have : i < N := by omega
    have nx : (itRange 0 N).nxt i mh = .ok (some (.int i)) mh := by simp [itRange, this]
    simp only [nx, h1, s_on, h2]
    exact h4
theorem z7 : (7 : Nat) ≤ sizeLine := by decide +kernel
theorem z6 : (6 : Nat) ≤ sizeLine := by decide +kernel
theorem z4 : (4 : Nat) ≤ sizeLine := by decide +kernel
theorem z5 : (5 : Nat) ≤ sizeLine := by decide +kernel
theorem z3 : (3 : Nat) ≤ sizeLine := by decide +kernel
theorem z1 : (1 : Nat) ≤ sizeLine := by decide +kernel
theorem z14 : (14 : Nat) ≤ sizeLine := by decide +kernel
theorem z18 : (18 : Nat) ≤ sizeLine := by decide +kernel
theorem z0 : (0 : Nat) ≤ sizeLine := Nat.zero_le _
theorem long_ok {n : Nat} {mh : MH} {F : Int} (j : Jar n mh) (h1 : 1 ≤ F) (h2 : F ≤ 70) : ∃ w mh', f__law_long_number [.ref n, .int F] mh = .ok (.int w) mh' ∧ Hx n mh mh' ∧ Sm 240 w := by
  obtain ⟨v, mh1, e, k, v0, v1⟩ := take_ok (top := 9) j (by decide) (by decide)
  let Inv : Nat → PSt → MH → Prop := fun i ps mh' => ∃ (w : Int) (q : Option PV), ps = [some (.ref n), some (.int F), some (.int w), q] ∧ Hx n mh mh' ∧ 0 ≤ w ∧ w < 10 ^ (i + 1)
  obtain ⟨ps', mh', e2, w, q, rfl, k2, w0, w1⟩ := for_rng (g := gNm 3) (body := sSeq (sAsg (eBin .Add (eBin .Mult (eVar 2) (eC (.int 10))) (eCall f__law_take (aCons (eVar 0) (aCons (eC (.int 10)) aNil)))) (gNm 2)) sNext) (N := (F - 1).toNat) Inv
    (fun i ps mh' hi ⟨w, q, ep, k2, w0, w1⟩ => by
      subst ep
      obtain ⟨v, mh3, e3, k3, v0, v1⟩ := take_ok (top := 10) k2.Jar (by decide) (by decide)
      refine ⟨_, _, [some (.ref n), some (.int F), some (.int (w * 10 + v)), some (.int i)], mh3, rfl, ?_, _, _, rfl, k2.trans k3, by omega, ?_⟩
      · simp [v_mul (mul64 (i := w) (j := 10) (by decide)), e3]
      · rw [Int.pow_succ]
        omega) (F - 1).toNat 0 (F - 1).toNat [some (.ref n), some (.int F), some (.int (1 + v)), none] mh1 (by omega) (Nat.le_refl _) ⟨_, _, rfl, k, by omega, by omega⟩
  have hfor : sFor (iRng1P (eBin .Sub (eVar 1) (eC (.int 1)))) (gNm 3) (sSeq (sAsg (eBin .Add (eBin .Mult (eVar 2) (eC (.int 10))) (eCall f__law_take (aCons (eVar 0) (aCons (eC (.int 10)) aNil)))) (gNm 2)) sNext) [some (.ref n), some (.int F), some (.int (1 + v)), none] mh1 = .ok .nx [some (.ref n), some (.int F), some (.int w), q] mh' := by
    have hr : rng1P (.int (F - 1)) mh1 = .ok (itRange 0 (F - 1).toNat) mh1 := if_pos ⟨by omega, by omega⟩
    unfold sFor iRng1P
    have e0 : F.toNat - 1 = (F - 1).toNat := by omega
    simp [hr]
    rw [e0]
    exact e2
  obtain ⟨mh2, g, k3, _⟩ := gc_hx (v := .int w) k2
  refine ⟨w, mh2, ?_, k3, ?_⟩
  · rw [← g]
    simp [f__law_long_number, runB, m__law_long_number, e, hfor]
  · have h3 : (F - 1).toNat + 1 ≤ 70 := by omega
    have h4 : (10 : Int) ^ ((F - 1).toNat + 1) ≤ 10 ^ 70 := by
      have := Nat.pow_le_pow_right (n := 10) (by decide) h3
      exact_mod_cast this
    have h5 : (10 : Int) ^ 70 < 2 ^ 240 := by decide
    unfold Sm
    have h6 : w < 2 ^ 240 := by omega
    have h7 : (w.natAbs : Int) = w := by omega
    have : (w.natAbs : Int) < ((2 ^ 240 : Nat) : Int) := by rw [h7]; exact_mod_cast h6
    omega
theorem pw_ok {k : Int} (mh : MH) (hk : k ∈ ([1, 2, 9, 15, 18, 30, 59] : List Int)) : ∃ z y, binV .Mult (.str "0") (.int k) mh = .ok (.str z) mh ∧ binV .Add (.str "1") (.str z) mh = .ok (.str y) mh ∧ intV [.str y] mh = .ok (.int (10 ^ k.toNat)) mh := by
  have f : ∀ k ∈ ([1, 2, 9, 15, 18, 30, 59] : List Int), (-(2 ^ 63) ≤ k ∧ k < 2 ^ 62 ∧ ("0" : Str).length * k.toNat ≤ 1000000) ∧ ("1" : Str).length + (strMul "0" k).length ≤ sizeLine ∧ PySem.intText? ("1" ++ strMul "0" k) = some (10 ^ k.toNat) ∧ (("1" : Str) ++ strMul "0" k).length ≤ 640 := by decide +kernel
  obtain ⟨h1, h2, h3, h4⟩ := f k hk
  refine ⟨strMul "0" k, "1" ++ strMul "0" k, ?_, ?_, ?_⟩
  · exact if_pos h1
  · exact if_pos h2
  · unfold intV
    simp only [h3, h4, if_true]
theorem Sm.of {k : Nat} {w : Int} (h1 : -(2 ^ k) < w) (h2 : w < 2 ^ k) : Sm k w := by
  unfold Sm
  have : (w.natAbs : Int) < ((2 ^ k : Nat) : Int) := by
    push_cast
    omega
  omega
theorem v_pow {i j : Int} {mh : MH} (h : CPow i j) : binV .Pow (.int i) (.int j) mh = .ok (.int (i ^ j.toNat)) mh := by
  unfold binV
  simp only [powV]
  rw [if_pos h]
theorem any_ok {n : Nat} {mh : MH} (j : Jar n mh) : ∃ w mh', f__law_any_whole [.ref n] mh = .ok (.int w) mh' ∧ Hx n mh mh' ∧ Sm 240 w := by
  obtain ⟨fm, mh1, e1, k1, f0, f1⟩ := take_ok (top := 8) j (by decide) (by decide)
  obtain ⟨fd, mh2, e2, k2, d0, d1⟩ := take_ok (top := 12) k1.Jar (by decide) (by decide)
  have main : ∃ w mh3, endB (m__law_any_whole [some (.ref n), none, none] mh) = .ok (.int w) mh3 ∧ Hx n mh2 mh3 ∧ Sm 240 w := by
    by_cases c0 : fm = 0
    · obtain ⟨v, mh3, e3, k3, v0, v1⟩ := take_ok (top := 70) k2.Jar (by decide) (by decide)
      obtain ⟨w, mh4, e4, k4, sw⟩ := long_ok (F := 1 + v) k3.Jar (by omega) (by omega)
      obtain ⟨s, mh5, e5, k5, _, _⟩ := take_ok (top := 3) k4.Jar (by decide) (by decide)
      subst c0
      by_cases hs : 0 < s
      · exact ⟨w, mh5, by simp [m__law_any_whole, e1, e2, e3, e4, e5, hs], k3.trans (k4.trans k5), sw⟩
      · exact ⟨-w, mh5, by simp [m__law_any_whole, e1, e2, e3, e4, e5, hs], k3.trans (k4.trans k5), sw.neg⟩
    · by_cases c1 : fm = 1
      · subst c1
        obtain ⟨v, mh3, e3, k3, hv⟩ := oneL_ok (xs := [.int 1, .int 2, .int 9, .int 15, .int 18, .int 30, .int 59]) k2.Jar (by decide) (by decide)
        obtain ⟨p, rfl, hp⟩ : ∃ p : Int, v = .int p ∧ p ∈ ([1, 2, 9, 15, 18, 30, 59] : List Int) := by
          simp only [List.mem_cons, List.mem_nil_iff, or_false] at hv
          rcases hv with h | h | h | h | h | h | h <;> exact ⟨_, h, by decide⟩
        obtain ⟨z, y, p1, p2, p3⟩ := pw_ok mh3 hp
        obtain ⟨u, mh4, e4, k4, u0, u1⟩ := take_ok (top := 3) k3.Jar (by decide) (by decide)
        obtain ⟨s, mh5, e5, k5, _, _⟩ := take_ok (top := 3) k4.Jar (by decide) (by decide)
        have sw : Sm 240 (10 ^ p.toNat + u - 1) := by
          have h3 : p.toNat ≤ 59 := by
            have : ∀ p ∈ ([1, 2, 9, 15, 18, 30, 59] : List Int), p.toNat ≤ 59 := by decide
            exact this p hp
          have h4 : (10 : Int) ^ p.toNat ≤ 10 ^ 59 := by
            have := Nat.pow_le_pow_right (n := 10) (by decide) h3
            exact_mod_cast this
          have h6 : (0 : Int) < 10 ^ p.toNat := Int.pow_pos (by decide)
          have h5 : (10 : Int) ^ 59 + 10 < 2 ^ 240 := by decide
          exact Sm.of (by omega) (by omega)
        by_cases hs : 0 < s
        · exact ⟨10 ^ p.toNat + u - 1, mh5, by simp [m__law_any_whole, e1, e2, e3, e4, e5, hs, z7, newL, p1, p2, p3], k3.trans (k4.trans k5), sw⟩
        · exact ⟨-(10 ^ p.toNat + u - 1), mh5, by simp [m__law_any_whole, e1, e2, e3, e4, e5, hs, z7, newL, p1, p2, p3], k3.trans (k4.trans k5), sw.neg⟩
      · by_cases c2 : fm = 2
        · subst c2
          obtain ⟨v, mh3, e3, k3, hv⟩ := oneL_ok (xs := [.int (2 ^ 53), .int (2 ^ 53 + 1), .int (2 ^ 31), .int (2 ^ 64 - 1), .int 60, .int 360]) k2.Jar (by decide) (by decide)
          obtain ⟨p, rfl, hp⟩ : ∃ p : Int, v = .int p ∧ Sm 240 p := by
            simp only [List.mem_cons, List.mem_nil_iff, or_false] at hv
            rcases hv with h | h | h | h | h | h <;> exact ⟨_, h, by unfold Sm; decide⟩
          obtain ⟨s, mh5, e5, k5, _, _⟩ := take_ok (top := 3) k3.Jar (by decide) (by decide)
          have q1 := v_pow (mh := mh2) (show CPow 2 53 by decide)
          have q2 := v_pow (mh := mh2) (show CPow 2 31 by decide)
          have q3 := v_pow (mh := mh2) (show CPow 2 64 by decide)
          have b : endB (m__law_any_whole [some (.ref n), none, none] mh) = if 0 < s then .ok (.int p) mh5 else .ok (.int (-p)) mh5 := by
            by_cases hs : 0 < s
            · simp [m__law_any_whole, e1, e2, hs, z6, newL, q1, q2, q3] 
              simp [show mh2 ++ [MO.lst [PV.int 9007199254740992, PV.int 9007199254740993, PV.int 2147483648, PV.int 18446744073709551615, PV.int 60, PV.int 360]] = mh2 ++ [.lst [.int (2 ^ 53), .int (2 ^ 53 + 1), .int (2 ^ 31), .int (2 ^ 64 - 1), .int 60, .int 360]] from rfl, e3, e5, hs]
            · simp [m__law_any_whole, e1, e2, hs, z6, newL, q1, q2, q3] 
              simp [show mh2 ++ [MO.lst [PV.int 9007199254740992, PV.int 9007199254740993, PV.int 2147483648, PV.int 18446744073709551615, PV.int 60, PV.int 360]] = mh2 ++ [.lst [.int (2 ^ 53), .int (2 ^ 53 + 1), .int (2 ^ 31), .int (2 ^ 64 - 1), .int 60, .int 360]] from rfl, e3, e5, hs]
          by_cases hs : 0 < s
          · exact ⟨p, mh5, by rw [b, if_pos hs], k3.trans k5, hp⟩
          · exact ⟨-p, mh5, by rw [b, if_neg hs], k3.trans k5, hp.neg⟩
        · obtain ⟨s, mh5, e5, k5, _, _⟩ := take_ok (top := 3) k2.Jar (by decide) (by decide)
          have sw : Sm 240 fd := Sm.of (by omega) (by omega)
          by_cases hs : 0 < s
          · exact ⟨fd, mh5, by simp [m__law_any_whole, e1, e2, e5, hs, c0, c1, c2], k5, sw⟩
          · exact ⟨-fd, mh5, by simp [m__law_any_whole, e1, e2, e5, hs, c0, c1, c2], k5, sw.neg⟩
  obtain ⟨w, mh3, e, k, sw⟩ := main
  obtain ⟨mh4, g, k4, _⟩ := gc_hx (v := .int w) (k1.trans (k2.trans k))
  refine ⟨w, mh4, ?_, k4, sw⟩
  rw [← g, ← e]
  rfl
theorem Sm.one : Sm 1 1 := by unfold Sm; decide
theorem anyr_ok {n : Nat} {mh : MH} (j : Jar n mh) : ∃ a b mh', f__law_any_ratio [.ref n] mh = .ok (rt a b) mh' ∧ Hx n mh mh' ∧ Gd 240 a b := by
  obtain ⟨b, mh1, e1, k1, sb⟩ := any_ok j
  obtain ⟨a, mh2, e2, k2, sa⟩ := any_ok k1.Jar
  have k := k1.trans k2
  by_cases h0 : b = 0
  · have l := lawlow_pos (a := a) (b := 1) mh2 (by decide) (Sm.one.mono (by decide))
    obtain ⟨mh3, g, k3, _⟩ := gc_hx (v := rt (lo1 a 1) (lo2 a 1)) k
    refine ⟨_, _, mh3, ?_, k3, lo_gd (a := a) (b := 1) (by decide) sa (Sm.one.mono (by decide))⟩
    rw [← g]
    simp [f__law_any_ratio, runB, m__law_any_ratio, e1, e2, h0, l]
  · by_cases h1 : b < 0
    · have l := lawlow_neg (a := a) mh2 h1 (sb.mono (by decide))
      obtain ⟨mh3, g, k3, _⟩ := gc_hx (v := rt (lo1 (-a) (-b)) (lo2 (-a) (-b))) k
      refine ⟨_, _, mh3, ?_, k3, lo_gd (by omega) sa.neg sb.neg⟩
      rw [← g]
      simp [f__law_any_ratio, runB, m__law_any_ratio, e1, e2, h0, l]
    · have l := lawlow_pos (a := a) mh2 (show 0 < b by omega) (sb.mono (by decide))
      obtain ⟨mh3, g, k3, _⟩ := gc_hx (v := rt (lo1 a b) (lo2 a b)) k
      refine ⟨_, _, mh3, ?_, k3, lo_gd (by omega) sa sb⟩
      rw [← g]
      simp [f__law_any_ratio, runB, m__law_any_ratio, e1, e2, h0, l]
end Kx

namespace Kx
open PySem PySem.Spec PyProof.Rows L2 Px
def Dp (mh : MH) : Nat → PV → Prop
  | 0, _ => False
  | d + 1, x => match x with
    | .non => True
    | .bl _ => True
    | .int _ => True
    | .str _ => True
    | .tup xs => xs.length ≤ 1000 ∧ ∀ y ∈ xs, Dp mh d y
    | .ref r => ∃ xs, getL mh r = some xs ∧ xs.length ≤ 1000 ∧ ∀ y ∈ xs, Dp mh d y
    | .fn _ => False
@[simp] theorem dp_int {mh : MH} {d : Nat} {i : Int} : Dp mh (d + 1) (.int i) = True := rfl
@[simp] theorem dp_bl {mh : MH} {d : Nat} {i : Bool} : Dp mh (d + 1) (.bl i) = True := rfl
@[simp] theorem dp_str {mh : MH} {d : Nat} {i : Str} : Dp mh (d + 1) (.str i) = True := rfl
@[simp] theorem dp_non {mh : MH} {d : Nat} : Dp mh (d + 1) .non = True := rfl
@[simp] theorem dp_tup {mh : MH} {d : Nat} {xs : List PV} : Dp mh (d + 1) (.tup xs) = (xs.length ≤ 1000 ∧ ∀ y ∈ xs, Dp mh d y) := rfl
@[simp] theorem dp_ref {mh : MH} {d r : Nat} : Dp mh (d + 1) (.ref r) = (∃ xs, getL mh r = some xs ∧ xs.length ≤ 1000 ∧ ∀ y ∈ xs, Dp mh d y) := rfl
theorem Dp.up {mh : MH} : ∀ {d : Nat} {x : PV}, Dp mh d x → Dp mh (d + 1) x
  | 0, _, h => by unfold Dp at h; exact h.elim
  | d + 1, x, h => by
    unfold Dp at h ⊢
    cases x with
    | tup xs => exact ⟨h.1, fun y hy => (h.2 y hy).up⟩
    | ref r =>
      obtain ⟨xs, a, b, c⟩ := h
      exact ⟨xs, a, b, fun y hy => (c y hy).up⟩
    | _ => exact h
theorem Dp.mono {mh : MH} {d e : Nat} {x : PV} (h : Dp mh d x) (hd : d ≤ e) : Dp mh e x := by
  obtain ⟨k, rfl⟩ := Nat.le.dest hd
  induction k with
  | zero => exact h
  | succ k ih => exact (ih (by omega)).up
theorem rng1_ok {j : Int} {mh : MH} (h : -(2 ^ 62) ≤ j ∧ j < 2 ^ 62) : rng1P (.int j) mh = .ok (itRange 0 j.toNat) mh := by
  unfold rng1P
  simp only
  exact if_pos h
abbrev smB (rec : List PV → MH → R PV) : SS := sSeq (sIf (tNotP (tTru (eCall rec (aCons (eIx (eVar 0) (eVar 2)) (aCons (eIx (eVar 1) (eVar 2)) aNil))))) (sSeq (sRet (eC (.bl false))) sNext) sNext) sNext
theorem same_for {rec : List PV → MH → R PV} {X Y : PV} {xs : List PV} {mh : MH} {q : Option PV} (hl : xs.length ≤ 1000) (lY : lenV [Y] mh = .ok (.int xs.length) mh)
    (iX : ∀ (i : Nat) (h : i < xs.length), ixP X (.int i) mh = .ok xs[i] mh) (iY : ∀ (i : Nat) (h : i < xs.length), ixP Y (.int i) mh = .ok xs[i] mh)
    (hr : ∀ x ∈ xs, rec [x, x] mh = .ok (.bl true) mh) : ∃ q', sFor (iRng1P (eCall lenV (aCons (eVar 1) aNil))) (gNm 2) (smB rec) [some X, some Y, q] mh = .ok .nx [some X, some Y, q'] mh := by
  let Inv : Nat → PSt → MH → Prop := fun i ps mh' => ∃ q', ps = [some X, some Y, q'] ∧ mh' = mh
  obtain ⟨ps', mh', e2, q', rfl, rfl⟩ := for_rng (g := gNm 2) (body := smB rec) (N := xs.length) Inv
    (fun i ps mh' hi ⟨q', ep, em⟩ => by
      subst ep
      subst em
      refine ⟨_, _, [some X, some Y, some (.int i)], mh', rfl, ?_, _, rfl, rfl⟩
      have r1 := hr xs[i] (List.getElem_mem hi)
      simp [iX i hi, iY i hi, r1]) xs.length 0 xs.length [some X, some Y, q] mh (by omega) (Nat.le_refl _) ⟨_, rfl, rfl⟩
  refine ⟨q', ?_⟩
  have hr : rng1P (.int xs.length) mh' = .ok (itRange 0 xs.length) mh' := by
    rw [rng1_ok ⟨by omega, by omega⟩, Int.toNat_natCast]
  have e3 : eCall lenV (aCons (eVar 1) aNil) [some X, some Y, q] mh' = .ok (.int xs.length) mh' := by simp [lY]
  have e4 : iRng1P (eCall lenV (aCons (eVar 1) aNil)) [some X, some Y, q] mh' = .ok (itRange 0 xs.length) mh' := by
    unfold iRng1P
    rw [e3, rb_ok, hr]
  unfold sFor
  rw [e4, rs_ok]
  exact e2
theorem ix_tup {xs : List PV} {mh : MH} (i : Nat) (h : i < xs.length) : ixP (.tup xs) (.int i) mh = .ok xs[i] mh := by
  simp [ixP, itemsP, atI, ixN, h]
theorem ix_gl {r : Nat} {xs : List PV} {mh : MH} (e : getL mh r = some xs) (i : Nat) (h : i < xs.length) : ixP (.ref r) (.int i) mh = .ok xs[i] mh := by
  simp [ixP, itemsP, e, atI, ixN, h]
theorem len_gl {r : Nat} {xs : List PV} {mh : MH} (e : getL mh r = some xs) : lenV [.ref r] mh = .ok (.int xs.length) mh := by
  simp [lenV, e]
theorem len_tup {xs : List PV} {mh : MH} : lenV [.tup xs] mh = .ok (.int xs.length) mh := rfl
theorem c_eqs {a b : Str} {mh : MH} : cmpV .Eq (.str a) (.str b) mh = .ok (.bl (decide (a = b))) mh := rfl
theorem same_refs {d r1 r2 : Nat} {xs : List PV} {mh : MH} (e1 : getL mh r1 = some xs) (e2 : getL mh r2 = some xs) (hl : xs.length ≤ 1000) (hr : ∀ x ∈ xs, f__law_same d [x, x] mh = .ok (.bl true) mh) : f__law_same (d + 1) [.ref r1, .ref r2] mh = .ok (.bl true) mh := by
  obtain ⟨q', hf⟩ := same_for (q := none) hl (len_gl e2) (ix_gl e1) (ix_gl e2) hr
  simp [f__law_same, runB, m__law_same, isPV, PV.isNon, isTyP, e1, e2, len_gl e1, len_gl e2]
  simp [hf]
theorem same_seq {d : Nat} {X Y : PV} {xs : List PV} {mh : MH} (hl : xs.length ≤ 1000) (lX : lenV [X] mh = .ok (.int xs.length) mh) (lY : lenV [Y] mh = .ok (.int xs.length) mh)
    (iX : ∀ (i : Nat) (h : i < xs.length), ixP X (.int i) mh = .ok xs[i] mh) (iY : ∀ (i : Nat) (h : i < xs.length), ixP Y (.int i) mh = .ok xs[i] mh)
    (n0 : isPV Y .non mh = .ok (.bl false) mh) (n1 : isTyP .tBool Y mh = .ok (.bl false) mh) (n2 : isTyP .tInt Y mh = .ok (.bl false) mh) (n3 : isTyP .tStr Y mh = .ok (.bl false) mh)
    (n4 : isTyP .tTuple Y mh = .ok (.bl true) mh) (n5 : isTyP .tTuple X mh = .ok (.bl true) mh) (n6 : isTyP .tList Y mh = .ok (.bl false) mh) 
    (hr : ∀ x ∈ xs, f__law_same d [x, x] mh = .ok (.bl true) mh) : f__law_same (d + 1) [X, Y] mh = .ok (.bl true) mh := by
  obtain ⟨q', hf⟩ := same_for (q := none) hl lY iX iY hr
  simp [f__law_same, runB, m__law_same, n0, n1, n2, n3, n4, n5, n6, lX, lY]
  simp [hf]
theorem same_tups {d : Nat} {xs : List PV} {mh : MH} (hl : xs.length ≤ 1000) (hr : ∀ x ∈ xs, f__law_same d [x, x] mh = .ok (.bl true) mh) : f__law_same (d + 1) [.tup xs, .tup xs] mh = .ok (.bl true) mh :=
  same_seq hl len_tup len_tup (fun i h => ix_tup i h) (fun i h => ix_tup i h) rfl rfl rfl rfl rfl rfl rfl hr
theorem same_self {mh : MH} : ∀ {d : Nat} {x : PV}, Dp mh d x → f__law_same d [x, x] mh = .ok (.bl true) mh
  | 0, _, h => by unfold Dp at h; exact h.elim
  | d + 1, x, h => by
    unfold Dp at h
    cases x with
    | tup xs => exact same_tups h.1 fun y hy => same_self (h.2 y hy)
    | ref r =>
      obtain ⟨xs, a, b, c⟩ := h
      exact same_refs a a b fun y hy => same_self (c y hy)
    | fn f => exact h.elim
    | non => simp [f__law_same, runB, m__law_same, isPV, PV.isNon, isTyP]
    | bl b => cases b <;> simp [f__law_same, runB, m__law_same, isPV, PV.isNon, PV.isBl, isTyP]
    | int i => simp [f__law_same, runB, m__law_same, isPV, PV.isNon, isTyP, lawhole_int]
    | str s => simp [f__law_same, runB, m__law_same, isPV, PV.isNon, isTyP, c_eqs]
/-! ## what is no ratio -/
structure Fl1 (v : PV) : Prop where
  no : ∀ mh, f_is_ratio [v] mh = .ok (.bl false) mh
  dp : ∀ mh, Dp mh 5 v
inductive Bad (n : Nat) (mh : MH) : PV → Prop
  | flat {v : PV} : Fl1 v → Bad n mh v
  | list {r : Nat} {p : Int} : r ≠ n → mh[r]? = some (.lst [.int p, .int 1]) → Bad n mh (.ref r)
theorem Bad.mono {n : Nat} {mh mh' : MH} {v : PV} (b : Bad n mh v) (h : Hx n mh mh') : Bad n mh' v := by
  cases b with
  | flat f => exact .flat f
  | list hr e => exact .list hr (by rw [h.old _ (List.getElem?_eq_some_iff.mp e).1 hr, e])
theorem Bad.dp {n : Nat} {mh : MH} {v : PV} (b : Bad n mh v) : Dp mh 5 v := by
  cases b with
  | flat f => exact f.dp mh
  | @list r p hr e => exact ⟨[.int p, .int 1], by simp [getL, e], by simp, by simp⟩
theorem Bad.no {n : Nat} {mh : MH} {v : PV} (b : Bad n mh v) : f_is_ratio [v] mh = .ok (.bl false) mh := by
  cases b with
  | flat f => exact f.no mh
  | list hr e => simp [f_is_ratio, runB, m_is_ratio, isTyP, getL, e]
theorem whole_no (v : PV) (mh : MH) (h : isTyP .tInt v mh = .ok (.bl false) mh ∨ ∃ b, v = .bl b) : f_is_whole [v] mh = .ok (.bl false) mh := by
  rcases h with h | ⟨b, rfl⟩
  · simp [f_is_whole, runB, m_is_whole, h]
  · simp [f_is_whole, runB, m_is_whole, isTyP]
theorem fl_notup {v : PV} (h : ∀ mh, isTyP .tTuple v mh = .ok (.bl false) mh) (d : ∀ mh, Dp mh 5 v) : Fl1 v := by
  refine ⟨fun mh => ?_, d⟩
  simp [f_is_ratio, runB, m_is_ratio, h]
theorem fl_len {xs : List PV} (h : xs.length ≠ 2) (d : ∀ mh, Dp mh 5 (.tup xs)) : Fl1 (.tup xs) := by
  refine ⟨fun mh => ?_, d⟩
  have : ¬ ((xs.length : Int) = 2) := by omega
  simp [f_is_ratio, runB, m_is_ratio, isTyP, len_tup, this]
theorem fl_w0 {v w : PV} (h : ∀ mh, f_is_whole [v] mh = .ok (.bl false) mh) (d : ∀ mh, Dp mh 5 (.tup [v, w])) : Fl1 (.tup [v, w]) := by
  refine ⟨fun mh => ?_, d⟩
  simp [f_is_ratio, runB, m_is_ratio, isTyP, h]
theorem fl_w1 {p : Int} {w : PV} (h : ∀ mh, f_is_whole [w] mh = .ok (.bl false) mh) (d : ∀ mh, Dp mh 5 (.tup [.int p, w])) : Fl1 (.tup [.int p, w]) := by
  refine ⟨fun mh => ?_, d⟩
  simp [f_is_ratio, runB, m_is_ratio, isTyP, h, whole_int]
theorem fl_neg {p q : Int} (h : q < 1) : Fl1 (rt p q) := by
  refine ⟨fun mh => ?_, fun mh => by simp⟩
  simp [f_is_ratio, runB, m_is_ratio, isTyP, h, whole_int]
theorem fl_gcd {p q : Int} (h : 1 < q) (g : Int.gcd p q ≠ 1) : Fl1 (rt p q) := by
  refine ⟨fun mh => ?_, fun mh => by simp⟩
  have h1 : ¬ q < 1 := by omega
  have h2 : ¬ q = 1 := by omega
  unfold Int.gcd at g
  have g' : ¬ (((p.natAbs.gcd q.natAbs : Nat) : Int) = 1) := by omega
  simp [f_is_ratio, runB, m_is_ratio, isTyP, h1, h2, g', whole_int]
end Kx

namespace Kx
open PySem PySem.Spec PyProof.Rows L2 Px
theorem gd11 : Gd 240 1 1 := ⟨by decide, by decide, Sm.one.mono (by decide), Sm.one.mono (by decide)⟩
theorem near_ok {n : Nat} {mh : MH} {a b : Int} (j : Jar n mh) (g : Gd 240 a b) : ∃ c d mh', f__law_near_ratio [.ref n, rt a b] mh = .ok (rt c d) mh' ∧ Hx n mh mh' ∧ Gd 500 c d := by
  obtain ⟨fm, mh1, e1, k1, f0, f1⟩ := take_ok (top := 6) j (by decide) (by decide)
  by_cases c0 : fm = 0
  · obtain ⟨mh3, g3, k3, _⟩ := gc_hx (v := rt a b) k1
    refine ⟨a, b, mh3, ?_, k3, g.mono (by decide)⟩
    rw [← g3]
    simp [f__law_near_ratio, runB, m__law_near_ratio, e1, c0]
  · by_cases c1 : fm = 1
    · obtain ⟨mh3, g3, k3, _⟩ := gc_hx (v := rt (-a) b) k1
      refine ⟨-a, b, mh3, ?_, k3, ?_⟩
      · rw [← g3]
        simp [f__law_near_ratio, runB, m__law_near_ratio, e1, c1, le2]
      · have h : Gd 240 (-a) b := ⟨g.pos, by rw [Int.neg_gcd]; exact g.cop, g.s1.neg, g.s2⟩
        exact h.mono (by decide)
    · by_cases c2 : fm = 2 ∧ a ≠ 0
      · obtain ⟨c2, ha⟩ := c2
        obtain ⟨x, y, ex, gx⟩ := ov_gd gd11 g (by decide) (by decide) ha
        have l := lawover_ok mh1 gd11 g (by decide) (by decide) ha
        rw [ex] at l
        obtain ⟨mh3, g3, k3, _⟩ := gc_hx (v := rt x y) k1
        refine ⟨x, y, mh3, ?_, k3, gx.mono (by decide)⟩
        rw [← g3]
        simp [f__law_near_ratio, runB, m__law_near_ratio, e1, c2, ha, le2, l]
      · by_cases c3 : fm = 3
        · obtain ⟨v, mh2, e2, k2, hv⟩ := oneL_ok (xs := [.int (10 ^ 18), .int (10 ^ 9), .int 3, .int 7]) k1.Jar (by decide) (by decide)
          obtain ⟨p, rfl, p0, p1⟩ : ∃ p : Int, v = .int p ∧ 0 < p ∧ Sm 240 p := by
            simp only [List.mem_cons, List.mem_nil_iff, or_false] at hv
            rcases hv with h | h | h | h <;> exact ⟨_, h, by decide, by unfold Sm; decide⟩
          have gp : Gd 240 1 p := ⟨p0, by simp, Sm.one.mono (by decide), p1⟩
          have l := lawplus_ok mh2 g gp (by decide) (by decide)
          have q1 := v_pow (mh := mh1) (show CPow 10 18 by decide)
          have q2 := v_pow (mh := mh1) (show CPow 10 9 by decide)
          obtain ⟨mh3, g3, k3, _⟩ := gc_hx (v := rt (lo1 (a * p + 1 * b) (b * p)) (lo2 (a * p + 1 * b) (b * p))) (k1.trans k2)
          refine ⟨_, _, mh3, ?_, k3, lo_gd (Int.mul_pos g.pos p0) (((g.s1.mul p1).mono (by decide : 240 + 240 ≤ 480)).add (((Sm.one.mono (by decide : 1 ≤ 240)).mul g.s2).mono (by decide : 240 + 240 ≤ 480)) |>.mono (by decide)) ((g.s2.mul p1).mono (by decide))⟩
          rw [← g3]
          simp [f__law_near_ratio, runB, m__law_near_ratio, e1, c3, le2, z4, newL, q1, q2]
          simp [show mh1 ++ [MO.lst [PV.int 1000000000000000000, PV.int 1000000000, PV.int 3, PV.int 7]] = mh1 ++ [.lst [.int (10 ^ 18), .int (10 ^ 9), .int 3, .int 7]] from rfl, e2, le2]
          simp [l]
        · obtain ⟨x, y, mh2, e2, k2, gx⟩ := anyr_ok k1.Jar
          obtain ⟨mh3, g3, k3, _⟩ := gc_hx (v := rt x y) (k1.trans k2)
          refine ⟨x, y, mh3, ?_, k3, gx.mono (by decide)⟩
          rw [← g3]
          by_cases c4 : fm = 2
          · have ha : a = 0 := by
              by_cases ha : a = 0
              · exact ha
              · exact absurd ⟨c4, ha⟩ c2
            simp [f__law_near_ratio, runB, m__law_near_ratio, e1, c4, ha, e2]
          · simp [f__law_near_ratio, runB, m__law_near_ratio, e1, c0, c1, c3, c4, e2]
theorem add_refs {r1 r2 : Nat} {xs ys : List PV} {mh : MH} (e1 : mh[r1]? = some (.lst xs)) (e2 : mh[r2]? = some (.lst ys)) (h : xs.length + ys.length ≤ sizeLine) : binV .Add (.ref r1) (.ref r2) mh = .ok (.ref mh.length) (mh ++ [.lst (xs ++ ys)]) := by
  simp [binV, addV, getM, e1, e2, h, newL]
theorem no_ok {n : Nat} {mh : MH} (j : Jar n mh) : ∃ v mh', f__law_no_ratio [.ref n] mh = .ok v mh' ∧ Hx n mh mh' ∧ Bad n mh' v := by
  obtain ⟨p, mh1, e1, k1, sp⟩ := any_ok j
  obtain ⟨t, mh2, e2, k2, t0, t1⟩ := take_ok (top := 9) k1.Jar (by decide) (by decide)
  have q1 : ∀ mh, binV .Pow (.int 10) (.int 40) mh = .ok (.int (10 ^ 40)) mh := fun mh => v_pow (by decide)
  generalize hq : (2 : Int) + t = q at *
  let l1 : List PV := [rt (p * q) (q * q), rt p 0, rt p (-q), rt p (-1), rt 0 q, .tup [.bl true, .int q], .tup [.int p, .bl true], .ref mh2.length, .tup [.int p], .tup [.int p, .int 1, .int 1], .int p, .non, .str "1/2", .tup []]
  let l2 : List PV := [.tup [.str "1", .int 2], .tup [rt 1 2, .int 1], .tup [.int p, .non], .int (10 ^ 40)]
  let m3 := mh2 ++ [MO.lst [.int p, .int 1]]
  let m4 := m3 ++ [MO.lst l1]
  let m5 := m4 ++ [MO.lst l2]
  have k5 : Hx n mh m5 := (((k1.trans k2).trans (Hx.app k2.Jar)).trans (Hx.app (Hx.app k2.Jar).Jar)).trans (Hx.app (Hx.app (Hx.app k2.Jar).Jar).Jar)
  obtain ⟨v, mh6, e6, k6, hv⟩ := oneL_ok (xs := l1 ++ l2) k5.Jar (by simp [l1]) (by simp [l1, l2])
  have er : m5[mh2.length]? = some (.lst [.int p, .int 1]) := by simp [m5, m4, m3]
  have k7 := k5.trans k6
  have er6 : mh6[mh2.length]? = some (.lst [.int p, .int 1]) := by
    rw [k6.old mh2.length (by simp [m5, m4, m3]) (by have := k2.Jar.lt; omega), er]
  have bad : Bad n mh6 v := by
    have hq0 : 1 < q := by omega
    simp only [l1, l2, List.cons_append, List.nil_append, List.mem_cons, List.mem_nil_iff, or_false] at hv
    rcases hv with rfl | rfl | rfl | rfl | rfl | rfl | rfl | rfl | rfl | rfl | rfl | rfl | rfl | rfl | rfl | rfl | rfl | rfl
    · refine .flat (fl_gcd ?_ ?_)
      · have := Int.mul_le_mul (show (2 : Int) ≤ q by omega) (show (2 : Int) ≤ q by omega) (by decide) (by omega)
        omega
      · rw [Int.gcd_mul_right]
        intro h
        have h2 : q.natAbs ∣ 1 := ⟨_, by rw [Nat.mul_comm]; exact h.symm⟩
        have := Nat.le_of_dvd (by decide) h2
        omega
    · exact .flat (fl_neg (by decide))
    · exact .flat (fl_neg (by omega))
    · exact .flat (fl_neg (by decide))
    · exact .flat (fl_gcd hq0 (by simp; omega))
    · exact .flat (fl_w0 (fun mh => whole_no _ _ (.inr ⟨_, rfl⟩)) (fun mh => by simp))
    · exact .flat (fl_w1 (fun mh => whole_no _ _ (.inr ⟨_, rfl⟩)) (fun mh => by simp))
    · exact .list (by have := k2.Jar.lt; omega) er6
    · exact .flat (fl_len (by simp) (fun mh => by simp))
    · exact .flat (fl_len (by simp) (fun mh => by simp))
    · exact .flat (fl_notup (fun _ => rfl) (fun mh => by simp))
    · exact .flat (fl_notup (fun _ => rfl) (fun mh => by simp))
    · exact .flat (fl_notup (fun _ => rfl) (fun mh => by simp))
    · exact .flat (fl_len (by simp) (fun mh => by simp))
    · exact .flat (fl_w0 (fun mh => whole_no _ _ (.inl rfl)) (fun mh => by simp))
    · exact .flat (fl_w0 (fun mh => whole_no _ _ (.inl rfl)) (fun mh => by simp))
    · exact .flat (fl_w1 (fun mh => whole_no _ _ (.inl rfl)) (fun mh => by simp))
    · exact .flat (fl_notup (fun _ => rfl) (fun mh => by simp))
  obtain ⟨mh8, g8, k8, h8⟩ := gc_hx (v := v) k7
  refine ⟨v, mh8, ?_, k8, ?_⟩
  · rw [← g8]
    have m1 : CMulW p q ∨ CMul p q := mul64 (by omega)
    have m2 : CMulW q q ∨ CMul q q := mul64 (by omega)
    have e4 : m5[m3.length]? = some (.lst l1) := by simp [m5, m4, m3]
    have e5 : m5[m4.length]? = some (.lst l2) := by simp [m5]
    have ad := add_refs e4 e5 (by simp [l1, l2]; exact z18)
    have b : endB (m__law_no_ratio [some (.ref n), none, none, none] mh) = .ok v mh6 := by
      unfold m__law_no_ratio
      simp [e1, e2, hq, v_mul m1, v_mul m2, le2, z14, z4, z3, z1, z0, newL, q1]
      simp [m5, m4, m3, l1, l2] at ad e6
      simp [ad, e6]
    rw [← b]
    rfl
  · cases bad with
    | flat f => exact .flat f
    | @list r p2 hr e => exact .list hr (by rw [h8 r (by simp [refsV]), e])
end Kx

namespace Kx
open PySem PySem.Spec PyProof.Rows L2 Px
theorem low_eq {n : Nat} {a b p q : Int} (g : Gd n a b) (hq : 0 < q) (h : p * b = a * q) : lo1 p q = a ∧ lo2 p q = b := by
  have d1 : b ∣ q * a := ⟨p, by rw [Int.mul_comm q a, ← h, Int.mul_comm]⟩
  have d2 : b ∣ q := by
    have h1 : b.natAbs ∣ q.natAbs * a.natAbs := by
      rw [← Int.natAbs_mul]
      exact Int.natAbs_dvd_natAbs.mpr d1
    have h2 : Nat.Coprime b.natAbs a.natAbs := by
      have := g.cop
      unfold Int.gcd at this
      unfold Nat.Coprime
      rw [Nat.gcd_comm]
      exact this
    exact Int.natAbs_dvd_natAbs.mp (h2.dvd_of_dvd_mul_right h1)
  obtain ⟨k, rfl⟩ := d2
  have hb := g.pos
  have hk : 0 < k := by
    by_cases hk : 0 < k
    · exact hk
    · have := Int.mul_nonpos_of_nonneg_of_nonpos (Int.le_of_lt hb) (show k ≤ 0 by omega)
      omega
  have hp : p = a * k := by
    have : b * p = b * (a * k) := by rw [Int.mul_comm b p, h, ← Int.mul_assoc, ← Int.mul_assoc, Int.mul_comm a b]
    exact Int.eq_of_mul_eq_mul_left (by omega) this
  subst hp
  have e : (Int.gcd (a * k) (b * k) : Int) = k := by
    rw [Int.gcd_mul_right, g.cop, Nat.one_mul]
    omega
  unfold lo1 lo2
  rw [e]
  exact ⟨Int.mul_ediv_cancel _ (by omega), Int.mul_ediv_cancel _ (by omega)⟩
theorem lo_mul {p q : Int} (hq : 0 < q) : lo1 p q * (Int.gcd p q : Int) = p ∧ lo2 p q * (Int.gcd p q : Int) = q := by
  unfold lo1 lo2
  exact ⟨Int.ediv_mul_cancel (Int.gcd_dvd_left ..), Int.ediv_mul_cancel (Int.gcd_dvd_right ..)⟩
section
variable {n : Nat} {a b c d : Int} (mh : MH) (g : Gd n a b) (g2 : Gd n c d) (hn : n ≤ 600) (h0 : 0 < n)
include g g2 hn h0
theorem minus_gd : Gd (n + n + 1) (lo1 (a * d - c * b) (b * d)) (lo2 (a * d - c * b) (b * d)) := lo_gd (Int.mul_pos g.pos g2.pos) ((g.s1.mul g2.s2).sub (g2.s1.mul g.s2)) ((g.s2.mul g2.s2).mono (by omega))
theorem times_gd : Gd (n + n + 1) (lo1 (a * c) (b * d)) (lo2 (a * c) (b * d)) := lo_gd (Int.mul_pos g.pos g2.pos) ((g.s1.mul g2.s1).mono (by omega)) ((g.s2.mul g2.s2).mono (by omega))
theorem plus_minus : f_plus [rt (lo1 (a * d - c * b) (b * d)) (lo2 (a * d - c * b) (b * d)), rt c d] mh = .ok (rt a b) mh := by
  have gm := minus_gd g g2 hn h0
  have hq := Int.mul_pos g.pos g2.pos
  obtain ⟨m1, m2⟩ := lo_mul (p := a * d - c * b) hq
  have hg := gcd_pos_of (a := a * d - c * b) hq
  rw [plus_ok mh gm (g2.mono (by omega : n ≤ n + n + 1)) (by omega) (by omega)]
  generalize lo1 (a * d - c * b) (b * d) = x at *
  generalize lo2 (a * d - c * b) (b * d) = y at *
  generalize (Int.gcd (a * d - c * b) (b * d) : Int) = k at *
  have r := low_eq (p := x * d + c * y) (q := y * d) g (Int.mul_pos gm.pos g2.pos) (by
    have hk : k ≠ 0 := by omega
    apply Int.eq_of_mul_eq_mul_right hk
    have e1 : (x * d + c * y) * b * k = (x * k) * d * b + c * b * (y * k) := by grind
    have e2 : a * (y * d) * k = a * d * (y * k) := by grind
    rw [e1, e2, m1, m2]
    grind)
  rw [r.1, r.2]
theorem over_times (hc : c ≠ 0) : f_over [rt (lo1 (a * c) (b * d)) (lo2 (a * c) (b * d)), rt c d] mh = .ok (rt a b) mh := by
  have gm := times_gd g g2 hn h0
  have hq := Int.mul_pos g.pos g2.pos
  obtain ⟨m1, m2⟩ := lo_mul (p := a * c) hq
  have hg := gcd_pos_of (a := a * c) hq
  rw [over_ok mh gm (g2.mono (by omega : n ≤ n + n + 1)) (by omega) (by omega) hc]
  generalize lo1 (a * c) (b * d) = x at *
  generalize lo2 (a * c) (b * d) = y at *
  generalize (Int.gcd (a * c) (b * d) : Int) = k at *
  have hk : k ≠ 0 := by omega
  have key : x * d * b = a * (y * c) := by
    apply Int.eq_of_mul_eq_mul_right hk
    have e1 : x * d * b * k = (x * k) * d * b := by grind
    have e2 : a * (y * c) * k = a * c * (y * k) := by grind
    rw [e1, e2, m1, m2]
    grind
  unfold ov
  by_cases h : c < 0
  · rw [if_pos h]
    have p : y * c < 0 := Int.mul_neg_of_pos_of_neg gm.pos h
    have r := low_eq (p := -(x * d)) (q := -(y * c)) g (by omega) (by
      rw [Int.neg_mul, Int.mul_neg, key])
    rw [r.1, r.2]
  · rw [if_neg h]
    have r := low_eq (p := x * d) (q := y * c) g (Int.mul_pos gm.pos (by omega)) key
    rw [r.1, r.2]
end
end Kx

namespace Kx
open PySem PySem.Spec PyProof.Rows L2 Px
theorem told_ok {mh mh1 : MH} {r : R PV} {x : PV} (h : r = .ok x mh1) (d : Dp mh1 10 x) : t__law_tells mh r [x] = gc mh (.ok (.bl true) mh1) := by
  subst h
  have s := same_self (mh := mh1) (d := 12) (x := .tup [.str "told", x]) (by simp [d.up])
  unfold t__law_tells tellsM hearR
  simp [le2, s]
theorem refuse_ok {mh mh1 : MH} {r : R PV} {c : Str} {w : PV} (h : r = .exc c w mh1) (hc : c ∈ cs) (d : Dp mh1 10 w) : t__law_refuses mh r [.str c, w] = gc mh (.ok (.bl true) mh1) := by
  subst h
  have s := same_self (mh := mh1) (d := 12) (x := .tup [.str c, w]) (by simp [d.up])
  unfold t__law_refuses tellsM hearR
  simp [le2, s, hc]
theorem ap0 {mh : MH} {xs : List PV} {y : PV} (h : xs.length < sizeLine) : appendV (.ref mh.length) y (mh ++ [.lst xs]) = .ok .non (mh ++ [.lst (xs ++ [y])]) := by
  simp [appendV, getM, h]
theorem ap1 {mh : MH} {A : MO} {xs : List PV} {y : PV} (h : xs.length < sizeLine) : appendV (.ref (mh.length + 1)) y (mh ++ [A, .lst xs]) = .ok .non (mh ++ [A, .lst (xs ++ [y])]) := by
  simp [appendV, getM, h]
theorem gL0 {mh r : MH} {xs : List PV} : getL (mh ++ .lst xs :: r) mh.length = some xs := by simp [getL]
theorem gL1 {mh r : MH} {A : MO} {xs : List PV} : getL (mh ++ A :: .lst xs :: r) (mh.length + 1) = some xs := by simp [getL]
theorem gL3 {mh r : MH} {A B C : MO} {xs : List PV} : getL (mh ++ A :: B :: C :: .lst xs :: r) (mh.length + 3) = some xs := by simp [getL]
theorem ad12 {mh : MH} {A : MO} {xs ys : List PV} (h : xs.length + ys.length ≤ sizeLine) : binV .Add (.ref (mh.length + 1)) (.ref (mh.length + 2)) (mh ++ [A, .lst xs, .lst ys]) = .ok (.ref (mh.length + 3)) (mh ++ [A, .lst xs, .lst ys, .lst (xs ++ ys)]) := by
  rw [add_refs (xs := xs) (ys := ys) (by simp) (by simp) h]
  simp
theorem s_meth {f : PV → PV → MH → R PV} {o a : ES} {ps : PSt} {mh mh2 : MH} {n : Nat} {xs : List PV} (h1 : o ps mh = .ok (.ref n) mh2) (h2 : getL mh2 n = some xs) : eMeth1 f o a ps mh = (a ps mh2).bind fun y mh => f (.ref n) y mh := by
  simp [eMeth1, h1, h2]
theorem gc_app {mh r : MH} {v : PV} : ∃ r', gc mh (.ok v (mh ++ r)) = .ok v (mh ++ r') := by
  unfold gc
  by_cases c : GcOk mh (mh ++ r) v
  · exact ⟨[], by simp only; rw [if_pos c]; simp⟩
  · exact ⟨r, if_neg c⟩
theorem s_tells {m : MH → R PV → List PV → R PV} {me : ES} {mr : AS} {ps : PSt} {mh : MH} : eTells m me mr ps mh = (mr ps mh).bind fun xs mh => m mh (me ps mh) xs := rfl
theorem same03 {mh : MH} {A B : MO} {xs : List PV} (hl : xs.length ≤ 1000) (h : ∀ x ∈ xs, Dp (mh ++ [.lst xs, A, B, .lst xs]) 11 x) : f__law_same 12 [.ref mh.length, .ref (mh.length + 3)] (mh ++ [.lst xs, A, B, .lst xs]) = .ok (.bl true) (mh ++ [.lst xs, A, B, .lst xs]) :=
  same_refs (d := 11) gL0 gL3 hl fun x hx => same_self (h x hx)
theorem s_meth1 {f : PV → PV → MH → R PV} {o a : ES} {ps : PSt} {mh : MH} : eMeth1 f o a ps mh = (o ps mh).bind fun x mh => match x with
  | .ref n => match getL mh n with
    | some _ => (a ps mh).bind fun y mh => f (.ref n) y mh
    | none => .stk
  | _ => .stk := rfl
theorem sb (n : Nat) (h : n ≤ 18) : n ≤ sizeLine := Nat.le_trans h z18
theorem sl (n : Nat) (h : n < 18) : n < sizeLine := Nat.lt_of_lt_of_le h z18
theorem pair_ok {n : Nat} {a b c d : Int} (mh : MH) (g : Gd n a b) (g2 : Gd n c d) (hn : n ≤ 600) (h0 : 0 < n) : ∃ r, f__law_pair_right [rt a b, rt c d] mh = .ok (.bl true) (mh ++ r) := by
  have P := fun mh => plus_ok (mh := mh) g g2 (by omega) h0
  have M := fun mh => minus_ok (mh := mh) g g2 (by omega) h0
  have T := fun mh => times_ok (mh := mh) g g2 (by omega) h0
  have C := fun mh => compare_ok (mh := mh) g g2 (by omega) h0
  have P' := fun mh => lawplus_ok (mh := mh) g g2 (by omega) h0
  have M' := fun mh => lawless_ok (mh := mh) g g2 (by omega) h0
  have T' := fun mh => lawtimes_ok (mh := mh) g g2 (by omega) h0
  have C' := fun mh => lawcmp_ok (mh := mh) g g2 (by omega) h0
  have F := fun mh => floor_ok (mh := mh) g (by omega) h0
  have K := fun mh => ceil_ok (mh := mh) g (by omega) h0
  have F' := fun mh => lawfloor_ok (mh := mh) g (by omega) h0
  have K' := fun mh => lawceil_ok (mh := mh) g (by omega) h0
  have I := fun mh => is_ratio_ok g2 mh
  have PM := fun mh => plus_minus (mh := mh) g g2 hn h0
  have TT : ∀ mh, t__law_tells mh (.ok (rt a b) mh) [rt a b] = .ok (.bl true) mh := fun mh => by rw [told_ok rfl (by simp)]; simp
  generalize hP : rt (lo1 (a * d + c * b) (b * d)) (lo2 (a * d + c * b) (b * d)) = vp at *
  have dP : ∀ mh k, Dp mh (k + 2) vp := fun mh k => by rw [← hP]; simp
  generalize hM : rt (lo1 (a * d - c * b) (b * d)) (lo2 (a * d - c * b) (b * d)) = vm at *
  have dM : ∀ mh k, Dp mh (k + 2) vm := fun mh k => by rw [← hM]; simp
  have OT := fun mh hc => over_times (mh := mh) g g2 hn h0 hc
  generalize hT : rt (lo1 (a * c) (b * d)) (lo2 (a * c) (b * d)) = vt at *
  have dT : ∀ mh k, Dp mh (k + 2) vt := fun mh k => by rw [← hT]; simp
  generalize (if a * d < c * b then (-1 : Int) else if c * b < a * d then 1 else 0) = vc at *
  suffices h : ∃ r, endB (m__law_pair_right [some (rt a b), some (rt c d), none, none] mh) = .ok (.bl true) (mh ++ r) by
    obtain ⟨r, h⟩ := h
    obtain ⟨r', h'⟩ := gc_app (mh := mh) (r := r) (v := .bl true)
    refine ⟨r', ?_⟩
    rw [← h', ← h]
    rfl
  by_cases hc : c = 0
  · have O := fun mh => over_no (mh := mh) g g2 (by omega) h0 hc
    have sm := fun H h => same03 (mh := mh) (A := H) (B := .lst [.tup [.str "told", .int (a / b)], .tup [.str "told", .int (-(-a / b))], .tup [.str "told", .bl true]]) (xs := [.tup [.str "told", vp], .tup [.str "told", vm], .tup [.str "told", vt], .tup [.str "told", .int vc], .tup [.str "ByNought", rt a b], .tup [.str "told", .int (a / b)], .tup [.str "told", .int (-(-a / b))], .tup [.str "told", .bl true]]) (by simp) h
    simp [dP, dM, dT] at sm
    subst hc
    simp [m__law_pair_right, s_meth1, s_hear, hearR, P, M, T, C, O, F, K, I, P', M', T', C', F', K', permL, newL, ap0, ap1, gL0, gL1, gL3, sb, sl, le2, cs, ad12]
    simp [sm, s_tells, M, PM, TT]
  · have O := fun mh => over_ok (mh := mh) g g2 (by omega) h0 hc
    have O' := fun mh => lawover_ok (mh := mh) g g2 (by omega) h0 hc
    have OT' := fun mh => OT mh hc
    obtain ⟨x, y, ex, _⟩ := ov_gd g g2 (by omega) h0 hc
    rw [ex] at O O'
    have sm := fun H h => same03 (mh := mh) (A := H) (B := .lst [.tup [.str "told", .int (a / b)], .tup [.str "told", .int (-(-a / b))], .tup [.str "told", .bl true]]) (xs := [.tup [.str "told", vp], .tup [.str "told", vm], .tup [.str "told", vt], .tup [.str "told", .int vc], .tup [.str "told", rt x y], .tup [.str "told", .int (a / b)], .tup [.str "told", .int (-(-a / b))], .tup [.str "told", .bl true]]) (by simp) h
    simp [dP, dM, dT] at sm
    simp [m__law_pair_right, s_meth1, s_hear, hearR, P, M, T, C, O, F, K, I, P', M', T', C', O', F', K', permL, newL, ap0, ap1, gL0, gL1, gL3, sb, sl, le2, cs, ad12, hc]
    simp [sm, s_tells, M, PM, TT, T, OT', hc]
end Kx

namespace Kx
open PySem PySem.Spec PyProof.Rows L2 Px
/-! ## what no whole number is -/
structure Fl2 (v : PV) : Prop where
  no : ∀ mh, f_is_whole [v] mh = .ok (.bl false) mh
  dp : ∀ mh, Dp mh 5 v
inductive Odd (n : Nat) (mh : MH) : PV → Prop
  | flat {v : PV} : Fl2 v → Odd n mh v
  | list {r : Nat} : r ≠ n → mh[r]? = some (.lst [.int 1]) → Odd n mh (.ref r)
theorem Odd.mono {n : Nat} {mh mh' : MH} {v : PV} (b : Odd n mh v) (h : Hx n mh mh') : Odd n mh' v := by
  cases b with
  | flat f => exact .flat f
  | list hr e => exact .list hr (by rw [h.old _ (List.getElem?_eq_some_iff.mp e).1 hr, e])
theorem Odd.dp {n : Nat} {mh : MH} {v : PV} (b : Odd n mh v) : Dp mh 5 v := by
  cases b with
  | flat f => exact f.dp mh
  | @list r hr e => exact ⟨[.int 1], by simp [getL, e], by simp, by simp⟩
theorem Odd.no {n : Nat} {mh : MH} {v : PV} (b : Odd n mh v) : f_is_whole [v] mh = .ok (.bl false) mh := by
  cases b with
  | flat f => exact f.no mh
  | list hr e => simp [f_is_whole, runB, m_is_whole, isTyP, getL, e]
theorem ratio_bad0 {x y : PV} {mh : MH} (h : f_is_whole [x] mh = .ok (.bl false) mh) : f_ratio [x, y] mh = .exc "BadRatio" (.tup [x, y]) mh := by
  simp [f_ratio, runB, m_ratio, h, le2]
theorem ratio_bad1 {i : Int} {y : PV} {mh : MH} (h : f_is_whole [y] mh = .ok (.bl false) mh) : f_ratio [.int i, y] mh = .exc "BadRatio" (.tup [.int i, y]) mh := by
  simp [f_ratio, runB, m_ratio, whole_int, h, le2]
theorem ratio_0 {i : Int} {mh : MH} : f_ratio [.int i, .int 0] mh = .exc "BadRatio" (.tup [.int i, .int 0]) mh := by
  simp [f_ratio, runB, m_ratio, whole_int, le2]
theorem ratio_pos {a b : Int} {mh : MH} (h : 0 < b) (s : Sm 8000 b) : f_ratio [.int a, .int b] mh = .ok (rt (lo1 a b) (lo2 a b)) mh := by
  have h1 : ¬ b = 0 := by omega
  simp [f_ratio, runB, m_ratio, whole_int, le2, h, h1, lowest_ok mh h s]
theorem ratio_neg {a b : Int} {mh : MH} (h : b < 0) (s : Sm 8000 b) : f_ratio [.int a, .int b] mh = .ok (rt (lo1 (-a) (-b)) (lo2 (-a) (-b))) mh := by
  have h1 : ¬ b = 0 := by omega
  have h2 : ¬ 0 < b := by omega
  have l := lowest_ok (a := -a) mh (show 0 < -b by omega) s.neg
  simp [f_ratio, runB, m_ratio, whole_int, le2, h2, h1, l]
theorem hear_ratio (mh : MH) (a b : Int) (s : Sm 8000 b) : ∃ z, (∀ mh, hearR cs (f_ratio [.int a, .int b] mh) = .ok z mh) ∧ (∀ ps : PSt, ps[1]? = some (some (.int a)) → ps[2]? = some (some (.int b)) → ∀ mh, eIf (tBl (eCmp .Eq (eVar 2) (eC (.int 0)))) (eTup (aCons (eC (.str "BadRatio")) (aCons (eTup (aCons (eVar 1) (aCons (eVar 2) aNil))) aNil))) (eTup (aCons (eC (.str "told")) (aCons (eCall f__law_lowest (aCons (eVar 1) (aCons (eVar 2) aNil))) aNil))) ps mh = .ok z mh) ∧ ∀ mh, Dp mh 12 z := by
  by_cases h0 : b = 0
  · subst h0
    exact ⟨.tup [.str "BadRatio", rt a 0], fun mh => by rw [ratio_0]; simp [hearR, cs], fun ps h1 h2 mh => by simp [h1, h2, le2], fun mh => by simp⟩
  · by_cases h : b < 0
    · exact ⟨.tup [.str "told", rt (lo1 (-a) (-b)) (lo2 (-a) (-b))], fun mh => by rw [ratio_neg h s]; simp [hearR], fun ps h1 h2 mh => by simp [h1, h2, le2, h0, lawlow_neg mh h s], fun mh => by simp⟩
    · exact ⟨.tup [.str "told", rt (lo1 a b) (lo2 a b)], fun mh => by rw [ratio_pos (by omega) s]; simp [hearR], fun ps h1 h2 mh => by simp [h1, h2, le2, h0, lawlow_pos mh (show 0 < b by omega) s], fun mh => by simp⟩
theorem made_ok {n : Nat} {mh : MH} (j : Jar n mh) : ∃ mh', f__law_made_right [.ref n] mh = .ok (.bl true) mh' ∧ Hx n mh mh' := by
  obtain ⟨a, mh1, e1, k1, sa⟩ := any_ok j
  obtain ⟨b, mh2, e2, k2, sb'⟩ := any_ok k1.Jar
  obtain ⟨z, hz, hz2, dz⟩ := hear_ratio mh2 a b (sb'.mono (by decide))
  have sz := fun mh => same_self (dz mh)
  have q2 := hz2 [some (.ref n), some (.int a), some (.int b), none, none, none] rfl rfl mh2
  let m3 := mh2 ++ [MO.lst [.int 1]]
  have k3 : Hx n mh2 m3 := Hx.app k2.Jar
  let l1 : List PV := [.bl true, .non, .str "1", rt 1 1, .ref mh2.length]
  obtain ⟨v, mh4, e4, k4, hv⟩ := oneL_ok (xs := l1) k3.Jar (by simp [l1]) (by simp [l1])
  have er4 : mh4[mh2.length]? = some (.lst [.int 1]) := by
    rw [k4.old mh2.length (by simp [m3]) (by have := k2.Jar.lt; omega)]
    simp [m3]
  have od : Odd n mh4 v := by
    simp only [l1, List.mem_cons, List.mem_nil_iff, or_false] at hv
    rcases hv with rfl | rfl | rfl | rfl | rfl
    · exact .flat ⟨fun mh => whole_no _ _ (.inr ⟨_, rfl⟩), fun mh => by simp⟩
    · exact .flat ⟨fun mh => whole_no _ _ (.inl rfl), fun mh => by simp⟩
    · exact .flat ⟨fun mh => whole_no _ _ (.inl rfl), fun mh => by simp⟩
    · exact .flat ⟨fun mh => whole_no _ _ (.inl rfl), fun mh => by simp⟩
    · exact .list (by have := k2.Jar.lt; omega) er4
  obtain ⟨u, mh5, e5, k5, hu⟩ := oneL_ok (xs := [.int b, .int 0, v]) k4.Jar (by simp) (by simp)
  have od5 := od.mono k5
  have du : Dp mh5 5 u := by
    simp only [List.mem_cons, List.mem_nil_iff, or_false] at hu
    rcases hu with rfl | rfl | rfl
    · simp
    · simp
    · exact od5.dp
  have r1 := refuse_ok (mh := mh5) (ratio_bad0 (y := u) od5.no) (by simp [cs]) (by
    have := od5.dp.mono (show 5 ≤ 9 by decide)
    have := du.mono (show 5 ≤ 9 by decide)
    simp [*])
  have r2 := refuse_ok (mh := mh5) (ratio_bad1 (i := a) od5.no) (by simp [cs]) (by
    have := od5.dp.mono (show 5 ≤ 9 by decide)
    simp [*])
  rw [gc_same] at r1 r2
  obtain ⟨mh6, g6, k6, _⟩ := gc_hx (v := .bl true) ((((k1.trans k2).trans k3).trans k4).trans k5)
  refine ⟨mh6, ?_, k6⟩
  rw [← g6]
  have b : endB (m__law_made_right [some (.ref n), none, none, none, none, none] mh) = .ok (.bl true) mh5 := by
    generalize hE : eIf (tBl (eCmp .Eq (eVar 2) (eC (.int 0)))) (eTup (aCons (eC (.str "BadRatio")) (aCons (eTup (aCons (eVar 1) (aCons (eVar 2) aNil))) aNil))) (eTup (aCons (eC (.str "told")) (aCons (eCall f__law_lowest (aCons (eVar 1) (aCons (eVar 2) aNil))) aNil))) = EE at q2
    unfold m__law_made_right
    rw [hE]
    simp [m3, l1] at e4
    simp [gTupS, gsCons, gsNil, e1, e2, q2, hz, sz, le2, z1, z3, z5, newL, permL, e4, e5, s_tells, r1, r2]
  rw [← b]
  rfl
end Kx

namespace Kx
open PySem PySem.Spec PyProof.Rows L2 Px
theorem for_lst {L : Nat} {xs : List PV} {m : Nat} {g : GS} {body : SS} (Inv : Nat → PSt → MH → Prop) (hL : ∀ i ps mh, Inv i ps mh → getL mh L = some xs) (step : ∀ i (h : i < xs.length) ps mh, Inv i ps mh → ∃ ps1 mh1 ps2 mh2, g xs[i] ps mh = .ok .nx ps1 mh1 ∧ body ps1 mh1 = .ok .nx ps2 mh2 ∧ Inv (i + 1) ps2 mh2) :
    ∀ k i fuel ps mh, i + k = xs.length → k ≤ fuel → Inv i ps mh → ∃ ps' mh', forL (itList L m).nxt g body fuel i ps mh = .ok .nx ps' mh' ∧ Inv xs.length ps' mh' := by
  intro k
  induction k with
  | zero =>
    intro i fuel ps mh hi _ I
    refine ⟨ps, mh, ?_, by have : i = xs.length := by omega
                           rwa [this] at I⟩
    unfold forL
    have nx : (itList L m).nxt i mh = .ok none mh := by
      simp [itList, hL i ps mh I]
      omega
    rw [nx]
  | succ k ih =>
    intro i fuel ps mh hi hf I
    obtain ⟨fuel, rfl⟩ : ∃ f, fuel = f + 1 := ⟨fuel - 1, by omega⟩
    obtain ⟨ps1, mh1, ps2, mh2, h1, h2, h3⟩ := step i (by omega) ps mh I
    obtain ⟨ps', mh', h4, h5⟩ := ih (i + 1) fuel ps2 mh2 (by omega) (by omega) h3
    refine ⟨ps', mh', ?_, h5⟩
    unfold forL
    have : i < xs.length := by omega
    have nx : (itList L m).nxt i mh = .ok (some xs[i]) mh := by simp [itList, hL i ps mh I, this]
    simp only [nx, h1, s_on, h2]
    exact h4
section
variable {n : Nat} {mh : MH} {v : PV} (B : Bad n mh v)
include B
theorem asked_bad : f_asked_ratio [v] mh = .exc "BadRatio" v mh := by
  simp [f_asked_ratio, runB, m_asked_ratio, B.no]
theorem bad1 {x : Str} {f : List PV → MH → R PV} (h : (x, 2, f) ∈ fvs) (w : PV) : f [v, w] mh = .exc "BadRatio" v mh := by
  simp only [fvs, List.mem_cons, List.mem_nil_iff, or_false, Prod.mk.injEq] at h
  rcases h with ⟨_, _, rfl⟩ | ⟨_, _, rfl⟩ | ⟨_, _, rfl⟩ | ⟨_, _, rfl⟩ | ⟨_, _, rfl⟩
  · simp [f_plus, runB, m_plus, asked_bad B]
  · simp [f_minus, runB, m_minus, asked_bad B]
  · simp [f_times, runB, m_times, asked_bad B]
  · simp [f_over, runB, m_over, asked_bad B]
  · simp [f_compare, runB, m_compare, asked_bad B]
theorem bad2 {x : Str} {f : List PV → MH → R PV} (h : (x, 2, f) ∈ fvs) {k : Nat} {a b : Int} (g : Gd k a b) : f [rt a b, v] mh = .exc "BadRatio" v mh := by
  simp only [fvs, List.mem_cons, List.mem_nil_iff, or_false, Prod.mk.injEq] at h
  rcases h with ⟨_, _, rfl⟩ | ⟨_, _, rfl⟩ | ⟨_, _, rfl⟩ | ⟨_, _, rfl⟩ | ⟨_, _, rfl⟩
  · simp [f_plus, runB, m_plus, asked_bad B, asked_ok g]
  · simp [f_minus, runB, m_minus, asked_bad B, asked_ok g]
  · simp [f_times, runB, m_times, asked_bad B, asked_ok g]
  · simp [f_over, runB, m_over, asked_bad B, asked_ok g]
  · simp [f_compare, runB, m_compare, asked_bad B, asked_ok g]
theorem bad_wb : f_whole_below [v] mh = .exc "BadRatio" v mh := by
  simp [f_whole_below, runB, m_whole_below, asked_bad B]
theorem bad_wa : f_whole_above [v] mh = .exc "BadRatio" v mh := by
  simp [f_whole_above, runB, m_whole_above, asked_bad B]
theorem denied_ok : f__law_is_denied [v] mh = .ok (.bl true) mh := by
  have t := told_ok (mh := mh) B.no (by simp)
  rw [gc_same] at t
  simp [f__law_is_denied, runB, m__law_is_denied, s_tells, t]
end
def fns : List PV := [.fn "plus", .fn "minus", .fn "times", .fn "over", .fn "compare"]
theorem lookup_fv (x : PV) (h : x ∈ fns) : ∃ y f, x = .fn y ∧ fvs.lookup y = some (2, f) ∧ (y, 2, f) ∈ fvs := by
  simp only [fns, List.mem_cons, List.mem_nil_iff, or_false] at h
  rcases h with rfl | rfl | rfl | rfl | rfl
  · exact ⟨"plus", f_plus, rfl, rfl, by simp [fvs]⟩
  · exact ⟨"minus", f_minus, rfl, rfl, by simp [fvs]⟩
  · exact ⟨"times", f_times, rfl, rfl, by simp [fvs]⟩
  · exact ⟨"over", f_over, rfl, rfl, by simp [fvs]⟩
  · exact ⟨"compare", f_compare, rfl, rfl, by simp [fvs]⟩
theorem s_callV {fns : List (Str × Nat × (List PV → MH → R PV))} {i : Nat} {a : AS} {ps : PSt} {mh mh1 : MH} {y : Str} {f : List PV → MH → R PV} {p q : PV} (h1 : ps[i]? = some (some (.fn y))) (h2 : fns.lookup y = some (2, f)) (h3 : a ps mh = .ok [p, q] mh1) : eCallV fns i a ps mh = f [p, q] mh1 := by
  unfold eCallV
  rw [h1]
  simp only [h2, h3, rb_ok]
  rfl
noncomputable abbrev rfB : SS := (sSeq (sIf (tNotP (tTru (eTells t__law_refuses (eCallV fvs 4 (aCons (eVar 2) (aCons (eCall f__law_one (aCons (eVar 0) (aCons (eLst (aCons (eVar 1) (aCons (eVar 3) aNil))) aNil))) aNil))) (aCons (eC (.str "BadRatio")) (aCons (eVar 2) aNil))))) (sSeq (sRet (eC (.bl false))) sNext) sNext) (sSeq (sIf (tNotP (tTru (eTells t__law_refuses (eCallV fvs 4 (aCons (eVar 1) (aCons (eVar 2) aNil))) (aCons (eC (.str "BadRatio")) (aCons (eVar 2) aNil))))) (sSeq (sRet (eC (.bl false))) sNext) sNext) sNext))
theorem rf_step {n : Nat} {mh : MH} {a b : Int} {v w x : PV} (j : Jar n mh) (g : Gd 240 a b) (B : Bad n mh v) (hx : x ∈ fns) {e : Option PV} : ∃ mh', rfB [some (.ref n), some (rt a b), some v, some w, some x, e] mh = .ok .nx [some (.ref n), some (rt a b), some v, some w, some x, e] mh' ∧ Hx n mh mh' := by
  obtain ⟨y, f, rfl, hl, hm⟩ := lookup_fv x hx
  obtain ⟨u, mh1, e1, k1, _⟩ := oneL_ok (xs := [rt a b, w]) j (by simp) (by simp)
  have B1 := B.mono k1
  have t1 : eCallV fvs 4 (aCons (eVar 2) (aCons (eCall f__law_one (aCons (eVar 0) (aCons (eLst (aCons (eVar 1) (aCons (eVar 3) aNil))) aNil))) aNil)) [some (.ref n), some (rt a b), some v, some w, some (.fn y), e] mh = .exc "BadRatio" v mh1 := by
    rw [s_callV rfl hl (p := v) (q := u) (mh1 := mh1) (by simp [le2, newL, e1])]
    exact bad1 B1 hm u
  have r1 := refuse_ok (mh := mh) t1 (by simp [cs]) (B1.dp.mono (by decide))
  obtain ⟨mh2, g2, k2, _⟩ := gc_hx (v := .bl true) k1
  rw [g2] at r1
  have B2 := B.mono k2
  have t2 : eCallV fvs 4 (aCons (eVar 1) (aCons (eVar 2) aNil)) [some (.ref n), some (rt a b), some v, some w, some (.fn y), e] mh2 = .exc "BadRatio" v mh2 := by
    rw [s_callV rfl hl (p := rt a b) (q := v) (mh1 := mh2) (by simp)]
    exact bad2 B2 hm g
  have r2 := refuse_ok (mh := mh2) t2 (by simp [cs]) (B2.dp.mono (by decide))
  rw [gc_same] at r2
  refine ⟨mh2, ?_, k2⟩
  rw [t1] at r1
  rw [t2] at r2
  simp [s_tells, t1, r1, t2, r2]
end Kx

namespace Kx
open PySem PySem.Spec PyProof.Rows L2 Px
theorem refused_ok {n : Nat} {mh : MH} {a b : Int} (j : Jar n mh) (g : Gd 240 a b) : ∃ mh', f__law_refused_right [.ref n, rt a b] mh = .ok (.bl true) mh' ∧ Hx n mh mh' := by
  obtain ⟨v, mh1, e1, k1, B1⟩ := no_ok j
  obtain ⟨w, mh2, e2, k2, B2⟩ := no_ok k1.Jar
  have B := B1.mono k2
  let m3 := mh2 ++ [MO.lst fns]
  have k3 : Hx n mh2 m3 := Hx.app k2.Jar
  have hL3 : m3[mh2.length]? = some (.lst fns) := by simp [m3]
  have hLn : mh2.length ≠ n := by have := k2.Jar.lt; omega
  let Inv : Nat → PSt → MH → Prop := fun i ps mh' => ∃ q, ps = [some (.ref n), some (rt a b), some v, some w, q, none] ∧ Hx n m3 mh'
  obtain ⟨ps', mh4, e4, q, rfl, k4⟩ := for_lst (L := mh2.length) (xs := fns) (m := fns.length) (g := gNm 4) (body := rfB) Inv
    (fun i ps mh' ⟨q, _, k⟩ => by
      have : mh'[mh2.length]? = some (.lst fns) := by rw [k.old mh2.length (by simp [m3]) hLn, hL3]
      simp [getL, this])
    (fun i hi ps mh' ⟨q, ep, k⟩ => by
      subst ep
      obtain ⟨mh6, e6, k6⟩ := rf_step (w := w) (x := fns[i]) (e := none) k.Jar g (B.mono (k3.trans k)) (List.getElem_mem hi)
      exact ⟨_, _, _, _, rfl, e6, _, rfl, k.trans k6⟩) fns.length 0 fns.length [some (.ref n), some (rt a b), some v, some w, none, none] m3 (by omega) (Nat.le_refl _) ⟨_, rfl, Hx.self k3.Jar⟩
  have hfor : sFor (iSeqP (eLst (aCons (eC (.fn "plus")) (aCons (eC (.fn "minus")) (aCons (eC (.fn "times")) (aCons (eC (.fn "over")) (aCons (eC (.fn "compare")) aNil))))))) (gNm 4) rfB [some (.ref n), some (rt a b), some v, some w, none, none] mh2 = .ok .nx [some (.ref n), some (rt a b), some v, some w, q, none] mh4 := by
    have it : iSeqP (eLst (aCons (eC (.fn "plus")) (aCons (eC (.fn "minus")) (aCons (eC (.fn "times")) (aCons (eC (.fn "over")) (aCons (eC (.fn "compare")) aNil)))))) [some (.ref n), some (rt a b), some v, some w, none, none] mh2 = .ok (itList mh2.length fns.length) m3 := by
      simp [iSeqP, z5, newL, iterP, getL, m3, fns]
    unfold sFor
    rw [it, rs_ok]
    exact e4
  have B4 := B.mono (k3.trans k4)
  have t1 : f_over [v, rt 0 1] mh4 = .exc "BadRatio" v mh4 := bad1 B4 (x := "over") (by simp [fvs]) _
  have r1 := refuse_ok (mh := mh4) t1 (by simp [cs]) (B4.dp.mono (by decide))
  rw [gc_same] at r1
  have d1 := denied_ok B4
  have k5 : Hx n mh4 (mh4 ++ [.lst [.tup [.str "BadRatio", v], .tup [.str "BadRatio", v]], .lst [.tup [.str "BadRatio", v]], .lst [.tup [.str "BadRatio", v], .tup [.str "BadRatio", v]]]) := Hx.app k4.Jar
  have wb : ∀ r, f_whole_below [v] (mh4 ++ r) = .exc "BadRatio" v (mh4 ++ r) := fun r => bad_wb (B4.mono (Hx.app k4.Jar))
  have wb0 : f_whole_below [v] mh4 = .exc "BadRatio" v mh4 := bad_wb B4
  have wa : ∀ r, f_whole_above [v] (mh4 ++ r) = .exc "BadRatio" v (mh4 ++ r) := fun r => bad_wa (B4.mono (Hx.app k4.Jar))
  have sm : f__law_same 12 [.ref mh4.length, .ref (mh4.length + 2)] (mh4 ++ [.lst [.tup [.str "BadRatio", v], .tup [.str "BadRatio", v]], .lst [.tup [.str "BadRatio", v]], .lst [.tup [.str "BadRatio", v], .tup [.str "BadRatio", v]]]) = .ok (.bl true) (mh4 ++ [.lst [.tup [.str "BadRatio", v], .tup [.str "BadRatio", v]], .lst [.tup [.str "BadRatio", v]], .lst [.tup [.str "BadRatio", v], .tup [.str "BadRatio", v]]]) := by
    refine same_refs (d := 11) (xs := [.tup [.str "BadRatio", v], .tup [.str "BadRatio", v]]) (by simp [getL]) (by simp [getL]) (by simp) fun x hx => same_self ?_
    have := (B4.mono k5).dp.mono (show 5 ≤ 10 by decide)
    simp only [List.mem_cons, List.mem_nil_iff, or_false, or_self] at hx
    subst hx
    simp [this]
  have ml : ∀ z : PV, binV .Mult (.ref (mh4.length + 1)) (.int 2) (mh4 ++ [.lst [z, z], .lst [z]]) = .ok (.ref (mh4.length + 2)) (mh4 ++ [.lst [z, z], .lst [z], .lst [z, z]]) := fun z => by
    simp [binV, mulV, getM, newL, le2]
  obtain ⟨mh6, g6, k6, _⟩ := gc_hx (v := .bl true) (((((k1.trans k2).trans k3).trans k4).trans k5))
  refine ⟨mh6, ?_, k6⟩
  rw [← g6]
  have b : endB (m__law_refused_right [some (.ref n), some (rt a b), none, none, none, none] mh) = .ok (.bl true) (mh4 ++ [.lst [.tup [.str "BadRatio", v], .tup [.str "BadRatio", v]], .lst [.tup [.str "BadRatio", v]], .lst [.tup [.str "BadRatio", v], .tup [.str "BadRatio", v]]]) := by
    simp [m__law_refused_right, gTupS, gsCons, gsNil, e1, e2, le2, hfor]
    rw [t1] at r1
    simp [s_tells, t1, r1, d1, z1, newL, s_meth1, s_hear, hearR, wb0, wa, cs, gL0, ap0, sl, ml, sm, le2]
  rw [← b]
  rfl
end Kx

namespace Kx
open PySem PySem.Spec PyProof.Rows L2 Px
theorem mapO_int {mh : MH} {k : Nat} : ∀ ns : List Int, mapO (toD mh (k + 1)) (ns.map PV.int) = some (ns.map PyData.int)
  | [] => rfl
  | x :: xs => by
    unfold List.map mapO
    rw [mapO_int xs]
    rfl
theorem toD_ints {mh : MH} {r : Nat} {ns : List Int} (h : getL mh r = some (ns.map PV.int)) : toD mh deepD (.ref r) = some (.list (ns.map PyData.int)) := by
  show toD mh (58 + 1 + 1) (.ref r) = _
  unfold toD
  simp only [h]
  rw [mapO_int]
  rfl
theorem shaped_ints (ns : List Int) : SeqAt.shaped (.list (ns.map PyData.int)) = true := by
  have h1 : ∀ ns : List Int, PyData.canLayAll0 (ns.map PyData.int) = true := fun ns => by
    induction ns with
    | nil => simp [PyData.canLayAll0]
    | cons x xs ih => simp [PyData.canLayAll0, PyData.canLay0, ih]
  have h2 : ∀ ns : List Int, PyData.depthAll (ns.map PyData.int) ≤ 1 := fun ns => by
    induction ns with
    | nil => simp [PyData.depthAll]
    | cons x xs ih =>
      simp [PyData.depthAll, PyData.depth]
      omega
  have := h2 ns
  simp [SeqAt.shaped, PyData.canLay0, h1, PyData.depth]
  omega
theorem cmp_nil {mh : MH} {r s : Nat} {ns : List Int} (h : getL mh r = some (ns.map PV.int)) (h2 : getL mh s = some []) : eqO (.ref r) (.ref s) mh = some (decide (ns = [])) := by
  show eqD (.ref r) (.ref s) mh = _
  have h2' : getL mh s = some (([] : List Int).map PV.int) := h2
  unfold eqD
  rw [toD_ints h, toD_ints h2']
  simp only [shaped_ints, Bool.and_self, if_true]
  cases ns with
  | nil => rfl
  | cons a b => rfl
theorem ne_nil {mh : MH} {r s : Nat} {ns : List Int} (h : getL mh r = some (ns.map PV.int)) (h2 : getL mh s = some []) : cmpV .NotEq (.ref r) (.ref s) mh = .ok (.bl (!decide (ns = []))) mh := by
  show okB ((eqO (.ref r) (.ref s) mh).map not) mh = _
  rw [cmp_nil h h2]
  rfl
theorem eq_nil {mh : MH} {r s : Nat} (h : getL mh r = some []) (h2 : getL mh s = some []) : cmpV .Eq (.ref r) (.ref s) mh = .ok (.bl true) mh := by
  show okB (eqO (.ref r) (.ref s) mh) mh = _
  rw [cmp_nil (ns := []) h h2]
  rfl
theorem gc_ref {mh mh' : MH} {r : Nat} (h : mh.length ≤ r) : gc mh (.ok (.ref r) mh') = .ok (.ref r) mh' := by
  unfold gc
  simp only
  rw [if_neg]
  intro c
  have := c.2.1 r (by simp [refsV])
  omega
theorem max_nn (c : Int) : 0 ≤ (if -1 - c > c then -1 - c else c) := by
  split <;> omega
theorem pool_ok {mh : MH} {ns : List Int} {k : Int} (h : getL mh 0 = some (ns.map PV.int)) (k0 : 0 ≤ k) (k1 : k < 10) : ∃ r mh', f__law_pool [.ref 0, .int k] mh = .ok (.ref r) mh' ∧ mh.length ≤ r ∧ Jar r mh' ∧ ∀ i, i < mh.length → mh'[i]? = mh[i]? := by
  have hl : lenV [.ref 0] mh = .ok (.int ns.length) mh := by simpa using len_gl h
  have hl1 : ∀ r, 0 < mh.length → lenV [.ref 0] (mh ++ r) = .ok (.int ns.length) (mh ++ r) := fun r h0 => by
    have : getL (mh ++ r) 0 = some (ns.map PV.int) := by
      unfold getL at h ⊢
      rw [List.getElem?_append_left h0]
      exact h
    simpa using len_gl this
  have h0 : 0 < mh.length := by
    unfold getL at h
    cases e : mh[0]? with
    | none => rw [e] at h; cases h
    | some o => exact (List.getElem?_eq_some_iff.mp e).1
  have main : ∃ c mh1 R, mh1 = mh ++ R ∧ sIf (tBl (eCmp .Lt (eVar 1) (eCall lenV (aCons (eVar 0) aNil)))) (sSeq (sAsg (eIx (eVar 0) (eVar 1)) (gNm 2)) sNext) (sSeq (sIf (tBl (eCmp .NotEq (eVar 0) (eLst aNil))) (sSeq (sAsg (eIx (eVar 0) (eC (.int 0))) (gNm 2)) sNext) sNext) sNext) [some (.ref 0), some (.int k), some (.int 0), none, none] mh = .ok .nx [some (.ref 0), some (.int k), some (.int c), none, none] mh1 := by
    by_cases hk : k < ns.length
    · obtain ⟨i, rfl⟩ := Int.eq_ofNat_of_zero_le k0
      have hi : i < ns.length := by omega
      have ix := ix_gl h i (by simpa using hi)
      refine ⟨ns[i], mh, [], by simp, ?_⟩
      simp at ix
      simp [hl, hi, ix]
    · by_cases hn : ns = []
      · subst hn
        refine ⟨0, mh ++ [.lst []], _, rfl, ?_⟩
        have q := ne_nil (mh := mh ++ [.lst []]) (r := 0) (s := mh.length) (ns := []) (by unfold getL at h ⊢; rw [List.getElem?_append_left h0]; exact h) (by simp [getL])
        have hk2 : ¬ k < 0 := by omega
        simp at hl
        simp [hl, hk2, newL, q, z0]
      · have h0' : getL (mh ++ [.lst []]) 0 = some (ns.map PV.int) := by unfold getL at h ⊢; rw [List.getElem?_append_left h0]; exact h
        have q := ne_nil (mh := mh ++ [.lst []]) (r := 0) (s := mh.length) (ns := ns) h0' (by simp [getL])
        have hpos : 0 < ns.length := List.length_pos_iff.mpr hn
        have ix := ix_gl h0' 0 (by simpa using hpos)
        simp at ix
        refine ⟨ns[0], mh ++ [.lst []], _, rfl, ?_⟩
        simp [hl, hk, newL, q, z0, hn, ix]
  obtain ⟨c, mh1, R, rfl, hm⟩ := main
  let big : Int := if -1 - c > c then -1 - c else c
  have hbig : 0 ≤ big := max_nn c
  have q0 : 0 ≤ k * k := Int.mul_nonneg k0 k0
  have qk : k * k ≤ 100 := by
    have := Int.mul_le_mul (show k ≤ 10 by omega) (show k ≤ 10 by omega) k0 (by decide)
    omega
  have m1 : CMulW 7919 k ∨ CMul 7919 k := mul64 (by omega)
  have m2 : CMulW (7919 * k) k ∨ CMul (7919 * k) k := mul64 (by omega)
  have m3 : CMulW 31 k ∨ CMul 31 k := mul64 (by omega)
  have m4 : ∀ x, CMulW x 48271 ∨ CMul x 48271 := fun x => mul64 (by decide)
  have p1 : (0 : Int) < 2147483629 := by decide
  have p2 : (0 : Int) < 2147483647 := by decide
  have q1 : ∀ mh, binV .Pow (.int 10) (.int 18) mh = .ok (.int (10 ^ 18)) mh := fun mh => v_pow (by decide)
  let mixed : Int := ((big % 2147483629 + 7919 * k * k + 31 * k + 17) * 48271) % 2147483647
  have hmx : 0 ≤ mixed := Int.emod_nonneg _ (by decide)
  have h' : getL (mh ++ R) 0 = some (ns.map PV.int) := by unfold getL at h ⊢; rw [List.getElem?_append_left h0]; exact h
  have hl' : lenV [.ref 0] (mh ++ R) = .ok (.int ns.length) (mh ++ R) := by simpa using len_gl h'
  have mb : ∀ f : Int, 0 ≤ f → f ≤ 1 → (CMulW big f ∨ CMul big f) := fun f h1 h2 => mul64 (by omega)
  have main2 : ∃ f : Int, 0 ≤ f ∧ endB (m__law_pool [some (.ref 0), some (.int k), none, none, none] mh) = .ok (.ref (mh ++ R).length) ((mh ++ R) ++ [.lst [.int (big * f), .int mixed]]) := by
    have e2 : maxV [.int c, .int (-1 - c)] (mh ++ R) = .ok (.int big) (mh ++ R) := rfl
    have hm' := hm
    unfold m__law_pool
    generalize (sIf (tBl (eCmp .Lt (eVar 1) (eCall lenV (aCons (eVar 0) aNil)))) (sSeq (sAsg (eIx (eVar 0) (eVar 1)) (gNm 2)) sNext) (sSeq (sIf (tBl (eCmp .NotEq (eVar 0) (eLst aNil))) (sSeq (sAsg (eIx (eVar 0) (eC (.int 0))) (gNm 2)) sNext) sNext) sNext)) = B at hm' ⊢
    have hx : ((big % 2147483629 + 7919 * k * k + 31 * k + 17) * 48271) % 2147483647 = mixed := rfl
    clear_value big mixed
    by_cases c1 : (10 : Int) ^ 18 ≤ big
    · by_cases c2 : k < ns.length
      · refine ⟨1, by decide, ?_⟩
        have c1' : (1000000000000000000 : Int) ≤ big := c1
        have m5 := mb 1 (by decide) (by decide)
        simp [hm', intV, e2, v_mod p1, v_mod p2, v_mul m1, v_mul m2, v_mul m3, v_mul (m4 _), hx, q1, c1', hl', c2, v_mul m5, newL, le2]
      · refine ⟨0, by decide, ?_⟩
        have c1' : (1000000000000000000 : Int) ≤ big := c1
        have m5 := mb 0 (by decide) (by decide)
        simp [hm', intV, e2, v_mod p1, v_mod p2, v_mul m1, v_mul m2, v_mul m3, v_mul (m4 _), hx, q1, c1', hl', c2, v_mul m5, newL, le2]
    · refine ⟨0, by decide, ?_⟩
      have c1' : ¬ (1000000000000000000 : Int) ≤ big := c1
      have m5 := mb 0 (by decide) (by decide)
      simp [hm', intV, e2, v_mod p1, v_mod p2, v_mul m1, v_mul m2, v_mul m3, v_mul (m4 _), hx, q1, c1', hl', v_mul m5, newL, le2]
  obtain ⟨f, hf, he⟩ := main2
  refine ⟨(mh ++ R).length, (mh ++ R) ++ [.lst [.int (big * f), .int mixed]], ?_, by simp, ⟨big * f, mixed, by simp, Int.mul_nonneg hbig hf, hmx⟩, fun i hi => ?_⟩
  · rw [← gc_ref (mh := mh) (r := (mh ++ R).length) (by simp), ← he]
    rfl
  · rw [List.append_assoc, List.getElem?_append_left hi]
end Kx

namespace Kx
open PySem PySem.Spec PyProof.Rows L2 Px
theorem lc_none {L m n0 : Nat} {xs : List PV} {g : GS} {c : TSm} {e : ES} {ps0 : PSt} (hc : ∀ x ∈ xs, ∀ mh, ∃ ps1 r, g x ps0 mh = .ok .nx ps1 mh ∧ c ps1 mh = .ok false (mh ++ r)) :
    ∀ k i fuel mh, i + k = xs.length → k ≤ fuel → getL mh L = some xs → ∃ r, lcL (itList L m).nxt g c e n0 ps0 fuel i mh = .ok (.ref n0) (mh ++ r) := by
  intro k
  induction k with
  | zero =>
    intro i fuel mh hi _ hL
    refine ⟨[], ?_⟩
    unfold lcL
    have nx : (itList L m).nxt i mh = .ok none mh := by
      simp [itList, hL]
      omega
    rw [nx]
    simp
  | succ k ih =>
    intro i fuel mh hi hf hL
    obtain ⟨fuel, rfl⟩ : ∃ f, fuel = f + 1 := ⟨fuel - 1, by omega⟩
    have hlt : i < xs.length := by omega
    obtain ⟨ps1, r, h1, h2⟩ := hc xs[i] (List.getElem_mem hlt) mh
    have hL2 : getL (mh ++ r) L = some xs := by
      have : L < mh.length := by
        unfold getL at hL
        cases e : mh[L]? with
        | none => rw [e] at hL; cases hL
        | some o => exact (List.getElem?_eq_some_iff.mp e).1
      unfold getL at hL ⊢
      rw [List.getElem?_append_left this]
      exact hL
    obtain ⟨r2, h3⟩ := ih (i + 1) fuel (mh ++ r) (by omega) (by omega) hL2
    refine ⟨r ++ r2, ?_⟩
    unfold lcL
    have nx : (itList L m).nxt i mh = .ok (some xs[i]) mh := by simp [itList, hL, hlt]
    simp only [nx, h1, s_on, h2]
    rw [h3, List.append_assoc]
def Good (t : PV) : Prop := ∃ a b c d, t = .tup [rt a b, rt c d] ∧ Gd 500 a b ∧ Gd 500 c d
theorem app_ok {mh : MH} {r : Nat} {P : List PV} {y : PV} (h : mh[r]? = some (.lst P)) (hl : P.length < sizeLine) : appendV (.ref r) y mh = .ok .non (mh.set r (.lst (P ++ [y]))) := by
  simp [appendV, getM, h, hl]
theorem getL_of {mh : MH} {r : Nat} {P : List PV} (h : mh[r]? = some (.lst P)) : getL mh r = some P := by simp [getL, h]
theorem z60 (n : Nat) (h : n < 60) : n < sizeLine := by
  have : (60 : Nat) ≤ sizeLine := by decide +kernel
  omega
structure Lw (o : MO) (P : List PV) (mh : MH) : Prop where
  h0 : mh[0]? = some o
  h1 : mh[1]? = some (.lst P)
theorem Lw.keep {o : MO} {P : List PV} {mh mh' : MH} {r : Nat} (l : Lw o P mh) (k : Hx r mh mh') (hr : 2 ≤ r) : Lw o P mh' :=
  ⟨by rw [k.old 0 (List.getElem?_eq_some_iff.mp l.h0).1 (by omega), l.h0], by rw [k.old 1 (List.getElem?_eq_some_iff.mp l.h1).1 (by omega), l.h1]⟩
theorem Lw.put {o : MO} {P Q : List PV} {mh : MH} (l : Lw o P mh) : Lw o Q (mh.set 1 (.lst Q)) :=
  ⟨by rw [List.getElem?_set_ne (by decide), l.h0], by rw [List.getElem?_set_self (List.getElem?_eq_some_iff.mp l.h1).1]⟩
theorem Jar.put {n : Nat} {mh : MH} {o : MO} (j : Jar n mh) (hn : 2 ≤ n) : Jar n (mh.set 1 o) := by
  obtain ⟨a, b, h, q⟩ := j
  exact ⟨a, b, by rw [List.getElem?_set_ne (by omega)]; exact h, q⟩
abbrev smallL (v : PV) : List PV := [rt 0 1, rt 1 1, rt (-1) 1, rt 1 2, v]
noncomputable abbrev lwB : SS := (sSeq (sAsg (eCall f__law_pool (aCons (eVar 0) (aCons (eVar 2) aNil))) (gNm 3)) (sSeq (sAsg (eCall f__law_any_ratio (aCons (eVar 3) aNil)) (gNm 4)) (sSeq (sExpr (eMeth1 appendV (eVar 1) (eTup (aCons (eVar 4) (aCons (eCall f__law_near_ratio (aCons (eVar 3) (aCons (eVar 4) aNil))) aNil))))) (sSeq (sExpr (eMeth1 appendV (eVar 1) (eTup (aCons (eVar 4) (aCons (eCall f__law_one (aCons (eVar 3) (aCons (eLst (aCons (eTup (aCons (eC (.int 0)) (aCons (eC (.int 1)) aNil))) (aCons (eTup (aCons (eC (.int 1)) (aCons (eC (.int 1)) aNil))) (aCons (eTup (aCons (eNeg (eC (.int 1))) (aCons (eC (.int 1)) aNil))) (aCons (eTup (aCons (eC (.int 1)) (aCons (eC (.int 2)) aNil))) (aCons (eVar 4) aNil)))))) aNil))) aNil))))) (sSeq (sIf (tOrP (tNotP (tTru (eCall f__law_made_right (aCons (eVar 3) aNil)))) (tNotP (tTru (eCall f__law_refused_right (aCons (eVar 3) (aCons (eVar 4) aNil)))))) (sSeq (sRet (eC (.bl false))) sNext) sNext) sNext)))))
theorem lw_step {ns : List Int} {o : MO} (ho : o = .lst (ns.map PV.int) ∨ o = .frz (ns.map PV.int)) {i : Nat} (hi : i < 10) {P : List PV} {mh : MH} (l : Lw o P mh) (hp : P.length ≤ 2 * i) (hg : ∀ t ∈ P, Good t) {q3 q4 q5 : Option PV} :
    ∃ ps' mh' Q q3' q4', lwB [some (.ref 0), some (.ref 1), some (.int i), q3, q4, q5] mh = .ok .nx [some (.ref 0), some (.ref 1), some (.int i), q3', q4', q5] mh' ∧ Lw o Q mh' ∧ Q.length ≤ 2 * (i + 1) ∧ (∀ t ∈ Q, Good t) ∧ ps' = () := by
  have hL0 : getL mh 0 = some (ns.map PV.int) := by
    have := l.h0
    rcases ho with rfl | rfl <;> simp [getL, this]
  obtain ⟨r, mh1, e1, hr, j1, old1⟩ := pool_ok (k := i) hL0 (by omega) (by omega)
  have h2 : 2 ≤ r := by have := (List.getElem?_eq_some_iff.mp l.h1).1; omega
  have l1 : Lw o P mh1 := ⟨by rw [old1 0 (List.getElem?_eq_some_iff.mp l.h0).1, l.h0], by rw [old1 1 (List.getElem?_eq_some_iff.mp l.h1).1, l.h1]⟩
  obtain ⟨a, b, mh2, e2, k2, g⟩ := anyr_ok j1
  have l2 := l1.keep k2 h2
  obtain ⟨c, d, mh3, e3, k3, g3⟩ := near_ok k2.Jar g
  have l3 := l2.keep k3 h2
  have a3 := app_ok (y := .tup [rt a b, rt c d]) l3.h1 (z60 _ (by omega))
  have l4 := l3.put (Q := P ++ [.tup [rt a b, rt c d]])
  have j4 := k3.Jar.put (o := .lst (P ++ [.tup [rt a b, rt c d]])) h2
  generalize mh3.set 1 (.lst (P ++ [.tup [rt a b, rt c d]])) = mh4 at *
  obtain ⟨v, mh5, e5, k5, hv⟩ := oneL_ok (xs := smallL (rt a b)) j4 (by simp) (by simp)
  have l5 := l4.keep k5 h2
  obtain ⟨x, y, rfl, gv⟩ : ∃ x y, v = rt x y ∧ Gd 500 x y := by
    have s1 : ∀ x : Int, x.natAbs < 2 → Sm 500 x := fun x h => Sm.mono (n := 2) (by unfold Sm; omega) (by decide)
    simp only [smallL, List.mem_cons, List.mem_nil_iff, or_false] at hv
    rcases hv with h | h | h | h | h
    · exact ⟨_, _, h, by decide, by decide, s1 _ (by decide), s1 _ (by decide)⟩
    · exact ⟨_, _, h, by decide, by decide, s1 _ (by decide), s1 _ (by decide)⟩
    · exact ⟨_, _, h, by decide, by decide, s1 _ (by decide), s1 _ (by decide)⟩
    · exact ⟨_, _, h, by decide, by decide, s1 _ (by decide), Sm.mono (n := 2) (by unfold Sm; decide) (by decide)⟩
    · exact ⟨_, _, h, g.mono (by decide)⟩
  have a5 := app_ok (y := .tup [rt a b, rt x y]) l5.h1 (z60 _ (by simp; omega))
  have l6 := l5.put (Q := P ++ [.tup [rt a b, rt c d]] ++ [.tup [rt a b, rt x y]])
  have j6 := k5.Jar.put (o := .lst (P ++ [.tup [rt a b, rt c d]] ++ [.tup [rt a b, rt x y]])) h2
  generalize mh5.set 1 (.lst (P ++ [.tup [rt a b, rt c d]] ++ [.tup [rt a b, rt x y]])) = mh6 at *
  obtain ⟨mh7, e7, k7⟩ := made_ok j6
  obtain ⟨mh8, e8, k8⟩ := refused_ok k7.Jar g
  refine ⟨(), mh8, _, some (.ref r), some (rt a b), ?_, (l6.keep k7 h2).keep k8 h2, by simp; omega, fun t ht => ?_, rfl⟩
  · have f2 := getL_of l2.h1
    have f4 := getL_of l4.h1
    simp [smallL] at e5
    simp [e1, e2, s_meth1, f2, e3, le2, a3]
    simp [f4, le2, z5, newL, e5, a5, e7, e8]
  · simp only [List.mem_append, List.mem_singleton] at ht
    rcases ht with (ht | rfl) | rfl
    · exact hg t ht
    · exact ⟨_, _, _, _, rfl, g.mono (by decide), g3⟩
    · exact ⟨_, _, _, _, rfl, g.mono (by decide), gv⟩
theorem law_true (ns : List Int) (hl : ns.length ≤ 63) (hb : ∀ z ∈ ns, Builtin.Int.intBits z ≤ 1048576) (o : MO) (ho : o = .lst (ns.map PV.int) ∨ o = .frz (ns.map PV.int)) : ∃ mh', f_law [.ref 0] [o] = .ok (.bl true) mh' := by
  let Inv : Nat → PSt → MH → Prop := fun i ps mh' => ∃ q2 q3 q4 P, ps = [some (.ref 0), some (.ref 1), q2, q3, q4, none] ∧ Lw o P mh' ∧ P.length ≤ 2 * i ∧ ∀ t ∈ P, Good t
  obtain ⟨ps', M, e2, q2, q3, q4, P, rfl, l, hp, hg⟩ := for_rng (g := gNm 2) (body := lwB) (N := 10) Inv
    (fun i ps mh' hi ⟨q2, q3, q4, P, ep, l, hp, hg⟩ => by
      subst ep
      obtain ⟨_, mh2, Q, q3', q4', e, l2, hq, hg2, _⟩ := lw_step (q3 := q3) (q4 := q4) (q5 := none) ho hi l hp hg
      exact ⟨_, _, _, _, rfl, e, _, _, _, Q, rfl, l2, hq, hg2⟩) 10 0 10 [some (.ref 0), some (.ref 1), none, none, none, none] ([o] ++ [.lst []]) (by omega) (Nat.le_refl _) ⟨_, _, _, [], rfl, ⟨rfl, rfl⟩, by simp, by simp⟩
  have hfor : sFor (iRng1P (eC (.int 10))) (gNm 2) lwB [some (.ref 0), some (.ref 1), none, none, none, none] ([o] ++ [.lst []]) = .ok .nx [some (.ref 0), some (.ref 1), q2, q3, q4, none] M := e2
  have ge : ∀ r : R PV, ∀ mh, (∃ mh', r = .ok (.bl true) mh') → ∃ mh', gc mh r = .ok (.bl true) mh' := fun r mh ⟨mh', h⟩ => by
    subst h
    unfold gc
    simp only
    split
    · exact ⟨_, rfl⟩
    · exact ⟨_, rfl⟩
  refine ge _ _ ?_
  let cut := cutP P none (some 3)
  have hcl : cut.length ≤ P.length := by
    simp only [cut, cutP, List.length_take, List.length_drop]
    omega
  have hcm : ∀ t ∈ cut, Good t := fun t ht => hg t (List.mem_of_mem_drop (List.mem_of_mem_take ht))
  let M2 := M ++ [.lst cut] ++ [.lst (P ++ cut)]
  obtain ⟨r, hlc⟩ := lc_none (L := M.length + 1) (m := (P ++ cut).length) (n0 := M2.length) (xs := P ++ cut) (g := gTupS 2 (gsCons (gNm 4) (gsCons (gNm 5) gsNil))) (c := tNotP (tTru (eCall f__law_pair_right (aCons (eVar 4) (aCons (eVar 5) aNil))))) (e := eC (.int 1)) (ps0 := [some (.ref 0), some (.ref 1), q2, q3, none, none])
    (fun x hx mh => by
      obtain ⟨a, b, c, d, rfl, g1, g2⟩ : Good x := by
        rcases List.mem_append.mp hx with h | h
        · exact hg x h
        · exact hcm x h
      obtain ⟨r, e⟩ := pair_ok mh g1 g2 (by decide) (by decide)
      refine ⟨[some (.ref 0), some (.ref 1), q2, q3, some (rt a b), some (rt c d)], r, by simp [gTupS, gsCons, gsNil], by simp [e]⟩) (P ++ cut).length 0 (P ++ cut).length (M2 ++ [.lst []]) (by omega) (Nat.le_refl _) (by simp [getL, M2])
  have hlc' : eLc (iSeqP (eBin .Add (eVar 1) (eSl (eVar 1) oNone (oSome (eC (.int 3)))))) (gTupS 2 (gsCons (gNm 4) (gsCons (gNm 5) gsNil))) (tNotP (tTru (eCall f__law_pair_right (aCons (eVar 4) (aCons (eVar 5) aNil))))) (eC (.int 1)) [4, 5] [some (.ref 0), some (.ref 1), q2, q3, q4, none] M = .ok (.ref M2.length) (M2 ++ [.lst []] ++ r) := by
    have it : iSeqP (eBin .Add (eVar 1) (eSl (eVar 1) oNone (oSome (eC (.int 3))))) [some (.ref 0), some (.ref 1), q2, q3, q4, none] M = .ok (itList (M.length + 1) (P ++ cut).length) M2 := by
      have f1 := getL_of l.h1
      have h1' : (M ++ [MO.lst cut])[1]? = some (.lst P) := by rw [List.getElem?_append_left (List.getElem?_eq_some_iff.mp l.h1).1, l.h1]
      have ad := add_refs (r1 := 1) (r2 := M.length) (xs := P) (ys := cut) h1' (by simp) (Nat.le_of_lt (z60 _ (by omega)))
      have s : eSl (eVar 1) oNone (oSome (eC (.int 3))) [some (.ref 0), some (.ref 1), q2, q3, q4, none] M = .ok (.ref M.length) (M ++ [.lst cut]) := by
        simp [eSl, oNone, oSome, partP, sliceP, f1, newL, cut]
      unfold iSeqP
      simp only [s_bin, s_var, List.getElem?_cons_succ, List.getElem?_cons_zero, rb_ok, s]
      rw [ad, rb_ok]
      simp [iterP, getL, M2]
    unfold eLc
    rw [it, rb_ok]
    exact hlc
  have q := eq_nil (mh := M2 ++ [MO.lst []] ++ r ++ [MO.lst []]) (r := M2.length) (s := (M2 ++ [MO.lst []] ++ r).length) (by simp [getL]) (by simp [getL])
  refine ⟨M2 ++ [.lst []] ++ r ++ [.lst []], ?_⟩
  have fin : endB (m_law [some (.ref 0), none, none, none, none, none] [o]) = .ok (.bl true) (M2 ++ [.lst []] ++ r ++ [.lst []]) := by
    generalize hZ : M2 ++ [MO.lst []] ++ r = Z at *
    unfold m_law
    generalize (eLc (iSeqP (eBin .Add (eVar 1) (eSl (eVar 1) oNone (oSome (eC (.int 3)))))) (gTupS 2 (gsCons (gNm 4) (gsCons (gNm 5) gsNil))) (tNotP (tTru (eCall f__law_pair_right (aCons (eVar 4) (aCons (eVar 5) aNil))))) (eC (.int 1)) [4, 5]) = EL at hlc' ⊢
    generalize (sFor (iRng1P (eC (.int 10))) (gNm 2) lwB) = FL at hfor ⊢
    have hfor' : FL [some (.ref 0), some (.ref 1), none, none, none, none] [o, .lst []] = .ok .nx [some (.ref 0), some (.ref 1), q2, q3, q4, none] M := hfor
    simp [newL, z0, hfor', hlc', q]
  exact fin
end Kx

set_option Elab.async false
set_option linter.all false
set_option maxRecDepth 100000
set_option maxHeartbeats 0
namespace Kx
open PySem PySem.Spec PyProof.Rows L2 Px

theorem law_sp {K : PySem.W.Frag} {mg : Str → Option Value} {H : Hp} {a : Addr} {ns : List Int} (hl : ns.length ≤ 63) (hb : ∀ z ∈ ns, Builtin.Int.intBits z ≤ 1048576) (hT : ∀ p ∈ tf, H (He.cT K p).2 = some (.tbl #[])) (hS : SqL K H a (ns.map V.int)) :
    spF ⟨K, mg, tbs K tf⟩ 1 f_law [.ref a] H (fun v _ => v = .bl true) fun _ _ _ => False := by
  have tb : LamX.Tabs (tbs K tf) H := fun p hp => by
    obtain ⟨q, hq, rfl⟩ := List.mem_map.mp hp
    exact LamX.TabS.nil (hT q hq)
  obtain ⟨o, ho, hobj⟩ : ∃ o : MO, (o = .lst (ns.map PV.int) ∨ o = .frz (ns.map PV.int)) ∧ ObR ⟨K, mg, tbs K tf⟩ [a] H a o := by
    rcases hS with (h | ⟨u, h⟩) | h
    · exact ⟨_, .inl rfl, _, h, reps_ints ns⟩
    · exact ⟨_, .inr rfl, _, .inl ⟨u, h⟩, reps_ints ns⟩
    · exact ⟨_, .inr rfl, _, .inr h, reps_ints ns⟩
  obtain ⟨mh', e⟩ := law_true ns hl hb o ho
  refine ⟨[a], [o], [.ref 0], ⟨rfl, fun n u hn => ?_, fun n m b u v h1 h2 _ _ _ _ => ?_, tb⟩, .cons (.ref rfl) .nil, rfl, ?_⟩
  · match n, hn with
    | 0, hn =>
      cases hn
      exact ⟨a, rfl, hobj⟩
  · match n, m, h1, h2 with
    | 0, 0, _, _ => rfl
  · rw [e]
    intro v H' ι' _ _ r
    cases r
    rfl
theorem law_fn {w : World} {K : PySem.W.Frag} {mg : Str → Option Value} {T : List (Addr × Str)} {base : Heap} {fd : FuncData} (h : Fx w K mg T base) (F : FunD K d_law.name d_law.qual d_law.params d_law.body d_law.scope (d_law.dvs K) (d_law.kws K) (He.fAd K d_law.at_) fd) : FnOk Pg w K mg base (L2N.CX Pg w) 28 (He.fAd K d_law.at_) fd ["script"] (spF ⟨K, mg, T⟩ 1 f_law) :=
  (fn_comp F sc_law (((g45 h)).lamd false) (fun z => Bool.noConfusion z) k_law)
theorem law_at {w : World} {K : PySem.W.Frag} {mg : Str → Option Value} {f0 : Addr} {h : Heap} (KX : K.In h) (G : h.Ns mainGlobals mg) (hmg : mg ("law" : Str) = some (.ref f0)) (c : SaysP fa fn tf ins ex h K) :
    LamX.LawAtS PySem.Challenge.rw_onepixel_k01_ratios_and_reckoning w K (L2N.CX Pg w) 28 63 "script" mg f0 h := by
  have glo : mg ("law" : Str) = some (.ref (He.ga K "law")) := He.glo_ok KX G (c.d.fact 46 (f := .glo "law") rfl)
  obtain rfl : f0 = He.ga K "law" := by
    rw [hmg] at glo
    cases glo
    rfl
  obtain ⟨fd, F⟩ := c.d.def_ 46 (d := d_law) rfl
  have nd : (tf.map fun p => (He.cT K p).2).Nodup := by
    have z := c.more
    exact of_decide_eq_true ((ba1 (ba1 z).1).2)
  have nm : ∀ p ∈ tf, mainGlobals ≠ (He.cT K p).2 := by
    have z := c.more
    have y := List.all_eq_true.mp ((ba1 z).2)
    intro p hp e
    have x := y p hp
    rw [e] at x
    simp at x
  refine ⟨fd, tf.map (He.cT K), spF ⟨K, mg, tbs K tf⟩ 1 f_law, ?_, ?_, ?_, ?_, ?_, ?_⟩
  · intro p hp
    obtain ⟨q, hq, rfl⟩ := List.mem_map.mp hp
    exact c.empty q hq
  · intro p hp
    obtain ⟨q, hq, rfl⟩ := List.mem_map.mp hp
    exact c.out q hq
  · intro p hp
    obtain ⟨q, hq, rfl⟩ := List.mem_map.mp hp
    exact PySem.W.codeHd_of_K KX (c.hd q hq)
  · intro s u
    exact FunD.bindsA (ps := ["script"]) F (fun _ _ _ _ _ _ us hl => match us, hl with | [_], _ => rfl) s [u] rfl
  · intro H a ns hl hb hT hS
    exact law_sp hl hb (fun p hp => hT _ (List.mem_map_of_mem hp)) hS
  · intro base KB GB tabs
    have h : Fx w K mg (tbs K tf) base := ⟨⟨_, c⟩, KB, GB, fun p hp => tabs _ (List.mem_map_of_mem hp), rfl, nd⟩
    obtain ⟨fa', fd', ps', m1, m2, m3, m4, m5, m6⟩ := e_law h
    exact law_fn h F
open PySem.W in
theorem law_end : PySem.Challenge.rw_onepixel_k01_ratios_and_reckoning.Holds := by
  w_on; o_law
  refine HandSHeadRun.head_imp (r := OpenLaw.row PySem.Challenge.rw_onepixel_k01_ratios_and_reckoning) (q := qv) (H := hk) (ob := ob) (M := 40000) (loose := names) (d := HandSHeadRun.topDef (OpenLaw.row PySem.Challenge.rw_onepixel_k01_ratios_and_reckoning).prog 92) (kwd := []) ob_eq run
    (by kernel_rfl) (by kernel_rfl) (by kernel_rfl) (by rfl) (by first | assumption | decide +kernel) (by decide +kernel) ⟨rfl, rfl, rfl, rfl, rfl, by decide +kernel⟩ ?hw ?hc
  case hw => w_witness2
  case hc =>
    refine LamX.walk_ofTsE (l := PySem.Challenge.rw_onepixel_k01_ratios_and_reckoning) (n := 63) (k := 28) (x := "script") (CX := fun w => L2N.CX Pg w) rfl (by decide) (by kernel_rfl) ⟨rfl, by decide, by decide⟩ ?F (fun w H s e s' hh => ?N)
    case N =>
      obtain ⟨_, _, _, _, _, _, _, _, _, _, _, _, z⟩ := hh
      exact z.elim
    case F =>
      intro w mg fa0 h Y G hmg0
      obtain ⟨K, KX, c⟩ := Y
      have hmg : mg ("law" : PySem.Str) = some (.ref fa0) := by
        have e : (HandSHeadRun.topDef (OpenLaw.row PySem.Challenge.rw_onepixel_k01_ratios_and_reckoning).prog 92).name = ("law" : PySem.Str) := by kernel_rfl
        rw [← e]
        exact hmg0
      exact ⟨K, KX, law_at KX G hmg c⟩
end Kx
theorem PySem.Challenge.cw_onepixel_k01_ratios_and_reckoning_holds : PySem.Challenge.rw_onepixel_k01_ratios_and_reckoning.Holds :=
  Kx.law_end
