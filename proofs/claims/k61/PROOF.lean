import PyProof.Rows.All
import Wide.All
import OpenK.AllK
import Wide.FinOn
import HandS.BoundList
import HandS.ClsMeth
import HandS.Conv
import HandS.Defaults
import HandS.EndBits
import HandS.ExcIs
import HandS.ExcOwn
import HandS.ExcValue
import HandS.FStr
import HandS.ForExc
import HandS.ForMost
import HandS.Head0
import HandS.Head1
import HandS.Head2
import HandS.HeadHook1
import HandS.HeadHook2
import HandS.IsInst
import HandS.Lambda
import HandS.MakeKw
import HandS.More
import HandS.Nested
import HandS.Property
import HandS.RaiseMore
import HandS.Star
import HandS.StrMore
import HandS.Style
import HandS.Text
import HandS.TryMany
import HandS.TupAny
import HandS.TupMul
import HandS.Walk
import HandS.Wide
import HandS.WordsExc
import HandS.Zip
import KE.GoesEnum
import KE.KSuper
import OpenK.KMeth
import OpenK.KOps
import PyProof.CallFns
import PyProof.EqKinds
import PyProof.FactsAll.dict
import PyProof.NeKinds
import PyProof.ReprRoads
import PyProof.StrLawsRepr
import HandS.TupSets
import PyProof.SetRoads
import HandS.Iter
import PyProof.DictRoadsH
import KE.KeyNested
import KE.KRevSl
import HandS.OwnEq
import PyProof.ReprHeads
import KE.DataEq
import KE.DataMinMax
import KE.SortData
import PyProof.SeqIndex
import HandS.DictComp
import KE.KDictPairs
import KE.KDictWalk
import PyProof.Rows.ReprOcc
import PySem.Challenge.RW_hushloops_k61_peaks_told
set_option Elab.async false
set_option linter.all false
set_option maxRecDepth 100000
set_option maxHeartbeats 4000000
namespace Dn
open PySem PySem.Spec PyProof.Rows L2
def EXN : List Str := ["NoTops", "NoBottom", "NoRounding", "NoHigh", "NoFlag", "NoRoom", "NoFilter", "NoState", "NoInput", "NoSteps", "NoRing", "NoNumbers", "NoSize", "NoRow", "NoSpan", "NoOrder", "NoText", "NotTame", "NotEven", "TooLarge", "NoPlace", "Spilled", "TooMany", "NothingDone", "HushError"]
def tabOf (o : Obj) : Option (Addr × Str) := match o.data with
  | .fields #[.str m _, .ref P, .str q _] => if m = ("a table of code objects" : Str) then some (P, q) else none
  | _ => none
def tabsOf (K : PySem.W.Frag) : List (Addr × Str) := K.filterMap fun p => tabOf p.2
def SUBC : List (Str × Str) := [("Strict", "Loop"), ("Short", "Loop"), ("ShortStrict", "Loop"), ("ShortStrict", "Short"), ("ShortStrict", "Strict")]
def subC (a b : Str) : Bool := decide (a = b) || SUBC.contains (a, b)
inductive Pl where
  | glo (x : Str) | meth (c m : Str) | get (c m : Str) | cm (c m : Str)
def recFst (K : PySem.W.Frag) (p : Addr) (t : String) : Addr := match PySem.W.recIn K p t with
  | some (.ref g :: _) => g
  | _ => 0
abbrev ga := He.ga
abbrev ma (K : PySem.W.Frag) (c m : Str) : Addr := He.ma K (He.ga K c) m
def Pl.ad (K : PySem.W.Frag) : Pl → Addr
  | .glo x => ga K x
  | .meth c m => ma K c m
  | .get c m => recFst K (ma K c m) "property"
  | .cm c m => recFst K (ma K c m) "classmethod"
structure Df where
  pl : Pl
  name : Str
  qual : Str
  params : Arguments
  body : List Stmt
  scope : Scope
  dfl : List He.Dv := []
  clo : List Str := []
abbrev FV : Type := Option (Str × Str × Arguments × FuncBody × Scope × Addr × List Str × Addr)
def fvAt (K : PySem.W.Frag) (a : Addr) : FV := (K.lookup a).bind fun o => match o.data with
  | .func fd => some (fd.name, fd.qualname, fd.params, fd.body, fd.scope, fd.globals, fd.closure.map (·.1), fd.builtins)
  | _ => none
def Df.val (d : Df) : FV := some (d.name, d.qual, d.params, .stmts d.body, d.scope, mainGlobals, d.clo, builtinsNs)
def Df.dvs (K : PySem.W.Frag) (d : Df) : List V := d.dfl.map (He.Dv.v K)
def Df.ok (K : PySem.W.Frag) (d : Df) : Bool := PySem.W.keepIn K (.ref (d.pl.ad K)) && (match (K.lookup (d.pl.ad K)).map Obj.data with
  | some (.func fd) => PySem.W.codeIn K fd.code d.qual && He.dflB K fd.defaults (d.dvs K)
  | _ => false)
def fdAt (K : PySem.W.Frag) (a : Addr) : FuncData := match (K.lookup a).map Obj.data with
  | some (.func fd) => fd
  | _ => PySem.W.fnOf "" "" ⟨[], [], none, [], [], none, []⟩ [] ⟨.function, [], false, false, []⟩ .none .none .none .none none .none .none
def propB (c m : Str) (K : PySem.W.Frag) : Bool := He.eqO (PySem.W.findIn K (.ref (ga K c)) m) (some (some (.ref (ma K c m)))) && (He.eqO (PySem.W.specialIn K (.ref (ma K c m)) "__get__") (some (some (.builtin "property.__get__"))) &&
  (decide (PySem.W.takesIn K (.ref (ma K c m)) = some true) && (match PySem.W.recIn K (ma K c m) "property" with
    | some (.ref _ :: _) => true
    | _ => false)))
def insB (c : Str) (K : PySem.W.Frag) : Bool := (He.Fa.cls c).ok K && (He.eqO (PySem.W.findIn K (.ref (ga K c)) "__class__") (some (some (.builtin "object.__class__"))) && (He.eqO (PySem.W.specialIn K (.builtin "object.__class__") "__get__") (some (some (.builtin "getset_descriptor.__get__"))) &&
  (decide (PySem.W.takesIn K (.builtin "object.__class__") = some true) && decide (PySem.W.mroIn K (ga K c) (.type "object") = some true))))
def isiB (cl : List Str) (K : PySem.W.Frag) : Bool := (cl.all fun c => insB c K && He.eqO (PySem.W.nsIn K mainGlobals c) (some (some (.ref (ga K c))))) && ((cl.all fun c => (["int", "bool", "str", "tuple", "list", "dict"] : List String).all fun n => decide (PySem.W.kitOne K (.ref (ga K c)) (.type n) = some false)) &&
  ((cl.all fun c => (["NoneType", "bool", "int", "str", "tuple", "list", "dict"] : List String).all fun n => decide (PySem.W.kitOne K (.type n) (.ref (ga K c)) = some false)) && (cl.all fun c => cl.all fun c' => decide (PySem.W.kitOne K (.ref (ga K c)) (.ref (ga K c')) = some (subC c c')))))
abbrev Ft : Type := PySem.W.Frag → Bool
abbrev fa (f : He.Fa) : Ft := fun K => f.ok K
abbrev AlN : Type := Bool × List FV
def obsN (fs : List Ft) (ds : List Df) (K : PySem.W.Frag) : AlN := ((fs.all fun f => f K) && ds.all fun d => d.ok K, ds.map fun d => fvAt K (d.pl.ad K))
def valN (ds : List Df) : AlN := (true, ds.map Df.val)
def SaysN (fs : List Ft) (ds : List Df) (K : PySem.W.Frag) : Prop := obsN fs ds K = valN ds
def codeTab (K : PySem.W.Frag) (f : Addr) : Option (Addr × Addr) := match (K.lookup f).map Obj.data with
  | some (.func fn) => (match fn.code with
    | .ref c => (match (K.lookup c).map Obj.data with
      | some (.fields vs) => (match (vs[11]? : Option Value) with
        | some (.ref P) => some (c, P)
        | _ => none)
      | _ => none)
    | _ => none)
  | _ => none
def lamsOf (ls : List (Pl × Str)) (K : PySem.W.Frag) : List (Addr × Addr × Str) := ls.filterMap fun l => (codeTab K (l.1.ad K)).map fun cp => (cp.1, cp.2, l.2)
def markO (P : Addr) (q : Str) : Obj := { cls := .none, data := .fields #[.str "a table of code objects" 0, .ref P, .str q 0] }
def mkT (ls : List (Pl × Str)) (K : PySem.W.Frag) : PySem.W.Frag := match K.filter (fun p => !((lamsOf ls K).any fun c => c.2.1 == p.1)) with
  | [] => []
  | (a, o) :: r => (a, o) :: (r ++ (lamsOf ls K).map fun c => (a, markO c.2.1 c.2.2))
def isE (o : Obj) : Bool := match o with
  | ⟨.none, none, .fields vs, sl⟩ => vs.isEmpty && sl.isEmpty
  | _ => false
def isTy (n : String) : Value → Bool
  | .type m => m == n
  | _ => false
def codeB (K : PySem.W.Frag) (c P : Addr) : Bool := (match K.lookup c with
  | some o => isTy "code" o.cls && (match o.data with
    | .fields vs => (match (vs[11]? : Option Value) with
      | some (.ref p) => p == P
      | _ => false) && ((match vs.getD 11 .none with
      | .ref p => p == P
      | _ => false) && ((match vs.getD 18 .none with
      | .str _ _ => true
      | _ => false) && ((match vs.getD 7 .none with
      | .int _ _ => true
      | _ => false) && ((match vs.getD 9 .none with
      | .bool _ => true
      | _ => false) && (match vs.getD 10 .none with
      | .int _ _ => true
      | _ => false)))))
    | _ => false)
  | none => false) && !(c == P)
def tchk (ls : List (Pl × Str)) (K : PySem.W.Frag) : Bool := decide (tabsOf (mkT ls K) = (lamsOf ls K).map fun c => (c.2.1, c.2.2)) && (lamsOf ls K).all fun c => (match K.lookup c.2.1 with
  | some o => isE o
  | none => false) && codeB K c.1 c.2.1
abbrev AlT : Type := Bool × AlN
def HC : List Str := ["Chain", "Filter", "Loop", "Short", "ShortStrict", "Strict"]
def isiU (here gone : List Str) (K : PySem.W.Frag) : Bool := isiB here K && ((gone.all fun c => (He.Fa.free c).ok K) && HC.all fun c => decide (c ∈ here ∨ c ∈ gone))
def subE (c n : Str) : Bool := decide (c = n) || decide (n = "HushError")
def freeB (nm : Str) : Ft := fa (.free nm)
def excOne (K : PySem.W.Frag) (nm : Str) : Bool :=
  He.eqO (PySem.W.nsIn K mainGlobals nm) (some (some (.ref (ga K nm)))) && (He.eqO (PySem.W.findIn K (.ref (ga K nm)) "__getattribute__") (some (some (.builtin "BaseException.__getattribute__"))) && (He.eqO (PySem.W.findIn K (.ref (ga K nm)) "__getattr__") (some none) &&
  (decide (PySem.W.subIn K (.ref (ga K nm)) (.type "BaseException") = some true) && (decide (PySem.W.hasDictIn K (ga K nm) = true) && (He.eqO (PySem.W.findIn K (.ref (ga K nm)) "__class__") (some (some (.builtin "object.__class__"))) &&
  (decide (PySem.W.mroIn K (ga K nm) (.type "object") = some true) && (((["int", "bool", "str", "tuple", "list", "dict"] : List String).all fun n => decide (PySem.W.kitOne K (.ref (ga K nm)) (.type n) = some false)) &&
  decide (PySem.W.kitOne K (.ref (ga K nm)) (.type "ValueError") = some true))))))))
def excB : Ft := fun K => He.eqO (PySem.W.specialIn K (.builtin "object.__class__") "__get__") (some (some (.builtin "getset_descriptor.__get__"))) && (decide (PySem.W.takesIn K (.builtin "object.__class__") = some true) &&
  ((EXN.all fun nm => freeB nm K || excOne K nm) && ((EXN.all fun nm => EXN.all fun nm' => freeB nm K || (freeB nm' K || decide (PySem.W.kitOne K (.ref (ga K nm)) (.ref (ga K nm')) = some (subE nm nm')))) &&
  (freeB "HushError" K || EXN.all fun nm => freeB nm K || decide (PySem.W.exmOne K (.ref (ga K nm)) (.ref (ga K "HushError")) = some true)))))
def sysB : Ft := fun K => (K.lookup sysModules).isSome
def conB (c n v : Str) : Ft := fun K => match PySem.W.findIn K (.ref (ga K c)) n with
  | some (some (.str x t)) => decide (x = v) && (decide (PySem.W.specialIn K (.str x t) "__get__" = some none) && !PySem.W.copiedNames.contains n)
  | _ => false
def obsLG (as : List Addr) (ls : List (Pl × Str)) (fs : List Ft) (ds : List Df) (g : Addr → Option Obj) : AlT := let K := He.frG g as; (tchk ls K, obsN fs ds (mkT ls K))
def hookL (as : List Addr) (ls : List (Pl × Str)) (fs : List Ft) (ds : List Df) : PySem.W.Hook where
  α := AlT
  obs := fun s => obsLG as ls fs ds s.heap.get?
  val := fun _ => (true, valN ds)
  says := fun _ h => ∃ K : PySem.W.Frag, K.In h ∧ tchk ls K = true ∧ SaysN fs ds (mkT ls K)
  of := fun _ _ e => ⟨_, He.frG_in, congrArg (fun z : AlT => z.1) e, congrArg (fun z : AlT => z.2) e⟩
  keeps := fun _ _ _ ⟨K, hK, c⟩ k => ⟨K, PySem.W.Frag.In.keeps hK k, c⟩
def cloAt (K : PySem.W.Frag) (a : Addr) : Addr := match (K.lookup a).map Obj.data with
  | some (.func fd) => (match fd.closure with
    | [(_, c)] => c
    | _ => 0)
  | _ => 0
def codAt (K : PySem.W.Frag) (a : Addr) : Addr := match (K.lookup a).map Obj.data with
  | some (.func fd) => (match fd.code with
    | .ref c => c
    | _ => 0)
  | _ => 0
theorem obsLG_eq {as : List Addr} {ls : List (Pl × Str)} {fs : List Ft} {ds : List Df} {g : Addr → Option Obj} {s : Shared} (h : ∀ a, g a = s.heap.get? a) : obsLG as ls fs ds g = (hookL as ls fs ds).obs s := by
  have e : g = s.heap.get? := funext h
  subst e
  rfl
end Dn
namespace K61
open PySem PySem.Spec PyProof.Rows L2 Dn
abbrev thP : Program := PySem.Challenge.pw_hushloops_k61_peaks_told
def tp (i : Nat) : Stmt := thP.main.body.getD i (.Pass ⟨0, 0, 0, 0⟩)
def mt (i j : Nat) : Stmt := match tp i with
  | .ClassDef _ _ _ b _ _ _ _ _ _ _ => b.getD j (.Pass ⟨0, 0, 0, 0⟩)
  | _ => .Pass ⟨0, 0, 0, 0⟩
def d_pen : Df := ⟨(.glo "_law_pen"), "_law_pen", "_law_pen", defArgs (tp 46), defBody (tp 46), defScope (tp 46), [], []⟩
def d_cell : Df := ⟨(.glo "_law_cell"), "_law_cell", "_law_cell", defArgs (tp 45), defBody (tp 45), defScope (tp 45), [], []⟩
def d_draw : Df := ⟨(.glo "_law_draw"), "_law_draw", "_law_draw", defArgs (tp 47), defBody (tp 47), defScope (tp 47), [], []⟩
def d_parts : Df := ⟨(.glo "_law_parts"), "_law_parts", "_law_parts", defArgs (tp 54), defBody (tp 54), defScope (tp 54), [], []⟩
def d_p_is_between : Df := ⟨(.glo "is_between"), "is_between", "is_between", defArgs (tp 24), defBody (tp 24), defScope (tp 24), [], []⟩
def d_p_are_between : Df := ⟨(.glo "are_between"), "are_between", "are_between", defArgs (tp 25), defBody (tp 25), defScope (tp 25), [], []⟩
def d_p_is_rounding : Df := ⟨(.glo "is_rounding"), "is_rounding", "is_rounding", defArgs (tp 26), defBody (tp 26), defScope (tp 26), [], []⟩
def d_p_power : Df := ⟨(.glo "power"), "power", "power", defArgs (tp 27), defBody (tp 27), defScope (tp 27), [], []⟩
def d_p_need_parts : Df := ⟨(.glo "need_parts"), "need_parts", "need_parts", defArgs (tp 29), defBody (tp 29), defScope (tp 29), [], []⟩
def d_p_Filter_init : Df := ⟨(.meth "Filter" "__init__"), "__init__", "Filter.__init__", defArgs (mt 30 0), defBody (mt 30 0), defScope (mt 30 0), [(.str "near"), (.int 8), (.bl true), (.bl false)], []⟩
def d_made : Df := ⟨(.glo "_law_made"), "_law_made", "_law_made", defArgs (tp 55), defBody (tp 55), defScope (tp 55), [], []⟩
def d_states : Df := ⟨(.glo "_law_states"), "_law_states", "_law_states", defArgs (tp 53), defBody (tp 53), defScope (tp 53), [], []⟩
def d_fit : Df := ⟨(.glo "_law_fit"), "_law_fit", "_law_fit", defArgs (tp 51), defBody (tp 51), defScope (tp 51), [], []⟩
def d_round : Df := ⟨(.glo "_law_round"), "_law_round", "_law_round", defArgs (tp 49), defBody (tp 49), defScope (tp 49), [], []⟩
def d_sum : Df := ⟨(.glo "_law_sum"), "_law_sum", "_law_sum", defArgs (tp 50), defBody (tp 50), defScope (tp 50), [], []⟩
def d_step : Df := ⟨(.glo "_law_step"), "_law_step", "_law_step", defArgs (tp 52), defBody (tp 52), defScope (tp 52), [], []⟩
def d_peak : Df := ⟨(.glo "_law_peak"), "_law_peak", "_law_peak", defArgs (tp 56), defBody (tp 56), defScope (tp 56), [], []⟩
def d_same : Df := ⟨(.glo "_law_same"), "_law_same", "_law_same", defArgs (tp 48), defBody (tp 48), defScope (tp 48), [], []⟩
def d_p_need_filter : Df := ⟨(.glo "need_filter"), "need_filter", "need_filter", defArgs (tp 34), defBody (tp 34), defScope (tp 34), [], []⟩
def d_p_Filter_high : Df := ⟨(.get "Filter" "high"), "high", "Filter.high", defArgs (mt 30 4), defBody (mt 30 4), defScope (mt 30 4), [], []⟩
def d_p_Filter_tops : Df := ⟨(.get "Filter" "tops"), "tops", "Filter.tops", defArgs (mt 30 1), defBody (mt 30 1), defScope (mt 30 1), [], []⟩
def d_p_Filter_order : Df := ⟨(.get "Filter" "order"), "order", "Filter.order", defArgs (mt 30 7), defBody (mt 30 7), defScope (mt 30 7), [], []⟩
def d_p_states_of : Df := ⟨(.glo "states_of"), "states_of", "states_of", defArgs (tp 41), defBody (tp 41), defScope (tp 41), [], []⟩
def d_p_Filter_wraps : Df := ⟨(.get "Filter" "wraps"), "wraps", "Filter.wraps", defArgs (mt 30 6), defBody (mt 30 6), defScope (mt 30 6), [], []⟩
def d_p_fitted : Df := ⟨(.glo "fitted"), "fitted", "fitted", defArgs (tp 32), defBody (tp 32), defScope (tp 32), [], []⟩
def d_p_Filter_each : Df := ⟨(.get "Filter" "each"), "each", "Filter.each", defArgs (mt 30 5), defBody (mt 30 5), defScope (mt 30 5), [], []⟩
def d_p_rounded : Df := ⟨(.glo "rounded"), "rounded", "rounded", defArgs (tp 28), defBody (tp 28), defScope (tp 28), [], []⟩
def d_p_Filter_bottom : Df := ⟨(.get "Filter" "bottom"), "bottom", "Filter.bottom", defArgs (mt 30 2), defBody (mt 30 2), defScope (mt 30 2), [], []⟩
def d_p_Filter_rounding : Df := ⟨(.get "Filter" "rounding"), "rounding", "Filter.rounding", defArgs (mt 30 3), defBody (mt 30 3), defScope (mt 30 3), [], []⟩
def d_p_summed : Df := ⟨(.glo "summed"), "summed", "summed", defArgs (tp 31), defBody (tp 31), defScope (tp 31), [], []⟩
def d_p_stepped : Df := ⟨(.glo "stepped"), "stepped", "stepped", defArgs (tp 33), defBody (tp 33), defScope (tp 33), [], []⟩
def d_p_peak : Df := ⟨(.glo "peak"), "peak", "peak", defArgs (tp 43), defBody (tp 43), defScope (tp 43), [], []⟩
def d_law : Df := ⟨(.glo "law"), "law", "law", defArgs (tp 57), defBody (tp 57), defScope (tp 57), [], []⟩
def fs0 : List Ft := [fa (.free "len"), fa (.free "min"), fa (.free "max"), fa (.free "range"), fa (.free "tuple"), isiU ["Filter"] ["Chain", "Loop", "Short", "ShortStrict", "Strict"], excB, fa (.free "isinstance"), fa (.free "int"), fa (.free "bool"), fa (.free "all"), fa (.int "MOST_TOP" 32), fa (.int "MOST_TOPS" 3), fa (.glo "NoTops"), fa (.exc "NoTops"), fa (.int "MOST_BOTTOM" 16), fa (.glo "NoBottom"), fa (.exc "NoBottom"), fa (.free "str"), fa (.str "NEAR" "near"), fa (.str "CUT" "cut"), fa (.str "DOWN" "down"), fa (.glo "NoRounding"), fa (.exc "NoRounding"), fa (.int "MOST_HIGH" 60), fa (.glo "NoHigh"), fa (.exc "NoHigh"), fa (.glo "NoFlag"), fa (.exc "NoFlag"), fa (.int "MOST_STATES" 2500)]
def fs1 : List Ft := [fa (.glo "NoRoom"), fa (.exc "NoRoom"), fa (.glo "Filter"), fa (.cls "Filter"), fa (.noat "Filter" "parts"), fa (.free "zip"), fa (.free "sum"), fa (.free "abs"), sysB, fa (.free "repr"), fa (.glo "NoFilter"), fa (.exc "NoFilter"), fa (.glo "NoSize"), fa (.exc "NoSize"), fa (.free "set"), fa (.glo "_law_pen"), fa (.glo "_law_cell"), fa (.glo "_law_draw"), fa (.glo "_law_parts"), fa (.glo "is_between"), fa (.glo "are_between"), fa (.glo "is_rounding"), fa (.glo "power"), fa (.glo "need_parts"), fa (.mkr "Filter"), fa (.glo "_law_made"), fa (.glo "_law_states"), fa (.glo "_law_fit"), fa (.glo "_law_round"), fa (.glo "_law_sum")]
def fs2 : List Ft := [fa (.glo "_law_step"), fa (.glo "_law_peak"), fa (.glo "_law_same"), fa (.glo "need_filter"), propB "Filter" "high", propB "Filter" "tops", propB "Filter" "order", fa (.glo "states_of"), propB "Filter" "wraps", fa (.glo "fitted"), propB "Filter" "each", fa (.glo "rounded"), propB "Filter" "bottom", propB "Filter" "rounding", fa (.glo "summed"), fa (.glo "stepped"), fa (.glo "peak"), fa (.glo "law")]
def fs : List Ft := fs0 ++ fs1 ++ fs2
def ls : List (Pl × Str) := []
def ds0 : List Df := [d_pen, d_cell, d_draw, d_parts, d_p_is_between, d_p_are_between, d_p_is_rounding, d_p_power, d_p_need_parts, d_p_Filter_init, d_made, d_states, d_fit, d_round, d_sum, d_step, d_peak, d_same, d_p_need_filter, d_p_Filter_high, d_p_Filter_tops, d_p_Filter_order, d_p_states_of, d_p_Filter_wraps, d_p_fitted, d_p_Filter_each, d_p_rounded, d_p_Filter_bottom, d_p_Filter_rounding, d_p_summed]
def ds1 : List Df := [d_p_stepped, d_p_peak, d_law]
def ds : List Df := ds0 ++ ds1
end K61
set_option maxHeartbeats 0
namespace K61
open PySem PySem.Spec PyProof.Rows L2 Dn
abbrev R : PySem.W.OpenRow := PySem.W.OpenLaw.row PySem.Challenge.rw_hushloops_k61_peaks_told
def adr : List Addr := [3, 6, 4, 21, 31, 44, 56, 68, 80, 92, 104, 116, 128, 140, 152, 164, 173, 178, 185, 192, 199, 204, 353, 362, 369, 376, 383, 390, 397, 404, 411, 416, 423, 428, 433, 440, 447, 454, 461, 468, 473, 480, 487, 492, 497, 504, 509, 516, 0, 20, 30, 43, 55, 67, 79, 91, 103, 115, 127, 139, 151, 163, 172, 177, 184, 191, 198, 203, 352, 361, 368, 375, 382, 389, 396, 403, 410, 415, 422, 427, 432, 439, 446, 453, 460, 467, 472, 479, 486, 491, 496, 503, 508, 515, 15, 16, 17, 18, 19, 29, 32, 42, 54, 66, 78, 90, 102, 114, 126, 138, 150, 162, 167, 168, 169, 170, 171, 174, 175, 176, 179, 180, 181, 182, 183, 186, 187, 188, 189, 190, 193, 194, 195, 196, 197, 200, 201, 202, 219, 227, 235, 243, 251, 259, 267, 275, 283, 291, 298, 305, 312, 319, 327, 335, 340, 349, 351, 354, 355, 358, 359, 360, 363, 364, 365, 366, 367, 370, 371, 372, 373, 374, 377, 378, 379, 380, 381, 384, 385, 386, 387, 388, 391, 392, 393, 394, 395, 398, 399, 400, 401, 402, 405, 406, 407, 408, 409, 412, 413, 414, 417, 418, 419, 420, 421, 424, 425, 426, 429, 430, 431, 434, 435, 436, 437, 438, 441, 442, 443, 444, 445, 448, 449, 450, 451, 452, 455, 456, 457, 458, 459, 462, 463, 464, 465, 466, 469, 470, 471, 474, 475, 476, 477, 478, 481, 482, 483, 484, 485, 488, 489, 490, 493, 494, 495, 498, 499, 500, 501, 502, 505, 506, 507, 510, 511, 512, 513, 514, 218, 212, 226, 234, 242, 250, 258, 266, 274, 282, 290, 297, 304, 311, 318, 326, 320, 334, 328, 339, 347, 348, 213, 214, 215, 216, 217, 225, 233, 241, 249, 257, 265, 273, 281, 289, 292, 293, 294, 295, 296, 299, 300, 301, 302, 303, 306, 307, 308, 309, 310, 313, 314, 315, 316, 317, 321, 322, 323, 324, 325, 329, 330, 331, 332, 333, 336, 337, 338, 346, 350, 1, 2]
abbrev hk : PySem.W.Hook := hookL adr ls fs ds
def ob (s : PySem.W.SharedT) : AlT := obsLG adr ls fs ds (HandSHeadRun.getT s)
theorem ob_eq (s : PySem.W.SharedT) : ob s = hk.obs s.abs := obsLG_eq (HandSHeadRun.getT_eq s)
def nm0 : List Str := ["_wall", "HushError", "NoTops", "NoBottom", "NoRounding", "NoHigh", "NoFlag", "NoRoom", "NoFilter", "NoState", "NoInput", "NoSize", "NoText", "MOST_TOP", "MOST_TOPS", "MOST_BOTTOM", "MOST_HIGH", "MOST_STATES", "MOST_INPUT", "NEAR", "CUT", "DOWN", "is_between", "are_between", "is_rounding", "power", "rounded", "need_parts", "Filter", "summed"]
def nm1 : List Str := ["fitted", "stepped", "need_filter", "need_state", "need_input", "need_step", "integer_in", "filter_of", "made_of", "states_of", "peak", "_law_cell", "_law_pen", "_law_draw", "_law_same", "_law_round", "_law_sum", "_law_fit", "_law_step", "_law_states", "_law_parts", "_law_made", "_law_peak"]
def nms : List Str := nm0 ++ nm1
theorem run (w : World) : HandSHeadRun.RunEq R (PySem.W.view R.prog [57]) hk ob 20000 nms w := by
  intro os
  kernel_rfl
end K61
namespace Dn
open PySem PySem.Spec PyProof.Rows L2
mutual
def tk : PyData → Bool
  | .int _ => true
  | .tuple xs => tks xs
  | _ => false
def tks : List PyData → Bool
  | [] => true
  | x :: xs => tk x && tks xs
end
def isTK : PyData → Bool
  | .tuple xs => tks xs && decide (PyData.depthAll xs ≤ 4)
  | _ => false
mutual
def kh : PyData → Int
  | .int i => hashInt i
  | .tuple xs => reduceHash (Builtin.Tuple.tupleHashOf (khs xs))
  | _ => 0
def khs : List PyData → List Int
  | [] => []
  | x :: xs => kh x :: khs xs
end
def DicP (us : List (PyData × Addr × V)) (ep : Nat) (a : Addr) (h : Heap) : Prop := us.length ≤ sizeLine ∧ (a == sysModules) = false ∧ (us.map (·.1)).Nodup ∧ ∃ xs : List (PyData × Addr × Value),
  Paired (fun (p : PyData × Addr × V) (q : PyData × Addr × Value) => p.1 = q.1 ∧ p.2.1 = q.2.1 ∧ RelV p.2.2 q.2.2) us xs ∧
  ∃ o es, h.get? a = some o ∧ o.ExactDict ∧ o.data = .dict es ep ∧ es.toList = xs.map fun x => (⟨kh x.1, .ref x.2.1, x.2.2⟩ : DictEntry)
def DicO (us : List (PyData × Addr × V)) (ep : Nat) (a : Addr) : HO := .ext (DicP us ep a)
theorem dicO_ok {P : Program} {w : World} {H : Hp} {h : Heap} {us : List (PyData × Addr × V)} {ep : Nat} {a : Addr} (d : DicP us ep a h) : ObjOk P w H h a (DicO us ep a) := by
  have hd := d
  obtain ⟨z, y, n, xs, r, o, es, e1, e2⟩ := d
  exact ⟨hd, ⟨o, e1⟩, fun h1 h2 ⟨z, y, n, xs, r, o, es, e1, e2⟩ k => ⟨z, y, n, xs, r, o, es, k o e1, e2⟩⟩
end Dn
namespace Dn
open PySem PySem.Spec PyProof.Rows L2
def spin : Nat → Nat → List Nat
  | 0, _ => []
  | n + 1, x => x :: spin n ((x * 5 + 1) % 512)
theorem lcg_front (m i : Nat) : ∀ k, lcgI m ((i * 5 + 1) % (m + 1)) k = lcgI m i (k + 1)
  | 0 => rfl
  | k + 1 => by
    show (lcgI m ((i * 5 + 1) % (m + 1)) k * 5 + 1) % (m + 1) = _
    rw [lcg_front m i k]; rfl
theorem spin_mem : ∀ (n x j : Nat), j ∈ spin n x → ∃ k, k < n ∧ lcgI 511 x k = j
  | 0, _, _, h => nomatch h
  | n + 1, x, j, h => by
    rcases List.mem_cons.mp h with e | h
    · exact ⟨0, Nat.succ_pos n, e.symm⟩
    · obtain ⟨k, hk, e⟩ := spin_mem n _ j h
      exact ⟨k + 1, Nat.succ_lt_succ hk, by rw [← lcg_front]; exact e⟩
theorem spin_all : ((List.range 512).all fun j => (spin 512 0).contains j) = true := by decide +kernel
theorem lcg_zero (m : Nat) : ∀ k, lcgN m k = lcgI m 0 k
  | 0 => rfl
  | k + 1 => by
    show (lcgN m k * 5 + 1) % (m + 1) = (lcgI m 0 k * 5 + 1) % (m + 1)
    rw [lcg_zero m k]
theorem spin_met {j : Nat} (h : j ≤ 511) : ∃ b, b ≤ 511 ∧ lcgN 511 b = j := by
  have q := List.all_eq_true.mp spin_all j (List.mem_range.mpr (by omega))
  obtain ⟨k, hk, e⟩ := spin_mem 512 0 j (by simpa using q)
  exact ⟨k, by omega, by rw [lcg_zero]; exact e⟩
theorem spin_back : lcgN 511 512 = 0 := by decide +kernel
theorem spin_on : ∀ k, lcgN 511 (512 + k) = lcgN 511 k
  | 0 => spin_back
  | k + 1 => by
    show (lcgN 511 (512 + k) * 5 + 1) % 512 = (lcgN 511 k * 5 + 1) % 512
    rw [spin_on k]
structure Cov (m : Nat) : Prop where
  one : m = 7 ∨ m = 31 ∨ m = 127 ∨ m = 511
  odd : m % 2 = 1
  le : m ≤ 511
  hit : ∀ (h : Int) (j : Nat), j ≤ m → ∃ n, n ≤ m + 12 ∧ runI m (SetTable.bits h) n = j
theorem Cov.of {m : Nat} (hm : MaskOk m) : Cov m := ⟨by rcases hm with e | e | e <;> simp [e], mask_odd hm, by rcases hm with e | e | e <;> omega, fun h j hj => run_meets hm h hj⟩
theorem cov511 : Cov 511 := by
  refine ⟨by simp, rfl, Nat.le_refl _, fun h j hj => ?_⟩
  obtain ⟨a, ha, ea⟩ := spin_met (runI_le 511 (SetTable.bits h) 12)
  obtain ⟨b, hb, eb⟩ := spin_met hj
  have go : ∀ k, k ≤ 511 → lcgI 511 (lcgN 511 a) k = j → ∃ n, n ≤ 511 + 12 ∧ runI 511 (SetTable.bits h) n = j := fun k hk e =>
    ⟨12 + k, by omega, by rw [runI_tail (bits_lt h), ← ea]; exact e⟩
  by_cases c : a ≤ b
  · exact go (b - a) (by omega) (by rw [lcgN_add, Nat.add_sub_of_le c, eb])
  · exact go (b + 512 - a) (by omega) (by rw [lcgN_add, show a + (b + 512 - a) = 512 + b by omega, spin_on, eb])
theorem Cov.meets {m : Nat} (c : Cov m) (h : Int) {j : Nat} (hj : j ≤ m) : ∃ k, k < 10 * SetTable.turns m ∧ way m h k = j := by
  obtain ⟨n, hn, e⟩ := c.hit h j hj
  obtain ⟨k, hk, e2⟩ := run_nth m (SetTable.bits h) n
  refine ⟨k, by unfold SetTable.turns; omega, ?_⟩
  show (nth m _ k).j = j
  rw [e2]; exact e
theorem way_in (m : Nat) (h : Int) (k : Nat) : way m h k ≤ m := by
  have b : SetTable.bits h % (m + 1) ≤ m := Nat.le_of_lt_succ (Nat.mod_lt _ (Nat.succ_pos _))
  have r := runEnd_bd b
  have q := nth_in (m := m) k (runAt m (SetTable.bits h % (m + 1)) (SetTable.bits h)) (by
    show SetTable.bits h % (m + 1) + (SetTable.runEnd m (SetTable.bits h % (m + 1)) - SetTable.bits h % (m + 1)) ≤ m
    omega)
  show (nth m _ k).j ≤ m
  omega
structure Tbl (t : SetTable) (hs : List Int) : Prop where
  cov : Cov t.mask
  ris : Ris t.place.toList
  dm : t.dummies = #[]
  sz : t.place.toList.length = hs.length
  bd : ∀ x ∈ t.place.toList, x ≤ t.mask
  on : ∀ (i : Nat) (h : Int) (j : Nat), hs[i]? = some h → t.place.toList[i]? = some j → ∃ k, way t.mask h k = j ∧ ∀ k', k' < k → way t.mask h k' ∈ t.place.toList
section
variable {t : SetTable} {hs : List Int}
theorem Tbl.gap (T : Tbl t hs) (hl : hs.length ≤ t.mask) (h : Int) : ∃ K, K < 10 * SetTable.turns t.mask ∧ way t.mask h K ∉ t.place.toList ∧ ∀ k, k < K → way t.mask h k ∈ t.place.toList := by
  obtain ⟨j, hj, hn⟩ := st_missing t.place.toList (t.mask + 1) (by rw [T.sz]; omega)
  obtain ⟨k, hk, e⟩ := T.cov.meets h (Nat.le_of_lt_succ hj)
  obtain ⟨K, k1, k2, k3⟩ := st_least (p := fun k => way t.mask h k ∉ t.place.toList) k (by rw [e]; exact hn)
  exact ⟨K, by omega, k2, fun c hc => Classical.not_not.mp (k3 c hc)⟩
theorem Tbl.ahead (T : Tbl t hs) {h : Int} {K i j : Nat} (hK : way t.mask h K ∉ t.place.toList) (hi : hs[i]? = some h) (hj : t.place.toList[i]? = some j) : ∃ k, k < K ∧ way t.mask h k = j := by
  obtain ⟨k, e, b⟩ := T.on i h j hi hj
  refine ⟨k, Nat.lt_of_not_le fun z => ?_, e⟩
  rcases Nat.lt_or_eq_of_le z with z | z
  · exact hK (b K z)
  · rw [z, e] at hK
    exact hK (List.mem_of_getElem? hj)
theorem Tbl.put (T : Tbl t hs) {h : Int} {K : Nat} (hK : way t.mask h K ∉ t.place.toList) (hb : ∀ k, k < K → way t.mask h k ∈ t.place.toList) {p : Nat} (hp : p = SetTable.below t.place (way t.mask h K)) :
    p ≤ hs.length ∧ Tbl (t.put (way t.mask h K)).1 (hs.take p ++ h :: hs.drop p) := by
  obtain ⟨j, hj⟩ : ∃ j, j = way t.mask h K := ⟨_, rfl⟩
  rw [← hj] at hp hK ⊢
  have c1 := (below_cut T.ris j).1
  have pl : p ≤ t.place.toList.length := by rw [hp, Array.length_toList]; exact c1
  have ph : p ≤ hs.length := by rw [← T.sz]; exact pl
  have pp := put_place t j
  rw [← hp] at pp
  have up : ∀ {x : Nat}, x ∈ t.place.toList → x ∈ (t.put j).1.place.toList := fun {x} hx => by rw [pp]; exact mem_ins.2 (.inr hx)
  have ri : Ris (t.put j).1.place.toList := ris_insert T.ris fun e => hK (List.mem_of_getElem? (by rw [Array.getElem?_toList]; exact e))
  refine ⟨ph, T.cov, ri, put_dm T.dm j, by rw [pp, len_ins _ pl, len_ins _ ph, T.sz], fun x hx => ?_, fun i h' j' h1 h2 => ?_⟩
  · rw [pp] at hx
    rcases mem_ins.1 hx with e | e
    · rw [e, hj]; exact way_in _ _ _
    · exact T.bd x e
  · show ∃ k, way t.mask h' k = j' ∧ ∀ k', k' < k → way t.mask h' k' ∈ (t.put j).1.place.toList
    rw [tins_get hs ph] at h1
    rw [pp, tins_get _ pl] at h2
    have old : ∀ i, hs[i]? = some h' → t.place.toList[i]? = some j' → ∃ k, way t.mask h' k = j' ∧ ∀ k', k' < k → way t.mask h' k' ∈ (t.put j).1.place.toList := fun i a b => by
      obtain ⟨k, e, z⟩ := T.on i h' j' a b
      exact ⟨k, e, fun k' hk' => up (z k' hk')⟩
    by_cases c : i < p
    · rw [if_pos c] at h1 h2; exact old i h1 h2
    · rw [if_neg c] at h1 h2
      by_cases d : i = p
      · rw [if_pos d] at h1 h2
        cases h1; cases h2
        exact ⟨K, hj.symm, fun k' hk' => up (hb k' hk')⟩
      · rw [if_neg d] at h1 h2; exact old (i - 1) h1 h2
end
theorem Cov.free {m : Nat} (c : Cov m) (owner : Array (Option Nat)) (h : Int) {j : Nat} (hj : j ≤ m) (hf : oAt owner j = none) :
    ∃ K, SetTable.layClean.free m owner (SetTable.turns m) (SetTable.bits h % (m + 1)) (SetTable.bits h) = some (way m h K) ∧ oAt owner (way m h K) = none ∧ ∀ k, k < K → oAt owner (way m h k) ≠ none := by
  obtain ⟨n, hn, e⟩ := c.hit h j hj
  have w : way m h (off m (SetTable.bits h % (m + 1)) (SetTable.bits h) n) = j := by
    show (nth m _ _).j = j
    rw [nth_off, itL_run]; exact e
  obtain ⟨K, k1, k2, k3⟩ := st_least (p := fun k => oAt owner (way m h k) = none) _ (show oAt owner (way m h (off m (SetTable.bits h % (m + 1)) (SetTable.bits h) n)) = none by rw [w]; exact hf)
  refine ⟨K, free_spec m owner (SetTable.turns m) n _ _ K (by unfold SetTable.turns; omega) k1 (fun k hk => ?_) (by show (oAt owner (way m h K)).isNone = true; rw [k2]; rfl), k2, k3⟩
  have q := k3 k hk
  show (oAt owner (way m h k)).isNone = false
  cases z : oAt owner (way m h k) with
  | none => exact absurd z q
  | some _ => rfl
theorem Cov.own {m : Nat} (c : Cov m) {done : List Int} {owner : Array (Option Nat)} (W : Own m done owner) (hl : done.length ≤ m) (h : Int) :
    ∃ j, SetTable.layClean.free m owner (SetTable.turns m) (SetTable.bits h % (m + 1)) (SetTable.bits h) = some j ∧ Own m (done ++ [h]) (owner.setIfInBounds j (some done.length)) := by
  obtain ⟨ps, lp, inp⟩ := W.ps
  obtain ⟨j0, h0, n0⟩ := st_missing ps (m + 1) (by omega)
  have f0 : oAt owner j0 = none := Classical.byContradiction fun z => n0 (inp j0 (Nat.le_of_lt_succ h0) z)
  obtain ⟨K, e1, e2, e3⟩ := c.free owner h (Nat.le_of_lt_succ h0) f0
  have wm := way_in m h K
  have ws : way m h K < owner.size := by rw [W.sz]; omega
  have self := oAt_set_self (some done.length) ws
  have ne : ∀ {i : Nat}, i ≠ way m h K → oAt (owner.setIfInBounds (way m h K) (some done.length)) i = oAt owner i := fun {i} z => oAt_set_ne _ z
  have more : ∀ {i : Nat}, oAt owner i ≠ none → oAt (owner.setIfInBounds (way m h K) (some done.length)) i ≠ none := fun {i} z => by
    by_cases q : i = way m h K
    · rw [q, self]; exact nofun
    · rw [ne q]; exact z
  have dl : (done ++ [h]).length = done.length + 1 := by simp
  refine ⟨_, e1, by rw [Array.size_setIfInBounds]; exact W.sz, fun j k hj e => ?_, fun k hk => ?_, way m h K :: ps, by rw [List.length_cons, dl, lp], fun j hj e => ?_⟩
  · by_cases q : j = way m h K
    · rw [q, self] at e
      cases e
      exact ⟨h, K, by simp, q.symm, fun k' hk' => more (e3 k' hk')⟩
    · rw [ne q] at e
      obtain ⟨h', K', a1, a2, a3⟩ := W.at_ j k hj e
      exact ⟨h', K', by rw [List.getElem?_append_left (List.getElem?_eq_some_iff.mp a1).1]; exact a1, a2, fun k' hk' => more (a3 k' hk')⟩
  · rw [dl] at hk
    rcases Nat.lt_or_eq_of_le (Nat.le_of_lt_succ hk) with z | z
    · obtain ⟨j, hj, e⟩ := W.all k z
      refine ⟨j, hj, ?_⟩
      rw [ne fun q => by rw [q, e2] at e; cases e]; exact e
    · exact ⟨_, wm, by rw [z]; exact self⟩
  · by_cases q : j = way m h K
    · rw [q]; exact List.mem_cons_self
    · rw [ne q] at e
      exact List.mem_cons_of_mem _ (inp j hj e)
theorem Cov.lay {m : Nat} (c : Cov m) : ∀ (rest done : List Int) (owner : Array (Option Nat)), Own m done owner → done.length + rest.length ≤ m →
    ∃ owner', rest.foldl (stepF m) (some (owner, done.length)) = some (owner', done.length + rest.length) ∧ Own m (done ++ rest) owner'
  | [], done, owner, W, _ => ⟨owner, rfl, by rw [List.append_nil]; exact W⟩
  | h :: rest, done, owner, W, hl => by
    have hl : done.length + (rest.length + 1) ≤ m := hl
    obtain ⟨j, e, W'⟩ := c.own W (by omega) h
    obtain ⟨o, f, W2⟩ := Cov.lay c rest (done ++ [h]) _ W' (by simp; omega)
    refine ⟨o, ?_, by rw [List.append_assoc] at W2; exact W2⟩
    rw [List.foldl_cons, stepF_some e]
    rw [List.length_append] at f
    show rest.foldl (stepF m) (some (_, done.length + 1)) = some (o, done.length + (rest.length + 1))
    rw [show done.length + (rest.length + 1) = done.length + [h].length + rest.length by simp; omega]
    exact f
theorem Cov.anew {M : Nat} (c : Cov M) (t : SetTable) {hs : Array Int} {wanted : Nat} (hw : SetTable.sizeAbove wanted - 1 = M) (hn : hs.size ≤ M) :
    ∃ t' order, t.relaid hs wanted = some (t', order) ∧ order.toList.Perm (List.range hs.size) ∧ Tbl t' (order.toList.map fun i => hs.getD i 0) ∧ t'.mask = M ∧ t'.led = t.led ∧ t'.plain = t.plain := by
  obtain ⟨owner, f, W⟩ := c.lay hs.toList [] _ (Own.init M) (by show 0 + hs.size ≤ M; omega)
  rw [List.nil_append] at W
  have e : SetTable.layClean M hs = some owner := by
    rw [layClean_eq]
    replace f : hs.toList.foldl (stepF M) (some (Array.replicate (M + 1) none, 0)) = some (owner, _) := f
    rw [f]; rfl
  have ml := fun {j k : Nat} => mem_live (m := M) (owner := owner) W.sz (j := j) (k := k)
  obtain ⟨r1, r2⟩ := ris_live (fun j => owner.getD j none) (List.range (M + 1)) List.pairwise_lt_range
  replace r1 : Ris ((liveOf M owner).map (·.1)) := r1
  replace r2 : ∀ x ∈ (liveOf M owner).map (·.1), x ∈ List.range (M + 1) := r2
  have every : ∀ k, k < hs.size → k ∈ (liveOf M owner).map (·.2) := fun k hk => by
    obtain ⟨j, b1, b2⟩ := W.all k (by rw [Array.length_toList]; exact hk)
    exact List.mem_map.mpr ⟨(j, k), ml.2 ⟨b1, b2⟩, rfl⟩
  have len : (liveOf M owner).length = hs.size := by
    obtain ⟨ps, p1, p2⟩ := W.ps
    have p1' : ps.length = hs.size := p1
    have nd : ((liveOf M owner).map (·.1)).Nodup := List.Pairwise.imp (fun h => Nat.ne_of_lt h) r1
    have a := nat_nodup_len _ ps nd fun x hx => by
      obtain ⟨q, hq, rfl⟩ := List.mem_map.mp hx
      obtain ⟨b1, b2⟩ := ml.1 (show (q.1, q.2) ∈ liveOf M owner from hq)
      exact p2 q.1 b1 (by rw [b2]; exact nofun)
    have b := nat_nodup_len (List.range hs.size) ((liveOf M owner).map (·.2)) List.nodup_range fun k hk => every k (List.mem_range.mp hk)
    rw [List.length_map] at a b
    rw [List.length_range] at b
    exact Nat.le_antisymm (by rw [← p1']; exact a) b
  refine ⟨L2.tabOf t M owner, ((liveOf M owner).map (·.2)).toArray, by rw [relaid_eq, hw, e]; rfl, ?_, ⟨c, r1, rfl, ?_, fun x hx => ?_, fun i h j h1 h2 => ?_⟩, rfl, rfl, rfl⟩
  · exact perm_range hs.size ((liveOf M owner).map (·.2)) (by rw [List.length_map]; exact len) every
  · show ((liveOf M owner).map (·.1)).length = (((liveOf M owner).map (·.2)).map _).length
    simp
  · exact Nat.le_of_lt_succ (List.mem_range.mp (r2 x hx))
  · replace h1 : (((liveOf M owner).map (·.2)).map fun i => hs.getD i 0)[i]? = some h := h1
    replace h2 : ((liveOf M owner).map (·.1))[i]? = some j := h2
    rw [List.map_map, List.getElem?_map] at h1
    rw [List.getElem?_map] at h2
    cases hq : (liveOf M owner)[i]? with
    | none => rw [hq] at h2; cases h2
    | some q =>
      rw [hq] at h1 h2
      cases h2; cases h1
      obtain ⟨b1, b2⟩ := ml.1 (show (q.1, q.2) ∈ liveOf M owner from List.mem_of_getElem? hq)
      obtain ⟨h0, K, a1, a2, a3⟩ := W.at_ q.1 q.2 b1 b2
      have e0 : hs.getD q.2 0 = h0 := by rw [Array.getD_eq_getD_getElem?, ← Array.getElem?_toList, a1]; rfl
      show ∃ k, way M (hs.getD q.2 0) k = q.1 ∧ ∀ k', k' < k → way M (hs.getD q.2 0) k' ∈ (liveOf M owner).map (·.1)
      rw [e0]
      refine ⟨K, a2, fun k' hk' => ?_⟩
      cases z : oAt owner (way M h0 k') with
      | none => exact absurd z (a3 k' hk')
      | some k2 => exact List.mem_map.mpr ⟨(way M h0 k', k2), ml.2 ⟨way_in _ _ _, z⟩, rfl⟩
end Dn
namespace Dn
open PySem PySem.Spec PyProof.Rows L2
structure SetB (P : Program) (w : World) (h : Heap) (a : Addr) (L : List (Addr × List Int)) (es : Array (Int × Value)) (ep : Nat) (t : SetTable) : Prop where
  ob : ∃ o, h.get? a = some o ∧ o.ExactSet ∧ o.data = .set es ep t
  rows : es.toList = rowsOf P w L
  tab : Tbl t (L.map fun p => thash P w p.2)
  nd : (L.map (·.2)).Nodup
  plain : t.plain = true
  room : L.length * 5 < t.mask * 3
  few : L.length ≤ 300
section
variable {P : Program} {w : World} {A : Around} {E : Value → Shared → Prop} {s : Shared} {a : Addr} {L : List (Addr × List Int)} {es : Array (Int × Value)} {ep : Nat} {t : SetTable}
theorem rows_len {L : List (Addr × List Int)} {es : Array (Int × Value)} (h : es.toList = rowsOf P w L) : es.size = L.length := by
  have := congrArg List.length h
  unfold rowsOf at this
  rw [Array.length_toList, List.length_map] at this
  exact this
theorem fits_of {t : SetTable} {n : Nat} (h1 : t.place.size = n) (h2 : t.dummies = #[]) (h3 : n ≤ t.mask) : t.fits n = true := by
  unfold SetTable.fits SetTable.fill
  rw [h2, h1, Bool.and_eq_true, beq_iff_eq, decide_eq_true_eq]
  exact ⟨rfl, h3⟩
theorem SetB.sz (R : SetB P w s.heap a L es ep t) : t.place.size = es.size := by
  have h := R.tab.sz
  rw [Array.length_toList, List.length_map] at h
  rw [h, rows_len R.rows]
theorem SetB.fits (R : SetB P w s.heap a L es ep t) : t.fits es.size = true := fits_of R.sz R.tab.dm (by have := R.room; rw [rows_len R.rows]; omega)
theorem SetB.row (R : SetB P w s.heap a L es ep t) {i : Nat} {p : Addr × List Int} (h : L[i]? = some p) : es[i]? = some (thash P w p.2, Value.ref p.1) := by
  rw [← Array.getElem?_toList, R.rows]
  unfold rowsOf
  rw [List.getElem?_map, h]; rfl
theorem SetB.stands (R : SetB P w s.heap a L es ep t) : ¬ t.gaveWay = true := by
  unfold SetTable.gaveWay
  rw [R.tab.cov.odd]; decide
theorem SetB.seek (R : SetB P w s.heap a L es ep t) (ht : ∀ p ∈ L, IsT P w s.heap p.2 p.1) {x : Addr} {k : List Int} (hx : IsT P w s.heap k x) (hu : A.units < cLine) {ad : Bool} {K : Nat} (hKf : K < 10 * SetTable.turns t.mask)
    (hK : way t.mask (thash P w k) K ∉ t.place.toList) (hKb : ∀ c, c < K → way t.mask (thash P w k) c ∈ t.place.toList) {Q : SetFound → Shared → Prop}
    (hin : k ∈ L.map (·.2) → ∀ o : Option Nat, (ad = false → o.isSome = true) → Q (.there o) s) (hout : k ∉ L.map (·.2) → Q (.free (way t.mask (thash P w k) K) false) s) :
    ∀ (f c : Nat) (stand : Option SetTable.Probe), stand.getD (t.probeStart (thash P w k)) = nth t.mask (runAt t.mask (SetTable.bits (thash P w k) % (t.mask + 1)) (SetTable.bits (thash P w k))) c → c ≤ K → K - c < f →
      (∀ (i : Nat) p, L[i]? = some p → p.2 = k → ∃ c', c ≤ c' ∧ c' < K ∧ t.place.toList[i]? = some (way t.mask (thash P w k) c')) →
      wpAny (model P w) A (setSearchFrom a (.ref x) (thash P w k) ad f stand) Q E s := by
  intro f
  induction f with
  | zero => intro c stand _ _ hf _; exact absurd hf (Nat.not_lt_zero _)
  | succ f ih =>
    intro c stand hst hc hf hre
    obtain ⟨o, ho, hex, hd⟩ := R.ob
    obtain ⟨start, hstart⟩ : ∃ q, q = runAt t.mask (SetTable.bits (thash P w k) % (t.mask + 1)) (SetTable.bits (thash P w k)) := ⟨_, rfl⟩
    have wj : ∀ q, (nth t.mask (nth t.mask start c) q).j = way t.mask (thash P w k) (c + q) := fun q => by rw [hstart, ← nth_add]
    have dmy : ∀ (n : Nat) (p : SetTable.Probe), p.dummy = none → (nth t.mask p n).dummy = none := fun n => by
      induction n with
      | zero => exact fun p h => h
      | succ n ihn =>
        intro p h
        refine ihn (adv t.mask p) ?_
        unfold adv
        split <;> exact h
    have hash : ∀ (i : Nat) p, L[i]? = some p → (fun i => (es[i]?.map (·.1)).getD 0) i = thash P w p.2 := fun i p hp => by
      show (es[i]?.map (·.1)).getD 0 = _
      rw [R.row hp]; rfl
    rw [← hstart] at hst
    have spec := go_spec t R.tab.ris R.tab.dm (fun i => (es[i]?.map (·.1)).getD 0) (thash P w k) (10 * SetTable.turns t.mask) (K - c) (nth t.mask start c) (dmy c start (by rw [hstart]; rfl)) (by omega)
      (fun q hq => by rw [wj]; exact hKb _ (by omega)) (by rw [wj, Nat.add_sub_of_le hc]; exact hK)
    rw [setSearchFrom_succ]
    refine wpAny_bind (wpAny_setState_of ho hd R.fits ?_)
    dsimp only
    refine wp_if_neg R.stands ?_
    try refine wpAny_bind (wpAny_pure ?_)
    rw [hst]
    rcases spec with ⟨q, i, hq, hi, hh, hno, hpr⟩ | ⟨hno, hpr⟩
    · -- one of the same hash
      replace hpr : t.probe (fun i => (es[i]?.map (·.1)).getD 0) (thash P w k) (nth t.mask start c) = some (.candidate (nth t.mask (nth t.mask start c) q).j i (nth t.mask (nth t.mask start c) (q + 1))) := hpr
      rw [hpr]
      dsimp only
      rw [wj] at hi ⊢
      have il : i < L.length := by
        have h1 := (List.getElem?_eq_some_iff.mp hi).1
        have h2 := R.tab.sz
        rw [List.length_map] at h2
        omega
      obtain ⟨p, hp⟩ : ∃ p, L[i]? = some p := ⟨_, List.getElem?_eq_getElem il⟩
      have pm := List.mem_of_getElem? hp
      have live := slot_live R.tab.ris hi
      have rest : wpAny (model P w) A (searchRest a (.ref x) (thash P w k) ad f es t (way t.mask (thash P w k) (c + q)) i (nth t.mask (nth t.mask start c) (q + 1))) Q E s := by
        unfold searchRest
        rw [R.row hp]
        dsimp only
        refine wpAny_bind (wpAny_holding (wpAny_eqBool_tuple hu (ht p pm) hx ?_))
        refine wpAny_bind (wpAny_setState_of ho hd R.fits ?_)
        dsimp only
        by_cases hkk : p.2 = k
        · have hk : k ∈ L.map (·.2) := List.mem_map.mpr ⟨p, pm, hkk⟩
          cases ad with
          | true =>
            refine wp_if_pos (by simp [hkk]) ?_
            exact wpAny_pure (hin hk none nofun)
          | false =>
            refine wp_if_neg (by simp) ?_
            try refine wpAny_bind (wpAny_pure ?_)
            rw [sameMem]
            dsimp only
            simp only [if_true, live, R.row hp]
            refine wpAny_bind (wpAny_isSame_ref_self (wpAny_bind (wpAny_pure ?_)))
            simp only [if_true]
            refine wp_if_pos (by simp [hkk]) ?_
            exact wpAny_pure (hin hk (some i) fun _ => rfl)
        · refine wp_if_neg (by simp [hkk]) ?_
          try refine wpAny_bind (wpAny_pure ?_)
          rw [sameMem]
          dsimp only
          simp only [if_true, live, R.row hp]
          refine wpAny_bind (wpAny_isSame_ref_self (wpAny_bind (wpAny_pure ?_)))
          simp only [if_true]
          refine wp_if_neg (by simp [hkk]) ?_
          refine ih (c + (q + 1)) _ (by show nth t.mask (nth t.mask start c) (q + 1) = _; rw [hstart]; exact (nth_add t.mask c _ (q + 1)).symm) (by omega) (by omega) fun i0 p0 h0 hk0 => ?_
          obtain ⟨c', a1, a2, a3⟩ := hre i0 p0 h0 hk0
          refine ⟨c', Classical.byContradiction fun z0 => ?_, a2, a3⟩
          rcases (show c' < c + q ∨ c' = c + q by omega) with z | z
          · refine hno (c' - c) i0 (by omega) (by rw [wj, Nat.add_sub_of_le a1]; exact a3) ?_
            exact (hash i0 p0 h0).trans (by rw [hk0])
          · rw [z] at a3
            have s0 := slot_live R.tab.ris a3
            rw [live] at s0
            injection s0 with s0
            rw [← s0, hp] at h0
            cases h0
            exact hkk hk0
      by_cases hl : t.led = true
      · refine wp_if_neg (by simp [hl]) ?_
        try refine wpAny_bind (wpAny_pure ?_)
        exact rest
      · refine wp_if_pos (by simp [hl]) ?_
        refine wpAny_bind (seen_tup hx (fun y hy => ?_) ?_)
        · obtain ⟨e, he, rfl⟩ := List.mem_map.mp hy
          have he2 : e ∈ es.toList := by
            have : e ∈ es ∧ e.1 = thash P w k := by simpa using he
            simpa using this.1
          rw [R.rows] at he2
          obtain ⟨p2, hp2, rfl⟩ := List.mem_map.mp he2
          exact ⟨p2.2, p2.1, rfl, ht p2 hp2⟩
        · refine wp_if_neg (by decide) ?_
          try refine wpAny_bind (wpAny_pure ?_)
          exact rest
    · -- a gap
      replace hpr : t.probe (fun i => (es[i]?.map (·.1)).getD 0) (thash P w k) (nth t.mask start c) = some (.empty (nth t.mask (nth t.mask start c) (K - c)).j none) := hpr
      rw [hpr, wj, Nat.add_sub_of_le hc]
      dsimp only
      refine wpAny_pure (hout fun hm => ?_)
      obtain ⟨p0, m0, e0⟩ := List.mem_map.mp hm
      obtain ⟨i0, l0, g0⟩ := List.getElem_of_mem m0
      have h0 : L[i0]? = some p0 := by rw [List.getElem?_eq_getElem l0, g0]
      obtain ⟨c', a1, a2, a3⟩ := hre i0 p0 h0 e0
      refine hno (c' - c) i0 (by omega) (by rw [wj, Nat.add_sub_of_le a1]; exact a3) ?_
      exact (hash i0 p0 h0).trans (by rw [e0])
theorem SetB.search (R : SetB P w s.heap a L es ep t) (ht : ∀ p ∈ L, IsT P w s.heap p.2 p.1) {x : Addr} {k : List Int} (hx : IsT P w s.heap k x) (hu : A.units < cLine) {ad : Bool} {Q : SetFound → Shared → Prop}
    (hin : k ∈ L.map (·.2) → ∀ o : Option Nat, (ad = false → o.isSome = true) → Q (.there o) s)
    (hout : ∀ K, k ∉ L.map (·.2) → way t.mask (thash P w k) K ∉ t.place.toList → (∀ c, c < K → way t.mask (thash P w k) c ∈ t.place.toList) → Q (.free (way t.mask (thash P w k) K) false) s) :
    wpAny (model P w) A (setSearch a (.ref x) (thash P w k) ad) Q E s := by
  have hroom := R.room
  obtain ⟨K, hKf, hK, hKb⟩ := R.tab.gap (by rw [List.length_map]; omega) (thash P w k)
  have big : K < 100000 := by
    have : 10 * SetTable.turns t.mask ≤ 10000 := by
      have := R.tab.cov.le
      unfold SetTable.turns; omega
    omega
  unfold setSearch
  refine R.seek ht hx hu hKf hK hKb hin (fun hn => hout K hn hK hKb) 100000 0 none rfl (Nat.zero_le _) (by omega) fun i p hp hk => ?_
  have hi : (L.map fun p => thash P w p.2)[i]? = some (thash P w k) := by rw [List.getElem?_map, hp, ← hk]; rfl
  have il : i < t.place.toList.length := by
    have h1 := (List.getElem?_eq_some_iff.mp hp).1
    rw [R.tab.sz, List.length_map]; exact h1
  obtain ⟨c, hc, e⟩ := R.tab.ahead hK hi (List.getElem?_eq_getElem il)
  exact ⟨c, Nat.zero_le _, hc, by rw [List.getElem?_eq_getElem il, e]⟩
end
end Dn
namespace Dn
open PySem PySem.Spec PyProof.Rows L2
theorem size_308 : SetTable.sizeAbove (SetTable.grown 77) = 512 := by decide +kernel
section
variable {P : Program} {w : World} {A : Around} {E : Value → Shared → Prop} {s : Shared} {a : Addr} {L : List (Addr × List Int)} {es : Array (Int × Value)} {ep : Nat} {t : SetTable}
theorem set_larger {o : Obj} (ho : s.heap.get? a = some o) (hex : o.ExactSet) (hd : o.data = .set es ep t) (rows : es.toList = rowsOf P w L) (sz : t.place.size = es.size) (dm : t.dummies = #[]) (fl : es.size ≤ t.mask)
    (nd : (L.map (·.2)).Nodup) (pl : t.plain = true) (few : L.length ≤ 300) {wanted M : Nat}
    (hw : SetTable.sizeAbove wanted - 1 = M) (c : Cov M) (room : L.length * 5 < M * 3) {Q : Unit → Shared → Prop}
    (hQ : ∀ h' L' es' ep' t', Heap.SameBut a s.heap h' → SetB P w h' a L' es' ep' t' → L'.Perm L → Q () { s with heap := h' }) : wpAny (model P w) A (setRelay a wanted) Q E s := by
  have n := rows_len rows
  obtain ⟨t', order, e, op, T, em, el, epl⟩ := c.anew t (hs := es.map (·.1)) hw (by rw [Array.size_map, n]; omega)
  rw [Array.size_map, n] at op
  obtain ⟨L2, r1, r2, r3⟩ := order_rows L es order rows op
  rw [← r3] at T
  have sz2 : (order.filterMap (es[·]?)).size = es.size := by rw [rows_len r1, r2.length_eq, n]
  have big := c.le
  have w512 : SetTable.sizeAbove wanted ≤ 512 := by omega
  rw [setRelay_eq]
  refine wpAny_bind (wpAny_setState_of ho hd (fits_of sz dm fl) ?_)
  dsimp only
  refine wp_if_neg (by rw [sizeLine_eq]; omega) ?_
  try refine wpAny_bind (wpAny_pure ?_)
  rw [e]
  dsimp only
  refine wpAny_bind ?_
  refine wp_if_neg (by rw [sz2]; simp) ?_
  try refine wpAny_bind (wpAny_pure ?_)
  refine wpAny_pure ?_
  dsimp only
  refine wpAny_storeSet_of ho hd ?_ (by rw [sz2, n, sizeLine_eq]; omega)
  exact hQ _ L2 _ (ep + 1) t' (Heap.SameBut.update ..) ⟨⟨_, store_at ho hd, ⟨hex.1, hex.2.1, hex.2.2⟩, rfl⟩, r1, T, (r2.map (·.2)).nodup_iff.mpr nd, by rw [epl]; exact pl, by rw [r2.length_eq, em]; exact room, by rw [r2.length_eq]; exact few⟩ r2
theorem SetB.add (R : SetB P w s.heap a L es ep t) (ht : ∀ p ∈ L, IsT P w s.heap p.2 p.1) {x : Addr} {k : List Int} (hx : IsT P w s.heap k x) (hu : A.units < cLine) (few : L.length + 1 ≤ 300) {Q : Bool → Shared → Prop}
    (hQ : ∀ b h' L' es' ep' t', Heap.SameBut a s.heap h' → SetB P w h' a L' es' ep' t' → (k ∈ L.map (·.2) → L' = L) → (k ∉ L.map (·.2) → L'.Perm ((x, k) :: L)) → Q b { s with heap := h' }) :
    wpAny (model P w) A (setAddHashed a (.ref x) (thash P w k)) Q E s := by
  obtain ⟨o, ho, hex, hd⟩ := R.ob
  have n := rows_len R.rows
  have hroom := R.room
  unfold setAddHashed
  refine wpAny_holding ?_
  rw [show (100000 : Nat) = 99999 + 1 from rfl, setAddHashedIn_succ]
  refine wpAny_bind (wpAny_setState_of ho hd R.fits ?_)
  dsimp only
  refine wp_if_neg (by simp [byScan, Value.scannable]) ?_
  try refine wpAny_bind (wpAny_pure ?_)
  refine wpAny_bind (R.search ht hx hu (fun hm o' _ => ?_) fun K hm hK hb => ?_)
  · dsimp only
    exact wpAny_pure (hQ false s.heap L es ep t (Heap.SameBut.refl a s.heap) R (fun _ => rfl) fun z => absurd hm z)
  dsimp only
  refine wpAny_bind (wpAny_setState_of ho hd R.fits ?_)
  dsimp only
  obtain ⟨p, hp⟩ : ∃ p, p = SetTable.below t.place (way t.mask (thash P w k) K) := ⟨_, rfl⟩
  obtain ⟨q1, q2⟩ := R.tab.put hK hb hp
  have b1 : (t.put (way t.mask (thash P w k) K)).2 = p := by rw [hp]; rfl
  have b2 : (t.put (way t.mask (thash P w k) K)).1.mask = t.mask := rfl
  have b3 : (t.put (way t.mask (thash P w k) K)).1.plain = true := R.plain
  have b4 : (t.put (way t.mask (thash P w k) K)).1.led = t.led := rfl
  generalize t.put (way t.mask (thash P w k) K) = pt at q2 b1 b2 b3 b4 ⊢
  obtain ⟨t1, p1⟩ := pt
  dsimp only at q2 b1 b2 b3 b4 ⊢
  subst b1
  first
    | (refine wpAny_bind ?_; refine wp_if_pos b3 ?_; refine hashBy_tup hx ?_)
    | refine wp_if_pos b3 (wpAny_bind (hashBy_tup hx ?_))
  simp only [if_true]
  have rows1 : (SetTable.insertAt es p1 (thash P w k, Value.ref x)).toList = rowsOf P w (L.take p1 ++ (x, k) :: L.drop p1) := by
    rw [SetTable.toList_insertAt, rows_put, R.rows]
  have pm := put_perm L p1 (x, k)
  have tab1 : Tbl t1 ((L.take p1 ++ (x, k) :: L.drop p1).map fun p => thash P w p.2) := by
    rw [List.map_append, List.map_cons, List.map_take, List.map_drop]; exact q2
  generalize SetTable.insertAt es p1 (thash P w k, Value.ref x) = es1 at rows1 ⊢
  generalize L.take p1 ++ (x, k) :: L.drop p1 = L1 at rows1 pm tab1
  have n1 : L1.length = L.length + 1 := pm.length_eq
  have nd1 : (L1.map (·.2)).Nodup := by
    refine (pm.map (·.2)).nodup_iff.mpr ?_
    rw [List.map_cons]
    exact List.nodup_cons.mpr ⟨hm, R.nd⟩
  have z1 := rows_len rows1
  have sz1 : t1.place.size = es1.size := by
    have h := tab1.sz
    rw [Array.length_toList, List.length_map] at h
    rw [h, z1]
  refine wpAny_bind (wpAny_storeSet_of ho hd ?_ (by rw [z1, n1, sizeLine_eq]; omega))
  have sb : Heap.SameBut a s.heap (s.heap.update a (Obj.putSet es1 t1)) := Heap.SameBut.update ..
  have ho1 := store_at (es' := es1) (t' := t1) ho hd
  generalize s.heap.update a (Obj.putSet es1 t1) = h1 at sb ho1 ⊢
  have full : t1.tooFull = decide ((L.length + 1) * 5 ≥ t1.mask * 3) := by
    unfold SetTable.tooFull SetTable.fill
    rw [tab1.dm, sz1, z1, n1]; rfl
  by_cases hf : t1.tooFull = true
  · first
      | (refine wpAny_bind ?_; refine wp_if_pos (by simp [hf]) ?_)
      | (refine wp_if_pos (by simp [hf]) ?_; refine wpAny_bind ?_)
    rw [full, decide_eq_true_eq, b2] at hf
    rw [n]
    have go : ∀ M, SetTable.sizeAbove (SetTable.grown (L.length + 1)) - 1 = M → Cov M → (L.length + 1) * 5 < M * 3 →
        wpAny (model P w) A (setRelay a (SetTable.grown (L.length + 1))) (fun _ s' => wpAny (model P w) A (pure true) Q E s') E { s with heap := h1 } := fun M e1 e2 e3 =>
      set_larger (s := { s with heap := h1 }) ho1 ⟨hex.1, hex.2.1, hex.2.2⟩ rfl rows1 sz1 tab1.dm (by rw [z1, n1, b2]; have := R.tab.cov.le; omega) nd1 b3 (by rw [n1]; exact few) e1 e2 (by rw [n1]; exact e3) fun h2 L2 es2 ep2 t2 sb2 R2 pm2 =>
        wpAny_pure (hQ true h2 L2 es2 ep2 t2 (sb.trans sb2) R2 (fun z => absurd z hm) fun _ => pm2.trans pm)
    rcases R.tab.cov.one with e | e | e | e
    · rw [e] at hf hroom
      have el : L.length = 4 := by omega
      exact go 31 (by rw [el, size_20]) (.of (.inr (.inl rfl))) (by omega)
    · rw [e] at hf hroom
      have el : L.length = 18 := by omega
      exact go 127 (by rw [el, size_76]) (.of (.inr (.inr rfl))) (by omega)
    · rw [e] at hf hroom
      have el : L.length = 76 := by omega
      exact go 511 (by rw [el, size_308]) cov511 (by omega)
    · rw [e] at hf; omega
  · first
      | refine wp_if_neg (by simp [hf]) ?_
      | (refine wpAny_bind ?_; refine wp_if_neg (by simp [hf]) ?_; refine wpAny_pure ?_)
    rw [full, decide_eq_true_eq, b2] at hf
    refine wpAny_pure (hQ true h1 L1 es1 (ep + 1) t1 sb ⟨⟨_, ho1, ⟨hex.1, hex.2.1, hex.2.2⟩, rfl⟩, rows1, tab1, nd1, b3, by rw [n1, b2]; omega, by rw [n1]; exact few⟩ (fun z => absurd z hm) fun _ => pm)
theorem SetB.ty (R : SetB P w s.heap a L es ep t) : s.TypeIs (.ref a) "set" := let ⟨o, ho, hx, _⟩ := R.ob; ⟨o, ho, hx.1⟩
theorem SetB.bare (R : SetB P w s.heap a L es ep t) : ∀ b, Value.ref a = .ref b → ∃ ob, s.heap.get? b = some ob ∧ ob.dict = none := fun b e => by
  cases e
  obtain ⟨o, ho, hx, _⟩ := R.ob
  exact ⟨o, ho, hx.2.1⟩
theorem SetB.call_add (R : SetB P w s.heap a L es ep t) (ht : ∀ p ∈ L, IsT P w s.heap p.2 p.1) {x : Addr} {k : List Int} (hx : IsT P w s.heap k x) (hu : A.units + 2 < cLine) (few : L.length + 1 ≤ 300) {Q : Value → Shared → Prop}
    (hQ : ∀ h' L' es' ep' t' n, Heap.SameBut a s.heap h' → SetB P w h' a L' es' ep' t' → (k ∈ L.map (·.2) → L' = L) → (k ∉ L.map (·.2) → L'.Perm ((x, k) :: L)) → Q .none { s with heap := h', toks := n }) :
    wpAny (model P w) A (call (.builtin "set.add") [.ref a, .ref x]) Q E s := by
  refine wpAny_call_entry F.slot_set_add R.ty F.entry_set_add ?_ (F.args_set_add_2 _ _)
  unfold Builtin.«set.add» Builtin.Frozenset.oneOther
  simp only [List.isEmpty_nil, bind_assoc]
  unfold Builtin.Frozenset.addrOf setAdd
  refine wpAny_bind (wpAny_pure ?_)
  try dsimp only
  refine wpAny_bind (wpAny_pure ?_)
  try dsimp only
  refine wpAny_bind ?_
  refine wpAny_holding ?_
  refine wpAny_bind (wpAny_pyHash_tuple (knd := intKind P w) (A := A.in1) (by show A.units + 1 < cLine; omega) hx ?_)
  refine SetB.add (s := { s with toks := s.toks + (k.length + 1) }) (A := A.in1) R ht hx (by show A.units + 1 < cLine; omega) few fun b h' L' es' ep' t' sb R' e1 e2 => ?_
  show wpAny _ _ (ret Value.none) _ _ _
  exact wpAny_pure ⟨_, rfl, hQ h' L' es' ep' t' _ sb R' e1 e2⟩
theorem setFindIn_succ (a : Addr) (x : Value) (h : Int) (fuel : Nat) : setFindIn a x h (fuel + 1) = (do
    let (es, _, _) ← setState a
    if byScan x es then
      rule "set.find.by-scan"
      match ← setScan a x h false es with
      | .found i => return some i
      | .absent => return none
      | .anew => return ← setFindIn a x h fuel
    match ← setSearch a x h with
    | .there i => return i
    | .free .. => return none) := by rfl
theorem SetB.find (R : SetB P w s.heap a L es ep t) (ht : ∀ p ∈ L, IsT P w s.heap p.2 p.1) {x : Addr} {k : List Int} (hx : IsT P w s.heap k x) (hu : A.units < cLine) {Q : Option Nat → Shared → Prop} (h : ∀ o : Option Nat, o.isSome = decide (k ∈ L.map (·.2)) → Q o s) :
    wpAny (model P w) A (setFind a (.ref x) (thash P w k)) Q E s := by
  obtain ⟨o, ho, hex, hd⟩ := R.ob
  unfold setFind
  rw [show (100000 : Nat) = 99999 + 1 from rfl, setFindIn_succ]
  refine wpAny_bind (wpAny_setState_of ho hd R.fits ?_)
  dsimp only
  refine wp_if_neg (by simp [byScan, Value.scannable]) ?_
  try refine wpAny_bind (wpAny_pure ?_)
  refine wpAny_bind (R.search ht hx hu (ad := false) (fun hm o' e => ?_) fun K hm hK hb => ?_)
  · dsimp only
    exact wpAny_pure (h o' (by rw [e rfl]; simp [hm]))
  · dsimp only
    exact wpAny_pure (h none (by simp [hm]))
theorem SetB.within (R : SetB P w s.heap a L es ep t) (ht : ∀ p ∈ L, IsT P w s.heap p.2 p.1) {x : Addr} {k : List Int} (hx : IsT P w s.heap k x) (hu : A.units + 4 < cLine) {Q : Bool → Shared → Prop} (h : ∀ n, Q (decide (k ∈ L.map (·.2))) { s with toks := n }) :
    wpAny (model P w) A (contains (.ref a) (.ref x)) Q E s := by
  unfold contains
  try with_reducible refine wpAny_holding ?_
  refine wpAny_bind (wpAny_specialOf R.ty F.slot_set_contains.lookup ?_)
  show wpAny _ _ (if (some (Value.builtin "set.__contains__") == some Value.none) = true then _ else _) _ E s
  rw [if_neg (by rw [beq_builtin_none]; exact Bool.false_ne_true)]
  refine wpAny_bind (wpAny_callSpecialUnlessNone?_slot (name := Str.ofString "__contains__") R.ty F.slot_set_contains
    (wpAny_call_entry F.slot_set_contains R.ty entry_set_contains ?_ (F.args_set_contains_2 _ _)))
  unfold Builtin.«frozenset.__contains__» Builtin.Frozenset.oneOther
  simp only [List.isEmpty_nil, bind_assoc]
  unfold Builtin.Frozenset.addrOf Builtin.Frozenset.withSetAsKey setContains
  refine wpAny_bind (wpAny_pure ?_)
  try dsimp only
  refine wpAny_bind (wpAny_pure ?_)
  try dsimp only
  refine wpAny_bind (wpAny_tryCatch ?_)
  refine wpAny_holding ?_
  refine wpAny_bind (wpAny_pyHash_tuple (knd := intKind P w) (by show A.units + 1 < cLine; omega) hx ?_)
  refine wpAny_bind (SetB.find (s := { s with toks := s.toks + (k.length + 1) }) (A := A.in1) R ht hx (by show A.units + 1 < cLine; omega) fun r hr => ?_)
  refine wpAny_pure ?_
  show wpAny _ _ (ret (Value.bool r.isSome)) _ _ _
  rw [hr]
  exact wpAny_pure ⟨_, rfl, wpAny_truthy_bool (h _)⟩
theorem setB_new {h : Heap} {a : Addr} (ho : h.get? a = some { cls := .type "set", dict := none, data := .set #[] 0 (.fresh 0 0 (!w.params.followText "set-order")) }) : SetB P w h a [] #[] 0 (.fresh 0 0 (!w.params.followText "set-order")) where
  ob := ⟨_, ho, ⟨rfl, rfl, rfl⟩, rfl⟩
  rows := rfl
  tab := ⟨.of (.inl rfl), List.Pairwise.nil, rfl, rfl, (fun x hx => by cases hx), (fun i h j hi => by simp at hi)⟩
  nd := List.nodup_nil
  plain := rfl
  room := by show 0 * 5 < 7 * 3; decide
  few := by show 0 ≤ 300; decide
theorem SetB.moved {h : Heap} (R : SetB P w h a L es ep t) (P' : Program) (w' : World) : SetB P' w' h a L es ep t := ⟨R.ob, R.rows, R.tab, R.nd, R.plain, R.room, R.few⟩
theorem SetB.keep {h h' : Heap} (R : SetB P w h a L es ep t) (k : ∀ o, h.get? a = some o → h'.get? a = some o) : SetB P w h' a L es ep t := by
  obtain ⟨o, ho, r⟩ := R.ob
  exact ⟨⟨o, k o ho, r⟩, R.rows, R.tab, R.nd, R.plain, R.room, R.few⟩
end
def SetP (L : List (Addr × List Int)) (a : Addr) (h : Heap) : Prop := ∃ P w es ep t, SetB P w h a L es ep t
def SetO (L : List (Addr × List Int)) (a : Addr) : HO := .ext (SetP L a)
theorem setO_ok {P : Program} {w : World} {H : Hp} {h : Heap} {L : List (Addr × List Int)} {a : Addr} (d : SetP L a h) : ObjOk P w H h a (SetO L a) := by
  have hd := d
  obtain ⟨P, w, es, ep, t, R⟩ := d
  obtain ⟨o, ho, _⟩ := R.ob
  exact ⟨hd, ⟨o, ho⟩, fun h1 h2 ⟨P, w, es, ep, t, R⟩ k => ⟨P, w, es, ep, t, R.keep k⟩⟩
end Dn
namespace Dn
open PySem PySem.Spec PyProof.Rows L2
inductive PV where
  | non | bl (b : Bool) | int (i : Int) | str (x : Str)
  | tup (xs : List PV) | lst (xs : List PV) | obj (nm : Str) (fs : List (Str × PV)) | loc (i : Nat) | scr (ns : List Int) | ty (n : String) | cls (nm : Str) | exc (nm : Str) | dic (kvs : List (PV × PV)) | dik (kvs : List (PV × PV)) | tub (xs : List PV)
inductive Cell where
  | lst (xs : List PV) | ins (nm : Str) (fs : List (Str × PV)) | dic (kvs : List (PV × PV)) (ep : Nat) | set (ks : List (List Int))
abbrev Store := List Cell
inductive Res (α : Type) where
  | ok (a : α) (S : Store) | err (c : Str) (S : Store) | bad
abbrev Env1 := List (Option PV)
abbrev EM := Env1 → Store → Res PV
abbrev LM := Env1 → Store → Res (List PV)
abbrev BM := Env1 → Store → Res Bool
abbrev Fn := List PV → Store → Res PV
def Res.bind {α β : Type} : Res α → (α → Store → Res β) → Res β
  | .ok a S, f => f a S
  | .err c S, _ => .err c S
  | .bad, _ => .bad
theorem nr {α : Sort u} {a b : α} (h : a = b) : a = b := h
@[simp] theorem Res.bind_ok {α β : Type} (a : α) (S : Store) (f : α → Store → Res β) : (Res.ok a S).bind f = f a S := nr rfl
@[simp] theorem Res.bind_err {α β : Type} (c : Str) (S : Store) (f : α → Store → Res β) : (Res.err c S : Res α).bind f = .err c S := nr rfl
@[simp] theorem Res.bind_bad {α β : Type} (f : α → Store → Res β) : (Res.bad : Res α).bind f = .bad := nr rfl
theorem Res.bind_assoc {α β γ : Type} (r : Res α) (f : α → Store → Res β) (g : β → Store → Res γ) : (r.bind f).bind g = r.bind fun a S => (f a S).bind g := by
  cases r <;> rfl
def ofO (o : Option PV) (S : Store) : Res PV := match o with | some d => .ok d S | none => .bad
def IsExc (C a : Addr) (φ : Heap → Prop) : Prop := ∀ h, φ h → ∃ (oe : Obj) (vs : Array Value), h.get? a = some oe ∧ Zc (.ref C) none oe ∧ oe.data = .fields vs
def noTbl (o : HO) : Prop := ∀ ps, o ≠ .tbl ps
mutual
/-- a value as data, without the store -/
def data0 : PV → Option PyData
  | .non => some .none
  | .bl b => some (.bool b)
  | .int i => some (.int i)
  | .str x => some (.str x)
  | .tup xs => (data0s xs).map .tuple
  | .lst xs => (data0s xs).map .list
  | .obj _ _ => none
  | .loc _ => none
  | .scr _ => none
  | .ty _ => none
  | .cls _ => none
  | .exc _ => none
  | .dic _ => none
  | .dik _ => none
  | .tub _ => none
def data0s : List PV → Option (List PyData)
  | [] => some []
  | x :: xs => (data0 x).bind fun d => (data0s xs).map (d :: ·)
end
mutual
/-- the same, with dicts -/
def data1 : PV → Option PyData
  | .non => some .none
  | .bl b => some (.bool b)
  | .int i => some (.int i)
  | .str x => some (.str x)
  | .tup xs => (data1s xs).map .tuple
  | .lst xs => (data1s xs).map .list
  | .obj _ _ => none
  | .loc _ => none
  | .scr _ => none
  | .ty _ => none
  | .cls _ => none
  | .exc _ => none
  | .dic kvs => (data1d kvs).map .dict
  | .dik kvs => (data1d kvs).map .dict
  | .tub _ => none
def data1s : List PV → Option (List PyData)
  | [] => some []
  | x :: xs => (data1 x).bind fun d => (data1s xs).map (d :: ·)
def data1d : List (PV × PV) → Option (List (PyData × PyData))
  | [] => some []
  | (x, y) :: xs => (data1 x).bind fun d => (data1 y).bind fun e => (data1d xs).map ((d, e) :: ·)
end
def kPV : Key → PV
  | .inl i => .int i
  | .inr x => .str x
section
variable (K : PySem.W.Frag) (mg : Str → Option Value)
mutual
inductive At (H : Hp) (L Z : List Addr) : PV → V → Prop
  | non : At H L Z .non .non
  | bl (b : Bool) : At H L Z (.bl b) (.bl b)
  | int (i : Int) : At H L Z (.int i) (.int i)
  | str (x : Str) : At H L Z (.str x) (.str x)
  | tup {a : Addr} {vs : List V} {ds : List PV} : SqT K H a vs → Ats H L Z ds vs → At H L Z (.tup ds) (.ref a)
  | lst {a : Addr} {vs : List V} {ds : List PV} : H a = some (.lst vs) → a ∉ L → a ∉ Z → Ats H L Z ds vs → At H L Z (.lst ds) (.ref a)
  | obj {a C dx : Addr} {nm : Str} {vs : List (Str × V)} {ds : List (Str × PV)} : mg nm = some (.ref C) → H a = some (.ins C dx vs) → a ∉ L → a ∉ Z → Atf H L Z ds vs → At H L Z (.obj nm ds) (.ref a)
  | loc {a : Addr} {i : Nat} : L[i]? = some a → At H L Z (.loc i) (.ref a)
  | scr {a : Addr} {ns : List Int} : Rd H a (.lst (ns.map V.int)) → a ∉ L → a ∉ Z → At H L Z (.scr ns) (.ref a)
  | scrk {a : Addr} {ns : List Int} : (∀ H' : Hp, SqL K H' a (ns.map V.int)) → At H L Z (.scr ns) (.ref a)
  | ty (n : String) : At H L Z (.ty n) (.ty n)
  | cls {nm : Str} {C : Addr} : mg nm = some (.ref C) → At H L Z (.cls nm) (.ref C)
  | exc {a C : Addr} {nm : Str} {φ : Heap → Prop} : nm ∈ EXN → mg nm = some (.ref C) → H a = some (.ext φ) → IsExc C a φ → a ∉ L → a ∉ Z → At H L Z (.exc nm) (.ref a)
  | dic {a : Addr} {us : List (PyData × Addr × V)} {kvs : List (PV × PV)} {ep : Nat} : H a = some (DicO us ep a) → a ∉ L → a ∉ Z → Atd H L Z kvs us → At H L Z (.dic kvs) (.ref a)
  | dik {a : Addr} {us : List (Key × V)} {kvs : List (PV × PV)} : H a = some (.dK us) → a ∉ L → a ∉ Z → Atk H L Z kvs us → At H L Z (.dik kvs) (.ref a)
  | tub {a : Addr} {o : Obj} {vs : List V} {ds : List PV} : H a = some (.frz o (.tup vs)) → o.dict = none → Ats H L Z ds vs → At H L Z (.tub ds) (.ref a)
inductive Ats (H : Hp) (L Z : List Addr) : List PV → List V → Prop
  | nil : Ats H L Z [] []
  | cons {d : PV} {v : V} {ds : List PV} {vs : List V} : At H L Z d v → Ats H L Z ds vs → Ats H L Z (d :: ds) (v :: vs)
inductive Atf (H : Hp) (L Z : List Addr) : List (Str × PV) → List (Str × V) → Prop
  | nil : Atf H L Z [] []
  | cons {n : Str} {d : PV} {v : V} {ds : List (Str × PV)} {vs : List (Str × V)} : At H L Z d v → Atf H L Z ds vs → Atf H L Z ((n, d) :: ds) ((n, v) :: vs)
inductive Atd (H : Hp) (L Z : List Addr) : List (PV × PV) → List (PyData × Addr × V) → Prop
  | nil : Atd H L Z [] []
  | cons {k d : PV} {p : PyData} {b : Addr} {v : V} {ds : List (PV × PV)} {vs : List (PyData × Addr × V)} : data0 k = some p → isTK p = true → At H L Z k (.ref b) → At H L Z d v → Atd H L Z ds vs → Atd H L Z ((k, d) :: ds) ((p, b, v) :: vs)
inductive Atk (H : Hp) (L Z : List Addr) : List (PV × PV) → List (Key × V) → Prop
  | nil : Atk H L Z [] []
  | cons {k : Key} {d : PV} {v : V} {ds : List (PV × PV)} {vs : List (Key × V)} : At H L Z d v → Atk H L Z ds vs → Atk H L Z ((kPV k, d) :: ds) ((k, v) :: vs)
end
def CellAt (H : Hp) (L Z : List Addr) (a : Addr) : Cell → Prop
  | .lst ds => ∃ vs, H a = some (.lst vs) ∧ Ats K mg H L Z ds vs
  | .ins nm fs => ∃ C dx vs, mg nm = some (.ref C) ∧ H a = some (.ins C dx vs) ∧ Atf K mg H L Z fs vs
  | .dic kvs ep => ∃ us, H a = some (DicO us ep a) ∧ Atd K mg H L Z kvs us
  | .set ks => ∃ M, H a = some (SetO M a) ∧ (∀ k, k ∈ ks ↔ k ∈ M.map (·.2)) ∧ M.length = ks.length ∧ ∀ p ∈ M, At K mg H L Z (.tup (p.2.map PV.int)) (.ref p.1)
structure Sta (H : Hp) (L Z : List Addr) (S : Store) : Prop where
  nd : L.Nodup
  len : S.length = L.length
  cells : ∀ (i : Nat) (c : Cell) (a : Addr), S[i]? = some c → L[i]? = some a → CellAt K mg H L Z a c
  zt : ∀ a ∈ Z, ∃ o, H a = some o
  dj : ∀ a ∈ L, a ∉ Z
  tabs : LamX.Tabs (tabsOf K) H
def Slots (H : Hp) (L Z : List Addr) (r : Env1) (σ : L2.St) : Prop := ∀ (i : Nat) (d : PV), r[i]? = some (some d) → ∃ v, σ[i]? = some (some v) ∧ At K mg H L Z d v
end
structure Ext (H : Hp) (L : List Addr) (H' : Hp) (L' : List Addr) : Prop where
  pre : ∃ new, L' = L ++ new ∧ ∀ a ∈ new, H a = none
  keep : ∀ a o, H a = some o → (a ∈ L → ¬ Mut (some o)) → noTbl o → H' a = some o
  dom : ∀ a o, H a = some o → ∃ o', H' a = some o'
theorem Ext.refl (H : Hp) (L : List Addr) : Ext H L H L := ⟨⟨[], by simp, fun _ h => nomatch h⟩, fun _ _ h _ _ => h, fun _ o h => ⟨o, h⟩⟩
theorem Ext.trans {H H1 H2 : Hp} {L L1 L2 : List Addr} (a : Ext H L H1 L1) (b : Ext H1 L1 H2 L2) : Ext H L H2 L2 := by
  obtain ⟨n1, e1, f1⟩ := a.pre
  obtain ⟨n2, e2, f2⟩ := b.pre
  refine ⟨⟨n1 ++ n2, by rw [e2, e1, List.append_assoc], fun x hx => ?_⟩, fun x o h hm nt => ?_, fun x o h => ?_⟩
  · rcases List.mem_append.mp hx with h | h
    · exact f1 x h
    · cases q : H x with
      | none => rfl
      | some o =>
        obtain ⟨o', h'⟩ := a.dom x o q
        rw [f2 x h] at h'; cases h'
  · refine b.keep x o (a.keep x o h hm nt) (fun hx => ?_) nt
    rw [e1] at hx
    rcases List.mem_append.mp hx with h1 | h1
    · exact hm h1
    · rw [f1 x h1] at h; cases h
  · obtain ⟨o', h'⟩ := a.dom x o h
    exact b.dom x o' h'
theorem Ext.notin {H H' : Hp} {L L' : List Addr} (x : Ext H L H' L') {a : Addr} {o : HO} (h : H a = some o) (n : a ∉ L) : a ∉ L' := by
  obtain ⟨n1, e1, f1⟩ := x.pre
  rw [e1]
  intro hm
  rcases List.mem_append.mp hm with z | z
  · exact n z
  · rw [f1 a z] at h; cases h
theorem Ext.rd {H H' : Hp} {L L' : List Addr} (x : Ext H L H' L') {a : Addr} {u : HO} (h : Rd H a u) (n : a ∉ L) (nt : noTbl u) : Rd H' a u := by
  rcases h with h | ⟨o, h⟩
  · exact .inl (x.keep a _ h (fun z => absurd z n) nt)
  · exact .inr ⟨o, x.keep a _ h (fun z => absurd z n) (fun _ => nofun)⟩
theorem Ext.sqt {K : PySem.W.Frag} {H H' : Hp} {L L' : List Addr} (x : Ext H L H' L') {a : Addr} {vs : List V} (h : SqT K H a vs) : SqT K H' a vs := by
  rcases h with (h | ⟨o, h⟩) | h
  · exact .inl (.inl (x.keep a _ h (fun _ z => z) (fun _ => nofun)))
  · exact .inl (.inr ⟨o, x.keep a _ h (fun _ z => z) (fun _ => nofun)⟩)
  · exact .inr h
theorem tabs_laid {H : Hp} {K : PySem.W.Frag} {p : Addr} {o : HO} (t : LamX.Tabs (tabsOf K) H) (n : H p = none) : LamX.Tabs (tabsOf K) (upd H p o) := t.ext fun b u e => by rw [upd_ne (ne_of_none e n)]; exact e
theorem tab_but {H H' : Hp} {P p : Addr} {q : Str} {o : HO} (t : LamX.TabS H P q) (h : H p = some o) (b : ∀ a, a ≠ p → H' a = H a) (nt : noTbl o := by exact fun _ => nofun) (ne : ∀ φ, o ≠ .ext φ := by exact fun _ => nofun) : LamX.TabS H' P q := by
  obtain ⟨ps, h1, h2, h3⟩ := t
  refine ⟨ps, by rw [b P (fun z => by rw [z, h] at h1; exact nt _ (Option.some.inj h1))]; exact h1, h2, fun pos cv hc => ?_⟩
  obtain ⟨c, e1, e2⟩ := h3 pos cv hc
  exact ⟨c, e1, by rw [b c (fun z => by rw [z, h] at e2; exact ne _ (Option.some.inj e2))]; exact e2⟩
theorem Rd.has {H : Hp} {a : Addr} {u : HO} (h : Rd H a u) : ∃ o, H a = some o := by
  rcases h with h | ⟨o, h⟩ <;> exact ⟨_, h⟩
section
variable {K : PySem.W.Frag} {mg : Str → Option Value} {H H' : Hp} {L L' Z : List Addr}
mutual
theorem At.mono (x : Ext H L H' L') : ∀ {d : PV} {v : V}, At K mg H L Z d v → At K mg H' L' Z d v
  | _, _, .non => .non
  | _, _, .bl b => .bl b
  | _, _, .int i => .int i
  | _, _, .str s => .str s
  | _, _, .tup h1 h2 => .tup (x.sqt h1) (Ats.mono x h2)
  | _, _, .lst h1 h2 h3 h4 => .lst (x.keep _ _ h1 (fun z => absurd z h2) (fun _ => nofun)) (x.notin h1 h2) h3 (Ats.mono x h4)
  | _, _, .ty n => .ty n
  | _, _, .cls h => .cls h
  | _, _, .exc h0 h1 h2 h3 h4 h5 => .exc h0 h1 (x.keep _ _ h2 (fun z => absurd z h4) (fun _ => nofun)) h3 (x.notin h2 h4) h5
  | _, _, .dic h1 h2 h3 h4 => .dic (x.keep _ _ h1 (fun z => absurd z h2) (fun _ => nofun)) (x.notin h1 h2) h3 (Atd.mono x h4)
  | _, _, .dik h1 h2 h3 h4 => .dik (x.keep _ _ h1 (fun z => absurd z h2) (fun _ => nofun)) (x.notin h1 h2) h3 (Atk.mono x h4)
  | _, _, .tub h1 h2 h3 => .tub (x.keep _ _ h1 (fun _ z => z) (fun _ => nofun)) h2 (Ats.mono x h3)
  | _, _, .scr h1 h2 h3 => .scr (x.rd h1 h2 (fun _ => nofun)) (let ⟨_, z⟩ := Rd.has h1; x.notin z h2) h3
  | _, _, .scrk h => .scrk h
  | _, _, .obj h0 h1 h2 h3 h4 => .obj h0 (x.keep _ _ h1 (fun z => absurd z h2) (fun _ => nofun)) (x.notin h1 h2) h3 (Atf.mono x h4)
  | _, _, .loc h => .loc (by
      obtain ⟨n, e, _⟩ := x.pre
      rw [e, List.getElem?_append_left (List.getElem?_eq_some_iff.mp h).1]; exact h)
theorem Ats.mono (x : Ext H L H' L') : ∀ {ds : List PV} {vs : List V}, Ats K mg H L Z ds vs → Ats K mg H' L' Z ds vs
  | _, _, .nil => .nil
  | _, _, .cons h1 h2 => .cons (At.mono x h1) (Ats.mono x h2)
theorem Atf.mono (x : Ext H L H' L') : ∀ {ds : List (Str × PV)} {vs : List (Str × V)}, Atf K mg H L Z ds vs → Atf K mg H' L' Z ds vs
  | _, _, .nil => .nil
  | _, _, .cons h1 h2 => .cons (At.mono x h1) (Atf.mono x h2)
theorem Atd.mono (x : Ext H L H' L') : ∀ {ds : List (PV × PV)} {vs : List (PyData × Addr × V)}, Atd K mg H L Z ds vs → Atd K mg H' L' Z ds vs
  | _, _, .nil => .nil
  | _, _, .cons q1 q2 h0 h1 h2 => .cons q1 q2 (At.mono x h0) (At.mono x h1) (Atd.mono x h2)
theorem Atk.mono (x : Ext H L H' L') : ∀ {ds : List (PV × PV)} {vs : List (Key × V)}, Atk K mg H L Z ds vs → Atk K mg H' L' Z ds vs
  | _, _, .nil => .nil
  | _, _, .cons h1 h2 => .cons (At.mono x h1) (Atk.mono x h2)
end
theorem Slots.mono {r : Env1} {σ : L2.St} (x : Ext H L H' L') (h : Slots K mg H L Z r σ) : Slots K mg H' L' Z r σ := fun i d e => let ⟨v, a, b⟩ := h i d e; ⟨v, a, b.mono x⟩
theorem Ats.len : ∀ {ds : List PV} {vs : List V}, Ats K mg H L Z ds vs → ds.length = vs.length
  | _, _, .nil => rfl
  | _, _, .cons _ h => by simp [h.len]
theorem Ats.get : ∀ {ds : List PV} {vs : List V} {i : Nat} {d : PV}, Ats K mg H L Z ds vs → ds[i]? = some d → ∃ v, vs[i]? = some v ∧ At K mg H L Z d v
  | _, _, _, _, .nil, e => by simp at e
  | _, _, 0, _, .cons h _, e => by simp at e; subst e; exact ⟨_, rfl, h⟩
  | _, _, i + 1, _, .cons _ h, e => by
    obtain ⟨v, a, b⟩ := h.get (i := i) (by simpa using e)
    exact ⟨v, by simpa using a, b⟩
theorem Ats.append : ∀ {ds es : List PV} {vs ws : List V}, Ats K mg H L Z ds vs → Ats K mg H L Z es ws → Ats K mg H L Z (ds ++ es) (vs ++ ws)
  | _, _, _, _, .nil, h => h
  | _, _, _, _, .cons a b, h => .cons a (b.append h)
theorem Ats.take : ∀ {ds : List PV} {vs : List V} (n : Nat), Ats K mg H L Z ds vs → Ats K mg H L Z (ds.take n) (vs.take n)
  | _, _, 0, _ => .nil
  | _, _, _ + 1, .nil => .nil
  | _, _, n + 1, .cons a b => .cons a (b.take n)
theorem Ats.drop : ∀ {ds : List PV} {vs : List V} (n : Nat), Ats K mg H L Z ds vs → Ats K mg H L Z (ds.drop n) (vs.drop n)
  | _, _, 0, h => h
  | _, _, _ + 1, .nil => .nil
  | _, _, n + 1, .cons _ b => b.drop n
theorem Ats.set {d : PV} {v : V} (h : At K mg H L Z d v) : ∀ {ds : List PV} {vs : List V} (i : Nat), Ats K mg H L Z ds vs → Ats K mg H L Z (ds.set i d) (vs.set i v)
  | _, _, _, .nil => .nil
  | _, _, 0, .cons _ b => .cons h b
  | _, _, i + 1, .cons a b => .cons a (Ats.set h i b)
theorem Ext.laid {p : Addr} {o : HO} (n : H p = none) : Ext H L (upd H p o) L :=
  ⟨⟨[], by simp, fun _ h => nomatch h⟩, fun a u h _ _ => by rw [upd_ne (ne_of_none h n)]; exact h, fun a u h => ⟨u, by rw [upd_ne (ne_of_none h n)]; exact h⟩⟩
theorem CellAt.mono {c : Cell} {a : Addr} (x : Ext H L H' L') (e : H' a = H a) (h : CellAt K mg H L Z a c) : CellAt K mg H' L' Z a c := by
  cases c with
  | lst ds => obtain ⟨vs, h1, h2⟩ := h; exact ⟨vs, by rw [e]; exact h1, h2.mono x⟩
  | ins nm fs => obtain ⟨C, dx, vs, h0, h1, h2⟩ := h; exact ⟨C, dx, vs, h0, by rw [e]; exact h1, h2.mono x⟩
  | dic kvs ep => obtain ⟨us, h1, h2⟩ := h; exact ⟨us, by rw [e]; exact h1, h2.mono x⟩
  | set ks => obtain ⟨M, h1, h2, h3, h4⟩ := h; exact ⟨M, by rw [e]; exact h1, h2, h3, fun p hp => (h4 p hp).mono x⟩
theorem Sta.has {S : Store} (st : Sta K mg H L Z S) {a : Addr} (h : a ∈ L) : ∃ o, H a = some o := by
  obtain ⟨i, hi, e⟩ := List.mem_iff_getElem.mp h
  have hl : i < S.length := by rw [st.len]; exact hi
  have := st.cells i S[i] a (by simp [hl]) (by rw [List.getElem?_eq_getElem hi, e])
  cases c : S[i] with
  | lst ds => rw [c] at this; obtain ⟨vs, h1, _⟩ := this; exact ⟨_, h1⟩
  | ins nm fs => rw [c] at this; obtain ⟨C, dx, vs, _, h1, _⟩ := this; exact ⟨_, h1⟩
  | dic kvs ep => rw [c] at this; obtain ⟨us, h1, _⟩ := this; exact ⟨_, h1⟩
  | set ks => rw [c] at this; obtain ⟨M, h1, _⟩ := this; exact ⟨_, h1⟩
theorem Sta.fresh {S : Store} (st : Sta K mg H L Z S) {p : Addr} (n : H p = none) : p ∉ L ∧ p ∉ Z := by
  refine ⟨fun h => ?_, fun h => ?_⟩
  · obtain ⟨o, e⟩ := st.has h
    rw [n] at e; cases e
  · obtain ⟨o, e⟩ := st.zt p h
    rw [n] at e; cases e
theorem Sta.laid {S : Store} (st : Sta K mg H L Z S) {p : Addr} {o : HO} (n : H p = none) : Sta K mg (upd H p o) L Z S := by
  refine ⟨st.nd, st.len, fun i c a h1 h2 => ?_, fun a h => ?_, st.dj, tabs_laid st.tabs n⟩
  · have ha := st.has (List.mem_of_getElem? h2)
    obtain ⟨u, hu⟩ := ha
    exact (st.cells i c a h1 h2).mono (Ext.laid n) (by rw [upd_ne (ne_of_none hu n)])
  · obtain ⟨u, hu⟩ := st.zt a h
    exact ⟨u, by rw [upd_ne (ne_of_none hu n)]; exact hu⟩
end
section
variable {K : PySem.W.Frag} {mg : Str → Option Value} {H : Hp} {L Z : List Addr} {p : Addr} {o o' : HO}
def But (p : Addr) (H H' : Hp) : Prop := ∀ a, a ≠ p → H' a = H a
theorem But.upd (p : Addr) (H : Hp) (o : HO) : But p H (upd H p o) := fun _ h => upd_ne h
theorem sqt_hid {H' : Hp} {a : Addr} {vs : List V} (h : H p = some o) (m : Mut (some o)) (b : But p H H') (t : SqT K H a vs) : SqT K H' a vs := by
  rcases t with (t | ⟨u, t⟩) | t
  · exact .inl (.inl (by rw [b a (fun e => by subst e; rw [h] at t; cases t; exact m)]; exact t))
  · exact .inl (.inr ⟨u, by rw [b a (fun e => by subst e; rw [h] at t; cases t; exact m)]; exact t⟩)
  · exact .inr t
mutual
theorem At.stirB {H' : Hp} (h : H p = some o) (m : Mut (some o)) (b : But p H H') : ∀ {d : PV} {v : V}, At K mg H L (p :: Z) d v → At K mg H' L (p :: Z) d v
  | _, _, .non => .non
  | _, _, .bl b => .bl b
  | _, _, .int i => .int i
  | _, _, .str s => .str s
  | _, _, .tup h1 h2 => .tup (sqt_hid h m b h1) (Ats.stirB h m b h2)
  | _, _, .lst h1 h2 h3 h4 => .lst (by rw [b _ (fun e => h3 (by rw [e]; exact List.mem_cons_self))]; exact h1) h2 h3 (Ats.stirB h m b h4)
  | _, _, .obj h0 h1 h2 h3 h4 => .obj h0 (by rw [b _ (fun e => h3 (by rw [e]; exact List.mem_cons_self))]; exact h1) h2 h3 (Atf.stirB h m b h4)
  | _, _, .loc h1 => .loc h1
  | _, _, .scr h1 h2 h3 => .scr (h1.imp (fun z => by rw [b _ (fun e => h3 (by rw [e]; exact List.mem_cons_self))]; exact z) fun ⟨u, z⟩ => ⟨u, by rw [b _ (fun e => h3 (by rw [e]; exact List.mem_cons_self))]; exact z⟩) h2 h3
  | _, _, .scrk h => .scrk h
  | _, _, .ty n => .ty n
  | _, _, .cls h => .cls h
  | _, _, .exc h0 h1 h2 h3 h4 h5 => .exc h0 h1 (by rw [b _ (fun e => h5 (by rw [e]; exact List.mem_cons_self))]; exact h2) h3 h4 h5
  | _, _, .dic h1 h2 h3 h4 => .dic (by rw [b _ (fun e => h3 (by rw [e]; exact List.mem_cons_self))]; exact h1) h2 h3 (Atd.stirB h m b h4)
  | _, _, .dik h1 h2 h3 h4 => .dik (by rw [b _ (fun e => h3 (by rw [e]; exact List.mem_cons_self))]; exact h1) h2 h3 (Atk.stirB h m b h4)
  | _, _, .tub h1 h2 h3 => .tub (by rw [b _ (fun e => by subst e; rw [h] at h1; cases h1; exact m)]; exact h1) h2 (Ats.stirB h m b h3)
theorem Ats.stirB {H' : Hp} (h : H p = some o) (m : Mut (some o)) (b : But p H H') : ∀ {ds : List PV} {vs : List V}, Ats K mg H L (p :: Z) ds vs → Ats K mg H' L (p :: Z) ds vs
  | _, _, .nil => .nil
  | _, _, .cons h1 h2 => .cons (At.stirB h m b h1) (Ats.stirB h m b h2)
theorem Atf.stirB {H' : Hp} (h : H p = some o) (m : Mut (some o)) (b : But p H H') : ∀ {ds : List (Str × PV)} {vs : List (Str × V)}, Atf K mg H L (p :: Z) ds vs → Atf K mg H' L (p :: Z) ds vs
  | _, _, .nil => .nil
  | _, _, .cons h1 h2 => .cons (At.stirB h m b h1) (Atf.stirB h m b h2)
theorem Atd.stirB {H' : Hp} (h : H p = some o) (m : Mut (some o)) (b : But p H H') : ∀ {ds : List (PV × PV)} {vs : List (PyData × Addr × V)}, Atd K mg H L (p :: Z) ds vs → Atd K mg H' L (p :: Z) ds vs
  | _, _, .nil => .nil
  | _, _, .cons q1 q2 h0 h1 h2 => .cons q1 q2 (At.stirB h m b h0) (At.stirB h m b h1) (Atd.stirB h m b h2)
theorem Atk.stirB {H' : Hp} (h : H p = some o) (m : Mut (some o)) (b : But p H H') : ∀ {ds : List (PV × PV)} {vs : List (Key × V)}, Atk K mg H L (p :: Z) ds vs → Atk K mg H' L (p :: Z) ds vs
  | _, _, .nil => .nil
  | _, _, .cons h1 h2 => .cons (At.stirB h m b h1) (Atk.stirB h m b h2)
end
theorem At.stir {d : PV} {v : V} (h : H p = some o) (m : Mut (some o)) (a : At K mg H L (p :: Z) d v) : At K mg (upd H p o') L (p :: Z) d v := At.stirB h m (But.upd p H o') a
theorem Ats.stir {d : List PV} {v : List V} (h : H p = some o) (m : Mut (some o)) (a : Ats K mg H L (p :: Z) d v) : Ats K mg (upd H p o') L (p :: Z) d v := Ats.stirB h m (But.upd p H o') a
theorem Atd.stir {d : List (PV × PV)} {v : List (PyData × Addr × V)} (h : H p = some o) (m : Mut (some o)) (a : Atd K mg H L (p :: Z) d v) : Atd K mg (upd H p o') L (p :: Z) d v := Atd.stirB h m (But.upd p H o') a
theorem Atf.stir {d : List (Str × PV)} {v : List (Str × V)} (h : H p = some o) (m : Mut (some o)) (a : Atf K mg H L (p :: Z) d v) : Atf K mg (upd H p o') L (p :: Z) d v := Atf.stirB h m (But.upd p H o') a
mutual
theorem At.unhide : ∀ {d : PV} {v : V}, At K mg H L (p :: Z) d v → At K mg H L Z d v
  | _, _, .non => .non
  | _, _, .bl b => .bl b
  | _, _, .int i => .int i
  | _, _, .str s => .str s
  | _, _, .tup h1 h2 => .tup h1 (Ats.unhide h2)
  | _, _, .lst h1 h2 h3 h4 => .lst h1 h2 (fun z => h3 (List.mem_cons_of_mem _ z)) (Ats.unhide h4)
  | _, _, .obj h0 h1 h2 h3 h4 => .obj h0 h1 h2 (fun z => h3 (List.mem_cons_of_mem _ z)) (Atf.unhide h4)
  | _, _, .loc h1 => .loc h1
  | _, _, .scr h1 h2 h3 => .scr h1 h2 fun z => h3 (List.mem_cons_of_mem _ z)
  | _, _, .scrk h => .scrk h
  | _, _, .ty n => .ty n
  | _, _, .cls h => .cls h
  | _, _, .exc h0 h1 h2 h3 h4 h5 => .exc h0 h1 h2 h3 h4 fun z => h5 (List.mem_cons_of_mem _ z)
  | _, _, .dic h1 h2 h3 h4 => .dic h1 h2 (fun z => h3 (List.mem_cons_of_mem _ z)) (Atd.unhide h4)
  | _, _, .dik h1 h2 h3 h4 => .dik h1 h2 (fun z => h3 (List.mem_cons_of_mem _ z)) (Atk.unhide h4)
  | _, _, .tub h1 h2 h3 => .tub h1 h2 (Ats.unhide h3)
theorem Ats.unhide : ∀ {ds : List PV} {vs : List V}, Ats K mg H L (p :: Z) ds vs → Ats K mg H L Z ds vs
  | _, _, .nil => .nil
  | _, _, .cons h1 h2 => .cons (At.unhide h1) (Ats.unhide h2)
theorem Atf.unhide : ∀ {ds : List (Str × PV)} {vs : List (Str × V)}, Atf K mg H L (p :: Z) ds vs → Atf K mg H L Z ds vs
  | _, _, .nil => .nil
  | _, _, .cons h1 h2 => .cons (At.unhide h1) (Atf.unhide h2)
theorem Atd.unhide : ∀ {ds : List (PV × PV)} {vs : List (PyData × Addr × V)}, Atd K mg H L (p :: Z) ds vs → Atd K mg H L Z ds vs
  | _, _, .nil => .nil
  | _, _, .cons q1 q2 h0 h1 h2 => .cons q1 q2 (At.unhide h0) (At.unhide h1) (Atd.unhide h2)
theorem Atk.unhide : ∀ {ds : List (PV × PV)} {vs : List (Key × V)}, Atk K mg H L (p :: Z) ds vs → Atk K mg H L Z ds vs
  | _, _, .nil => .nil
  | _, _, .cons h1 h2 => .cons (At.unhide h1) (Atk.unhide h2)
end
mutual
theorem At.hide (n : H p = none) : ∀ {d : PV} {v : V}, At K mg H L Z d v → At K mg H L (p :: Z) d v
  | _, _, .non => .non
  | _, _, .bl b => .bl b
  | _, _, .int i => .int i
  | _, _, .str s => .str s
  | _, _, .tup h1 h2 => .tup h1 (Ats.hide n h2)
  | _, _, .lst h1 h2 h3 h4 => .lst h1 h2 (fun z => (List.mem_cons.mp z).elim (fun e => by rw [e, n] at h1; cases h1) h3) (Ats.hide n h4)
  | _, _, .obj h0 h1 h2 h3 h4 => .obj h0 h1 h2 (fun z => (List.mem_cons.mp z).elim (fun e => by rw [e, n] at h1; cases h1) h3) (Atf.hide n h4)
  | _, _, .loc h1 => .loc h1
  | _, _, .scr h1 h2 h3 => .scr h1 h2 fun z => (List.mem_cons.mp z).elim (fun e => by obtain ⟨u, q⟩ := Rd.has h1; rw [e, n] at q; cases q) h3
  | _, _, .scrk h => .scrk h
  | _, _, .ty n => .ty n
  | _, _, .cls h => .cls h
  | _, _, .exc h0 h1 h2 h3 h4 h5 => .exc h0 h1 h2 h3 h4 fun z => (List.mem_cons.mp z).elim (fun e => by rw [e, n] at h2; cases h2) h5
  | _, _, .dic h1 h2 h3 h4 => .dic h1 h2 (fun z => (List.mem_cons.mp z).elim (fun e => by rw [e, n] at h1; cases h1) h3) (Atd.hide n h4)
  | _, _, .dik h1 h2 h3 h4 => .dik h1 h2 (fun z => (List.mem_cons.mp z).elim (fun e => by rw [e, n] at h1; cases h1) h3) (Atk.hide n h4)
  | _, _, .tub h1 h2 h3 => .tub h1 h2 (Ats.hide n h3)
theorem Ats.hide (n : H p = none) : ∀ {ds : List PV} {vs : List V}, Ats K mg H L Z ds vs → Ats K mg H L (p :: Z) ds vs
  | _, _, .nil => .nil
  | _, _, .cons h1 h2 => .cons (At.hide n h1) (Ats.hide n h2)
theorem Atf.hide (n : H p = none) : ∀ {ds : List (Str × PV)} {vs : List (Str × V)}, Atf K mg H L Z ds vs → Atf K mg H L (p :: Z) ds vs
  | _, _, .nil => .nil
  | _, _, .cons h1 h2 => .cons (At.hide n h1) (Atf.hide n h2)
theorem Atd.hide (n : H p = none) : ∀ {ds : List (PV × PV)} {vs : List (PyData × Addr × V)}, Atd K mg H L Z ds vs → Atd K mg H L (p :: Z) ds vs
  | _, _, .nil => .nil
  | _, _, .cons q1 q2 h0 h1 h2 => .cons q1 q2 (At.hide n h0) (At.hide n h1) (Atd.hide n h2)
theorem Atk.hide (n : H p = none) : ∀ {ds : List (PV × PV)} {vs : List (Key × V)}, Atk K mg H L Z ds vs → Atk K mg H L (p :: Z) ds vs
  | _, _, .nil => .nil
  | _, _, .cons h1 h2 => .cons (At.hide n h1) (Atk.hide n h2)
end
theorem At.hides : ∀ {Y : List Addr} {d : PV} {v : V}, (∀ q ∈ Y, H q = none) → At K mg H L Z d v → At K mg H L (Y ++ Z) d v
  | [], _, _, _, a => a
  | q :: Y, _, _, n, a => At.hide (n q List.mem_cons_self) (At.hides (fun x hx => n x (List.mem_cons_of_mem _ hx)) a)
theorem CellAt.stir {c : Cell} {a : Addr} (h : H p = some o) (m : Mut (some o)) (na : a ≠ p) (x : CellAt K mg H L (p :: Z) a c) : CellAt K mg (upd H p o') L (p :: Z) a c := by
  cases c with
  | lst ds => obtain ⟨vs, h1, h2⟩ := x; exact ⟨vs, by rw [upd_ne na]; exact h1, Ats.stir h m h2⟩
  | ins nm fs => obtain ⟨C, dx, vs, h0, h1, h2⟩ := x; exact ⟨C, dx, vs, h0, by rw [upd_ne na]; exact h1, Atf.stir h m h2⟩
  | dic kvs ep => obtain ⟨us, h1, h2⟩ := x; exact ⟨us, by rw [upd_ne na]; exact h1, Atd.stir h m h2⟩
  | set ks => obtain ⟨M, h1, h2, h3, h4⟩ := x; exact ⟨M, by rw [upd_ne na]; exact h1, h2, h3, fun p hp => At.stir h m (h4 p hp)⟩
theorem Sta.stir {S : Store} {zs : List V} (st : Sta K mg H L (p :: Z) S) (h : H p = some (.lst zs)) (m : Mut (some (HO.lst zs))) : Sta K mg (upd H p o') L (p :: Z) S := by
  refine ⟨st.nd, st.len, fun i c a h1 h2 => (st.cells i c a h1 h2).stir h m fun e => st.dj a (List.mem_of_getElem? h2) (by rw [e]; exact List.mem_cons_self), fun a ha => ?_, st.dj, fun p' hp => tab_but (st.tabs p' hp) h (But.upd p H o')⟩
  by_cases e : a = p
  · exact ⟨o', by rw [e, upd_same]⟩
  · obtain ⟨u, q⟩ := st.zt a ha
    exact ⟨u, by rw [upd_ne e]; exact q⟩
theorem Sta.unhide {S : Store} (st : Sta K mg H L (p :: Z) S) : Sta K mg H L Z S := by
  refine ⟨st.nd, st.len, fun i c a h1 h2 => ?_, fun a ha => st.zt a (List.mem_cons_of_mem _ ha), fun a ha z => st.dj a ha (List.mem_cons_of_mem _ z), st.tabs⟩
  have := st.cells i c a h1 h2
  cases c with
  | lst ds => obtain ⟨vs, e1, e2⟩ := this; exact ⟨vs, e1, e2.unhide⟩
  | ins nm fs => obtain ⟨C, dx, vs, h0, h1, h2⟩ := this; exact ⟨C, dx, vs, h0, h1, h2.unhide⟩
  | dic kvs ep => obtain ⟨us, h1, h2⟩ := this; exact ⟨us, h1, h2.unhide⟩
  | set ks => obtain ⟨M, h1, h2, h3, h4⟩ := this; exact ⟨M, h1, h2, h3, fun p hp => (h4 p hp).unhide⟩
theorem Sta.hid {S : Store} (st : Sta K mg H L Z S) (n : H p = none) : Sta K mg (upd H p o) L (p :: Z) S := by
  have x : Ext H L (upd H p o) L := Ext.laid n
  refine ⟨st.nd, st.len, fun i c a h1 h2 => ?_, fun a ha => ?_, fun a ha z => ?_, tabs_laid st.tabs n⟩
  · obtain ⟨u, hu⟩ := st.has (List.mem_of_getElem? h2)
    have := st.cells i c a h1 h2
    cases c with
    | lst ds => obtain ⟨vs, e1, e2⟩ := this; exact ⟨vs, by rw [upd_ne (ne_of_none hu n)]; exact e1, (e2.hide n).mono x⟩
    | ins nm fs => obtain ⟨C, dx, vs, h0, h1, h2⟩ := this; exact ⟨C, dx, vs, h0, by rw [upd_ne (ne_of_none hu n)]; exact h1, (h2.hide n).mono x⟩
    | dic kvs ep => obtain ⟨us, h1, h2⟩ := this; exact ⟨us, by rw [upd_ne (ne_of_none hu n)]; exact h1, (h2.hide n).mono x⟩
    | set ks => obtain ⟨M, h1, h2, h3, h4⟩ := this; exact ⟨M, by rw [upd_ne (ne_of_none hu n)]; exact h1, h2, h3, fun p hp => ((h4 p hp).hide n).mono x⟩
  · rcases List.mem_cons.mp ha with e | e
    · exact ⟨o, by rw [e, upd_same]⟩
    · obtain ⟨u, q⟩ := st.zt a e
      exact ⟨u, by rw [upd_ne (ne_of_none q n)]; exact q⟩
  · rcases List.mem_cons.mp z with e | e
    · exact (st.fresh n).1 (e ▸ ha)
    · exact st.dj a ha e
theorem At.hid {d : PV} {v : V} (a : At K mg H L Z d v) (n : H p = none) : At K mg (upd H p o) L (p :: Z) d v := (a.hide n).mono (Ext.laid n)
theorem Ats.hid {d : List PV} {v : List V} (a : Ats K mg H L Z d v) (n : H p = none) : Ats K mg (upd H p o) L (p :: Z) d v := (a.hide n).mono (Ext.laid n)
theorem Slots.hid {r : Env1} {σ : L2.St} (a : Slots K mg H L Z r σ) (n : H p = none) : Slots K mg (upd H p o) L (p :: Z) r σ := fun i d e => let ⟨v, e1, a1⟩ := a i d e; ⟨v, e1, a1.hid n⟩
theorem Slots.hide {r : Env1} {σ : L2.St} (a : Slots K mg H L Z r σ) (n : H p = none) : Slots K mg H L (p :: Z) r σ := fun i d e => let ⟨v, e1, a1⟩ := a i d e; ⟨v, e1, a1.hide n⟩
theorem Slots.stir {r : Env1} {σ : L2.St} (a : Slots K mg H L (p :: Z) r σ) (h : H p = some o) (m : Mut (some o)) : Slots K mg (upd H p o') L (p :: Z) r σ := fun i d e => let ⟨v, e1, a1⟩ := a i d e; ⟨v, e1, At.stir h m a1⟩
theorem Slots.unhide {r : Env1} {σ : L2.St} (a : Slots K mg H L (p :: Z) r σ) : Slots K mg H L Z r σ := fun i d e => let ⟨v, e1, a1⟩ := a i d e; ⟨v, e1, a1.unhide⟩
def cut (H : Hp) (p : Addr) : Hp := fun b => if b = p then none else H b
theorem cut_but (H : Hp) (p : Addr) : But p H (cut H p) := fun a h => by unfold cut; rw [if_neg h]
theorem cut_at (H : Hp) (p : Addr) : cut H p p = none := by unfold cut; rw [if_pos rfl]
theorem cut_upd {H : Hp} {p : Addr} {o : HO} (h : H p = some o) : upd (cut H p) p o = H := by
  funext b; unfold upd cut
  by_cases e : b = p
  · subst e; rw [if_pos rfl, h]
  · rw [if_neg e, if_neg e]
theorem Sta.drop {S : Store} {zs : List V} (st : Sta K mg H L (p :: Z) S) (pz : p ∉ Z) (h : H p = some (.lst zs)) (m : Mut (some (HO.lst zs))) : Sta K mg (cut H p) L Z S := by
  refine ⟨st.nd, st.len, fun i c a h1 h2 => ?_, fun a ha => ?_, fun a ha z => st.dj a ha (List.mem_cons_of_mem _ z), fun p' hp => tab_but (st.tabs p' hp) h (cut_but H p)⟩
  · have na : a ≠ p := fun e => st.dj a (List.mem_of_getElem? h2) (by rw [e]; exact List.mem_cons_self)
    have := st.cells i c a h1 h2
    cases c with
    | lst ds => obtain ⟨vs, e1, e2⟩ := this; exact ⟨vs, by rw [cut_but H p a na]; exact e1, (Ats.stirB h m (cut_but H p) e2).unhide⟩
    | ins nm fs => obtain ⟨C, dx, vs, h0, e1, e2⟩ := this; exact ⟨C, dx, vs, h0, by rw [cut_but H p a na]; exact e1, (Atf.stirB h m (cut_but H p) e2).unhide⟩
    | dic kvs ep => obtain ⟨us, e1, e2⟩ := this; exact ⟨us, by rw [cut_but H p a na]; exact e1, (Atd.stirB h m (cut_but H p) e2).unhide⟩
    | set ks => obtain ⟨M, e1, e2, e3, e4⟩ := this; exact ⟨M, by rw [cut_but H p a na]; exact e1, e2, e3, fun p hp => (At.stirB h m (cut_but H _) (e4 p hp)).unhide⟩
  · rw [cut_but H p a fun e => pz (e ▸ ha)]
    exact st.zt a (List.mem_cons_of_mem _ ha)
theorem Ext.but {H0 H1 H2 : Hp} {L0 L1 : List Addr} {zs : List V} (x : Ext H0 L0 H1 L1) (n : H0 p = none) (h : H1 p = some (.lst zs)) (b : But p H1 H2) : Ext H0 L0 H2 L1 := by
  refine ⟨x.pre, fun a u e hm nt => ?_, fun a u e => ?_⟩
  · rw [b a (ne_of_none e n)]; exact x.keep a u e hm nt
  · rw [b a (ne_of_none e n)]; exact x.dom a u e
end
def Post {α β : Type} (X : Cx) (W : WX) (σ : L2.St) (Z : List Addr) (rel : Hp → List Addr → α → β → Prop) (r : Res α) (H : Hp) (L : List Addr) (Q : β → Hp → Prop) : Prop :=
  match r with
  | .ok d S' => ∀ v H' L', Ext H L H' L' → Sta X.K X.mg H' L' Z S' → rel H' L' d v → Q v H'
  | .err c S' => ∀ H' L' cls, Ext H L H' L' → Sta X.K X.mg H' L' Z S' → X.mg c = some cls → W cls none σ H'
  | .bad => False
theorem Post.ext {α β : Type} {X : Cx} {W : WX} {σ : L2.St} {Z : List Addr} {rel : Hp → List Addr → α → β → Prop} {r : Res α} {H H1 : Hp} {L L1 : List Addr} {Q : β → Hp → Prop}
    (h : Post X W σ Z rel r H L Q) (x : Ext H L H1 L1) : Post X W σ Z rel r H1 L1 Q := by
  cases r with
  | ok d S' => exact fun v H' L' y => h v H' L' (x.trans y)
  | err c S' => exact fun H' L' cls y => h H' L' cls (x.trans y)
  | bad => exact h
abbrev relV (X : Cx) (Z : List Addr) : Hp → List Addr → PV → V → Prop := fun H L d v => At X.K X.mg H L Z d v
abbrev relL (X : Cx) (Z : List Addr) : Hp → List Addr → List PV → List V → Prop := fun H L d v => Ats X.K X.mg H L Z d v
abbrev relB : Hp → List Addr → Bool → Bool → Prop := fun _ _ d v => d = v
abbrev PostV (X : Cx) (W : WX) (σ : L2.St) (Z : List Addr) := Post X W σ Z (relV X Z)
abbrev PostL (X : Cx) (W : WX) (σ : L2.St) (Z : List Addr) := Post X W σ Z (relL X Z)
abbrev PostB (X : Cx) (W : WX) (σ : L2.St) (Z : List Addr) := Post X W σ Z relB
structure Jd (p : Prop) : Prop where
  out : p
def De (X : Cx) (W : WX) (e : Expr) (f : EM) : Prop := Jd (
  ∀ (pins : List (Addr × Obj)) (s : Shared) (σ : L2.St) (H : Hp) (r : Env1) (S : Store) (L Z : List Addr) (Q : VK), Inv X pins σ H s → Slots X.K X.mg H L Z r σ → Sta X.K X.mg H L Z S → PostV X W σ Z (f r S) H L Q →
    wpAny (model X.prog X.w) X.A (eval e X.env) (EP X pins σ Q) X.xe s)
def DT (X : Cx) (W : WX) (e : Expr) (f : BM) : Prop := Jd (
  ∀ (pins : List (Addr × Obj)) (s : Shared) (σ : L2.St) (H : Hp) (r : Env1) (S : Store) (L Z : List Addr) (Q : Bool → Hp → Prop), Inv X pins σ H s → Slots X.K X.mg H L Z r σ → Sta X.K X.mg H L Z S → PostB X W σ Z (f r S) H L Q →
    wpAny (model X.prog X.w) X.A (isTrue e X.env (eval e X.env)) (TP X pins σ Q) X.xe s)
def DW (X : Cx) (W : WX) (e : Expr) (f : BM) : Prop := Jd (
  ∀ (whole : Sem Value) (pins : List (Addr × Obj)) (s : Shared) (σ : L2.St) (H : Hp) (r : Env1) (S : Store) (L Z : List Addr) (Q : Bool → Hp → Prop), Inv X pins σ H s → Slots X.K X.mg H L Z r σ → Sta X.K X.mg H L Z S → PostB X W σ Z (f r S) H L Q →
    wpAny (model X.prog X.w) X.A (isTrue e X.env whole) (TP X pins σ Q) X.xe s)
def DA (X : Cx) (W : WX) (es : List Expr) (f : LM) : Prop := Jd (
  ∀ (pos : Pos) (pins : List (Addr × Obj)) (s : Shared) (σ : L2.St) (H : Hp) (r : Env1) (S : Store) (L Z : List Addr) (Q : List V → Hp → Prop), Inv X pins σ H s → Slots X.K X.mg H L Z r σ → Sta X.K X.mg H L Z S → PostL X W σ Z (f r S) H L Q →
    wpAny (model X.prog X.w) X.A (spliced (backTo pos (starEach es X.env))) (AP X pins σ Q) X.xe s)
section
variable {X : Cx} {W : WX} {pins : List (Addr × Obj)} {s : Shared} {σ : L2.St} {H : Hp} {r : Env1} {S : Store} {L Z : List Addr}
theorem De.step {β γ : Type} {e : Expr} {f : EM} (ha : De X W e f) (I : Inv X pins σ H s) (sl : Slots X.K X.mg H L Z r σ) (st : Sta X.K X.mg H L Z S) {g : PV → Store → Res β} {rel : Hp → List Addr → β → γ → Prop} {Q : γ → Hp → Prop}
    (p : Post X W σ Z rel ((f r S).bind g) H L Q) {Qf : Value → Shared → Prop}
    (hk : ∀ d S1 v u s1 H1 L1, Inv X pins σ H1 s1 → RelV v u → Slots X.K X.mg H1 L1 Z r σ → Sta X.K X.mg H1 L1 Z S1 → Ext H L H1 L1 → At X.K X.mg H1 L1 Z d v → Post X W σ Z rel (g d S1) H1 L1 Q → Qf u s1) :
    wpAny (model X.prog X.w) X.A (eval e X.env) Qf X.xe s := by
  cases q : f r S with
  | ok d S1 =>
    rw [q] at p
    refine thn (ha.out pins s σ H r S L Z (fun v H1 => ∃ L1, Ext H L H1 L1 ∧ Sta X.K X.mg H1 L1 Z S1 ∧ At X.K X.mg H1 L1 Z d v) I sl st (by rw [q]; exact fun v H' L' x y z => ⟨L', x, y, z⟩)) fun u s1 ⟨v, H1, I1, rv, L1, x1, st1, a1⟩ => ?_
    exact hk d S1 v u s1 H1 L1 I1 rv (sl.mono x1) st1 x1 a1 (p.ext x1)
  | err c S1 =>
    rw [q] at p
    exact thn (ha.out pins s σ H r S L Z (fun v H1 => False) I sl st (by rw [q]; exact p)) fun u s1 ⟨v, H1, _, _, z⟩ => z.elim
  | bad => rw [q] at p; exact p.elim
theorem DT.step {β γ : Type} {e : Expr} {f : BM} (ha : DT X W e f) (I : Inv X pins σ H s) (sl : Slots X.K X.mg H L Z r σ) (st : Sta X.K X.mg H L Z S) {g : Bool → Store → Res β} {rel : Hp → List Addr → β → γ → Prop} {Q : γ → Hp → Prop}
    (p : Post X W σ Z rel ((f r S).bind g) H L Q) {Qf : Bool → Shared → Prop}
    (hk : ∀ d S1 s1 H1 L1, Inv X pins σ H1 s1 → Slots X.K X.mg H1 L1 Z r σ → Sta X.K X.mg H1 L1 Z S1 → Ext H L H1 L1 → Post X W σ Z rel (g d S1) H1 L1 Q → Qf d s1) :
    wpAny (model X.prog X.w) X.A (isTrue e X.env (eval e X.env)) Qf X.xe s := by
  cases q : f r S with
  | ok d S1 =>
    rw [q] at p
    refine thn (ha.out pins s σ H r S L Z (fun v H1 => d = v ∧ ∃ L1, Ext H L H1 L1 ∧ Sta X.K X.mg H1 L1 Z S1) I sl st (by rw [q]; exact fun v H' L' x y z => ⟨z, L', x, y⟩)) fun b s1 ⟨H1, I1, e1, L1, x1, st1⟩ => ?_
    subst e1
    exact hk d S1 s1 H1 L1 I1 (sl.mono x1) st1 x1 (p.ext x1)
  | err c S1 =>
    rw [q] at p
    exact thn (ha.out pins s σ H r S L Z (fun v H1 => False) I sl st (by rw [q]; exact p)) fun u s1 ⟨H1, _, z⟩ => z.elim
  | bad => rw [q] at p; exact p.elim
theorem DW.step {β γ : Type} {e : Expr} {f : BM} (ha : DW X W e f) (whole : Sem Value) (I : Inv X pins σ H s) (sl : Slots X.K X.mg H L Z r σ) (st : Sta X.K X.mg H L Z S) {g : Bool → Store → Res β} {rel : Hp → List Addr → β → γ → Prop} {Q : γ → Hp → Prop}
    (p : Post X W σ Z rel ((f r S).bind g) H L Q) {Qf : Bool → Shared → Prop}
    (hk : ∀ d S1 s1 H1 L1, Inv X pins σ H1 s1 → Slots X.K X.mg H1 L1 Z r σ → Sta X.K X.mg H1 L1 Z S1 → Ext H L H1 L1 → Post X W σ Z rel (g d S1) H1 L1 Q → Qf d s1) :
    wpAny (model X.prog X.w) X.A (isTrue e X.env whole) Qf X.xe s := by
  cases q : f r S with
  | ok d S1 =>
    rw [q] at p
    refine thn (ha.out whole pins s σ H r S L Z (fun v H1 => d = v ∧ ∃ L1, Ext H L H1 L1 ∧ Sta X.K X.mg H1 L1 Z S1) I sl st (by rw [q]; exact fun v H' L' x y z => ⟨z, L', x, y⟩)) fun b s1 ⟨H1, I1, e1, L1, x1, st1⟩ => ?_
    subst e1
    exact hk d S1 s1 H1 L1 I1 (sl.mono x1) st1 x1 (p.ext x1)
  | err c S1 =>
    rw [q] at p
    exact thn (ha.out whole pins s σ H r S L Z (fun v H1 => False) I sl st (by rw [q]; exact p)) fun u s1 ⟨H1, _, z⟩ => z.elim
  | bad => rw [q] at p; exact p.elim
theorem DA.step {β γ : Type} {es : List Expr} {f : LM} (ha : DA X W es f) (pos : Pos) (I : Inv X pins σ H s) (sl : Slots X.K X.mg H L Z r σ) (st : Sta X.K X.mg H L Z S) {g : List PV → Store → Res β} {rel : Hp → List Addr → β → γ → Prop} {Q : γ → Hp → Prop}
    (p : Post X W σ Z rel ((f r S).bind g) H L Q) {Qf : List Value → Shared → Prop}
    (hk : ∀ ds S1 vs us s1 H1 L1, Inv X pins σ H1 s1 → Vals vs us → Slots X.K X.mg H1 L1 Z r σ → Sta X.K X.mg H1 L1 Z S1 → Ext H L H1 L1 → Ats X.K X.mg H1 L1 Z ds vs → Post X W σ Z rel (g ds S1) H1 L1 Q → Qf us s1) :
    wpAny (model X.prog X.w) X.A (spliced (backTo pos (starEach es X.env))) Qf X.xe s := by
  cases q : f r S with
  | ok d S1 =>
    rw [q] at p
    refine thn (ha.out pos pins s σ H r S L Z (fun v H1 => ∃ L1, Ext H L H1 L1 ∧ Sta X.K X.mg H1 L1 Z S1 ∧ Ats X.K X.mg H1 L1 Z d v) I sl st (by rw [q]; exact fun v H' L' x y z => ⟨L', x, y, z⟩)) fun u s1 ⟨v, H1, I1, rv, L1, x1, st1, a1⟩ => ?_
    exact hk d S1 v u s1 H1 L1 I1 rv (sl.mono x1) st1 x1 a1 (p.ext x1)
  | err c S1 =>
    rw [q] at p
    exact thn (ha.out pos pins s σ H r S L Z (fun v H1 => False) I sl st (by rw [q]; exact p)) fun u s1 ⟨v, H1, _, _, z⟩ => z.elim
  | bad => rw [q] at p; exact p.elim
end
end Dn
namespace Dn
open PySem PySem.Spec PyProof.Rows L2
def DOp (X : Cx) (W : WX) (f : Value → Value → Sem Value) (g : PV → PV → Store → Res PV) : Prop :=
  ∀ (pins : List (Addr × Obj)) (s : Shared) (σ : L2.St) (H : Hp) (S : Store) (L Z : List Addr) (Q : VK) (d e : PV) (x y : V) (u v : Value), Inv X pins σ H s → Sta X.K X.mg H L Z S → At X.K X.mg H L Z d x → At X.K X.mg H L Z e y → RelV x u → RelV y v →
    PostV X W σ Z (g d e S) H L Q → wpAny (model X.prog X.w) X.A (f u v) (EP X pins σ Q) X.xe s
def DU (X : Cx) (W : WX) (f : Value → Sem Value) (g : PV → Store → Res PV) : Prop :=
  ∀ (pins : List (Addr × Obj)) (s : Shared) (σ : L2.St) (H : Hp) (S : Store) (L Z : List Addr) (Q : VK) (d : PV) (x : V) (u : Value), Inv X pins σ H s → Sta X.K X.mg H L Z S → At X.K X.mg H L Z d x → RelV x u →
    PostV X W σ Z (g d S) H L Q → wpAny (model X.prog X.w) X.A (f u) (EP X pins σ Q) X.xe s
def DC (X : Cx) (W : WX) (f : Value) (g : List PV → Store → Res PV) : Prop :=
  ∀ (pins : List (Addr × Obj)) (s : Shared) (σ : L2.St) (H : Hp) (S : Store) (L Z : List Addr) (Q : VK) (ds : List PV) (xs : List V) (us : List Value), Inv X pins σ H s → Sta X.K X.mg H L Z S → Ats X.K X.mg H L Z ds xs → Vals xs us →
    PostV X W σ Z (g ds S) H L Q → wpAny (model X.prog X.w) X.A (call f us) (EP X pins σ Q) X.xe s
section
variable {X : Cx} {W : WX} {pins : List (Addr × Obj)} {s : Shared} {σ : L2.St} {H : Hp} {r : Env1} {S : Store} {L Z : List Addr} {Q : VK}
theorem post_val {d : PV} {v : V} (p : PostV X W σ Z (.ok d S) H L Q) (st : Sta X.K X.mg H L Z S) (a : At X.K X.mg H L Z d v) : Q v H := p v H L (Ext.refl H L) st a
theorem post_tup {ds : List PV} {vs : List V} (p : PostV X W σ Z (.ok (.tup ds) S) H L Q) (st : Sta X.K X.mg H L Z S) (a : Ats X.K X.mg H L Z ds vs) : ∀ q, H q = none → Q (.ref q) (upd H q (.tup vs)) := fun q n =>
  p _ _ L (Ext.laid n) (st.laid n) (.tup (.of upd_same) (a.mono (Ext.laid n)))
theorem post_lst {ds : List PV} {vs : List V} (p : PostV X W σ Z (.ok (.lst ds) S) H L Q) (st : Sta X.K X.mg H L Z S) (a : Ats X.K X.mg H L Z ds vs) : ∀ q, H q = none → Q (.ref q) (upd H q (.lst vs)) := fun q n =>
  p _ _ L (Ext.laid n) (st.laid n) (.lst upd_same (st.fresh n).1 (st.fresh n).2 (a.mono (Ext.laid n)))
theorem DOp.of {f : Value → Value → Sem Value} {g : PV → PV → Store → Res PV} {r2 : R2} (ho : OpR X f r2)
    (h : ∀ (σ : L2.St) (H : Hp) (S : Store) (L Z : List Addr) (Q : VK) (d e : PV) (x y : V), Sta X.K X.mg H L Z S → At X.K X.mg H L Z d x → At X.K X.mg H L Z e y → PostV X W σ Z (g d e S) H L Q → r2 x y H Q) : DOp X W f g :=
  fun pins s σ H S L Z Q d e x y u v I st a1 a2 r1 r2' p => ho pins s σ H x y u v Q I r1 r2' (h σ H S L Z Q d e x y st a1 a2 p)
theorem DC.of {f : Value} {g : List PV → Store → Res PV} {rr : List V → Hp → VK → Prop} (ho : CallR X f rr)
    (h : ∀ (σ : L2.St) (H : Hp) (S : Store) (L Z : List Addr) (Q : VK) (ds : List PV) (xs : List V), Sta X.K X.mg H L Z S → Ats X.K X.mg H L Z ds xs → PostV X W σ Z (g ds S) H L Q → rr xs H Q) : DC X W f g :=
  fun pins s σ H S L Z Q ds xs us I st a1 r1 p => ho pins s σ H xs us Q I r1 (h σ H S L Z Q ds xs st a1 p)
end
def lstOf (S : Store) : PV → Option (List PV)
  | .lst xs => some xs
  | .loc i => match S[i]? with
    | some (.lst xs) => some xs
    | _ => none
  | _ => none
def seqOf (S : Store) : PV → Option (List PV)
  | .tup xs => some xs
  | .scr ns => some (ns.map PV.int)
  | d => lstOf S d
section
variable {K : PySem.W.Frag} {mg : Str → Option Value} {H : Hp} {L Z : List Addr} {S : Store}
theorem ats_ints : ∀ (ns : List Int), Ats K mg H L Z (ns.map PV.int) (ns.map V.int)
  | [] => .nil
  | n :: ns => .cons (.int n) (ats_ints ns)
theorem lst_at {d : PV} {v : V} {ds : List PV} (st : Sta K mg H L Z S) (a : At K mg H L Z d v) (h : lstOf S d = some ds) : ∃ p vs, v = .ref p ∧ H p = some (.lst vs) ∧ Ats K mg H L Z ds vs := by
  cases a with
  | lst h1 h2 h3 h4 => cases h; exact ⟨_, _, rfl, h1, h4⟩
  | @loc a i h1 =>
    simp only [lstOf] at h
    split at h
    · rename_i xs e
      cases h
      obtain ⟨vs, h2, h3⟩ := st.cells i _ a e h1
      exact ⟨a, vs, rfl, h2, h3⟩
    · cases h
  | _ => cases h
theorem seq_at {d : PV} {v : V} {ds : List PV} (st : Sta K mg H L Z S) (a : At K mg H L Z d v) (h : seqOf S d = some ds) : ∃ p vs, v = .ref p ∧ (SqL K H p vs ∨ SqT K H p vs) ∧ Ats K mg H L Z ds vs := by
  cases a with
  | tup h1 h2 => cases h; exact ⟨_, _, rfl, .inr h1, h2⟩
  | scr h1 h2 _ => cases h; exact ⟨_, _, rfl, .inl (.inl h1), ats_ints _⟩
  | scrk h1 => cases h; exact ⟨_, _, rfl, .inl (h1 H), ats_ints _⟩
  | lst h1 h2 h3 h4 => cases h; exact ⟨_, _, rfl, .inl (.of h1), h4⟩
  | loc h1 =>
    obtain ⟨p, vs, e, h2, h3⟩ := lst_at st (.loc h1) h
    exact ⟨p, vs, e, .inl (.of h2), h3⟩
  | _ => cases h
end
def dataOf (S : Store) (d : PV) : Option PyData := match lstOf S d with
  | some xs => (data0s xs).map .list
  | none => data0 d
section
variable {K : PySem.W.Frag} {mg : Str → Option Value} {H : Hp} {L Z : List Addr} {S : Store}
mutual
theorem dp_of : ∀ {d : PV} {v : V} {p : PyData}, At K mg H L Z d v → data0 d = some p → Dp K H v p
  | _, _, _, .non, h => by simp [data0] at h; subst h; exact .non
  | _, _, _, .bl b, h => by simp [data0] at h; subst h; exact .bl b
  | _, _, _, .int i, h => by simp [data0] at h; subst h; exact .int i
  | _, _, _, .str x, h => by simp [data0] at h; subst h; exact .str x
  | _, _, _, .tup (ds := ds) h1 h2, h => by
    simp only [data0] at h
    cases e : data0s ds with
    | none => rw [e] at h; cases h
    | some ps => rw [e] at h; cases h; exact .tup h1 (dps_of h2 e)
  | _, _, _, .lst (ds := ds) h1 h2 h3 h4, h => by
    simp only [data0] at h
    cases e : data0s ds with
    | none => rw [e] at h; cases h
    | some ps => rw [e] at h; cases h; exact .lst (.of h1) (dps_of h4 e)
  | _, _, _, .obj .., h => by simp [data0] at h
  | _, _, _, .loc .., h => by simp [data0] at h
  | _, _, _, .scr .., h => by simp [data0] at h
  | _, _, _, .scrk .., h => by simp [data0] at h
  | _, _, _, .ty .., h => by simp [data0] at h
  | _, _, _, .cls .., h => by simp [data0] at h
  | _, _, _, .exc .., h => by simp [data0] at h
  | _, _, _, .dic .., h => by simp [data0] at h
  | _, _, _, .tub .., h => by simp [data0] at h
  | _, _, _, .dik .., h => by simp [data0] at h
theorem dps_of : ∀ {ds : List PV} {vs : List V} {ps : List PyData}, Ats K mg H L Z ds vs → data0s ds = some ps → DpAll K H vs ps
  | _, _, _, .nil, h => by simp [data0s] at h; subst h; exact .nil
  | _, _, _, .cons (d := d) (ds := ds) h1 h2, h => by
    simp only [data0s] at h
    cases e : data0 d with
    | none => rw [e] at h; cases h
    | some p =>
      cases e' : data0s ds with
      | none => rw [e, e'] at h; cases h
      | some ps => rw [e, e'] at h; cases h; exact .cons (dp_of h1 e) (dps_of h2 e')
end
theorem dp_at {d : PV} {v : V} {p : PyData} (st : Sta K mg H L Z S) (a : At K mg H L Z d v) (h : dataOf S d = some p) : Dp K H v p := by
  unfold dataOf at h
  cases e : lstOf S d with
  | none => rw [e] at h; exact dp_of a h
  | some xs =>
    rw [e] at h
    obtain ⟨q, vs, rfl, h1, h2⟩ := lst_at st a e
    cases e' : data0s xs with
    | none => simp only [e'] at h; cases h
    | some ps => simp only [e'] at h; cases h; exact .lst (.of h1) (dps_of h2 e')
end
theorem tuple_mul1 (l : Addr) (items : Array Value) (n : Nat) (dd : Option Addr) (sl : Array (Option Value)) (x : Int) (u : Tok) (c0 : (decide (x < -(2 ^ 63)) || decide (x ≥ 2 ^ 63)) = false) (c1 : (items.isEmpty || x == 1) = true) :
    Meets (Builtin.«tuple.__mul__» ⟨[.ref l, .int x u], []⟩) (fun _ R s => s.heap.get? l = some { cls := .type "tuple", dict := dd, data := .seq items n, slots := sl } ∧
      R (.ok (.ret (Value.ref l))) s) :=
  .of_wp fun prog w A R s h => by
    obtain ⟨hp, g, d, tk, os⟩ := s
    obtain ⟨hl, h⟩ := h
    have f1 := AutoSeq1.idx_int
    wp_walk using wpAny_loadPart' hl
    repeat (first
      | (refine wpAny_ite_false (decide_eq_false (by rw [c0]; exact Bool.false_ne_true)) ?_; wp_walk using wpAny_loadPart' hl)
      | (refine wpAny_ite_true (decide_eq_true (by rw [c1])) ?_; wp_walk using wpAny_loadPart' hl))
    exact ⟨_, rfl, h⟩
def rRep1 (K : PySem.W.Frag) : R2 := fun x y H Q => ∃ l xs, x = .ref l ∧ y = .int 1 ∧ SqT K H l xs ∧ Q (.ref l) H
theorem op_rep1 {X : Cx} : OpR X (binaryOp .Mult) (rRep1 X.K) := by
  intro pins s σ H x y v u Q I rx ry h
  obtain ⟨l, xs, rfl, rfl, hT, q⟩ := h
  cases rx
  obtain ⟨t, rfl⟩ := ry
  obtain ⟨its, r, ⟨⟨cls, dd, data, sl⟩, ho, hc, n, hd⟩, hs⟩ := I.tuple hT
  simp only at hc hd
  subst hc hd
  refine wpAny_binaryOp_repeat_ref (T := "tuple") (U := "int") (by decide) ⟨_, ho, rfl⟩ (fun s' => typeIs_int s' 1 t) noFill_tuple_mul F.fills_int_mul F.slot_int_rmul repeat_tuple F.slot_int_index.lookup
    (call_meets F.slot_int_rmul (typeIs_int s 1 t) F.entry_int_rmul (F.args_int_rmul_2 _ _) (int_rmul_tuple 1 t l its.toArray n dd sl)
      ⟨ho, rfl, ⟨_, ho, rfl⟩, call_meets F.slot_tuple_mul ⟨_, ho, rfl⟩ F.entry_tuple_mul (F.args_tuple_mul_2 _ _) (tuple_mul1 l its.toArray n dd sl 1 t (by decide) (by simp)) ⟨ho, ?_⟩⟩)
  exact ⟨.ref l, H, I, rfl, q⟩
def vAdd (d e : PV) (S : Store) : Res PV :=
  match d with
  | .int i => (match e with
    | .int j => .ok (.int (i + j)) S
    | _ => .bad)
  | .str x => (match e with
    | .str y => if x.length + y.length ≤ sizeLine then .ok (.str (x ++ y)) S else .bad
    | _ => .bad)
  | .tup xs => (match e with
    | .tup ys => if xs.length + ys.length ≤ sizeLine then .ok (.tup (xs ++ ys)) S else .bad
    | _ => .bad)
  | _ => match lstOf S d, lstOf S e with
    | some xs, some ys => if xs.length + ys.length ≤ sizeLine then .ok (.lst (xs ++ ys)) S else .bad
    | _, _ => .bad
def vSub (d e : PV) (S : Store) : Res PV :=
  match d with
  | .int i => (match e with
    | .int j => .ok (.int (i - j)) S
    | _ => .bad)
  | _ => .bad
def vRepL (o : Option (List PV)) (e : PV) (S : Store) : Res PV := match o with
  | some xs => (match e with
    | .int k => if k < 2 ^ 63 ∧ -(2 ^ 63) ≤ k ∧ xs.length * k.toNat ≤ sizeLine then .ok (.lst (List.replicate k.toNat xs).flatten) S else .bad
    | _ => .bad)
  | none => .bad
def vMul (d e : PV) (S : Store) : Res PV :=
  match d with
  | .int i => (match e with
    | .int j => if i.natAbs.log2 + j.natAbs.log2 < 1000000 then .ok (.int (i * j)) S else .bad
    | _ => .bad)
  | .tup xs => (match e with
    | .int k => if 1 ≤ k ∧ k ≤ 1000 ∧ xs.length ≤ 1000 ∧ 0 < xs.length then .ok (.tup (List.replicate k.toNat xs).flatten) S else .bad
    | _ => .bad)
  | _ => vRepL (lstOf S d) e S
def vDiv (d e : PV) (S : Store) : Res PV :=
  match d with
  | .int i => (match e with
    | .int j => if 0 < j ∧ j.natAbs.log2 < 9000 then .ok (.int (i / j)) S else .bad
    | _ => .bad)
  | _ => .bad
def vMod (d e : PV) (S : Store) : Res PV :=
  match d with
  | .int i => (match e with
    | .int j => if 0 < j then .ok (.int (i % j)) S else .bad
    | _ => .bad)
  | _ => .bad
def vPow (d e : PV) (S : Store) : Res PV :=
  match d with
  | .int i => (match e with
    | .int j => if 0 ≤ j ∧ j ≤ 1000000 ∧ i.natAbs < 2 ^ 64 then .ok (.int (i ^ j.toNat)) S else .bad
    | _ => .bad)
  | _ => .bad
def vNeg (d : PV) (S : Store) : Res PV :=
  match d with
  | .int i => .ok (.int (-i)) S
  | _ => .bad
section
variable {X : Cx} {W : WX}
theorem Ats.reps {K : PySem.W.Frag} {mg : Str → Option Value} {H : Hp} {L Z : List Addr} {ds : List PV} {vs : List V} (a : Ats K mg H L Z ds vs) : ∀ n : Nat, Ats K mg H L Z (List.replicate n ds).flatten (List.replicate n vs).flatten
  | 0 => .nil
  | n + 1 => by
    rw [List.replicate_succ, List.replicate_succ, List.flatten_cons, List.flatten_cons]
    exact a.append (Ats.reps a n)
theorem op_int {f : Value → Value → Sem Value} {g : PV → PV → Store → Res PV} {C : Int → Int → Prop} {k : Int → Int → Int} (ho : OpR X f (rI C fun i j => .int (k i j)))
    (h : ∀ (d e : PV) (S : Store), (∃ i j, d = .int i ∧ e = .int j ∧ C i j ∧ g d e S = .ok (.int (k i j)) S) ∨ g d e S = .bad) : DOp X W f g :=
  DOp.of ho fun σ H S L Z Q d e x y st a1 a2 p => by
    rcases h d e S with ⟨i, j, rfl, rfl, hc, q⟩ | q
    · rw [q] at p
      cases a1; cases a2
      exact ⟨i, j, rfl, rfl, hc, post_val p st (.int _)⟩
    · rw [q] at p; exact p.elim
theorem dop_sub : DOp X W (binaryOp .Sub) vSub := op_int (C := fun _ _ => True) (k := fun i j => i - j) (opI fun _ _ _ _ _ _ _ _ q => sub_int q) fun d e S => by
  cases d with
  | int i => cases e with
    | int j => exact .inl ⟨i, j, rfl, rfl, trivial, rfl⟩
    | _ => exact .inr rfl
  | _ => exact .inr rfl
theorem dop_div : DOp X W (binaryOp .FloorDiv) vDiv := op_int op_fdivW fun d e S => by
  cases d with
  | int i => cases e with
    | int j =>
      by_cases h : 0 < j ∧ j.natAbs.log2 < 9000
      · exact .inl ⟨i, j, rfl, rfl, h, if_pos h⟩
      · exact .inr (if_neg h)
    | _ => exact .inr rfl
  | _ => exact .inr rfl
theorem dop_mod : DOp X W (binaryOp .Mod) vMod := op_int op_mod fun d e S => by
  cases d with
  | int i => cases e with
    | int j =>
      by_cases h : 0 < j
      · exact .inl ⟨i, j, rfl, rfl, h, if_pos h⟩
      · exact .inr (if_neg h)
    | _ => exact .inr rfl
  | _ => exact .inr rfl
theorem dop_pow : DOp X W (binaryOp .Pow) vPow := op_int op_pow fun d e S => by
  cases d with
  | int i => cases e with
    | int j =>
      by_cases h : 0 ≤ j ∧ j ≤ 1000000 ∧ i.natAbs < 2 ^ 64
      · exact .inl ⟨i, j, rfl, rfl, h, if_pos h⟩
      · exact .inr (if_neg h)
    | _ => exact .inr rfl
  | _ => exact .inr rfl
theorem dop_add : DOp X W (binaryOp .Add) vAdd := by
  intro pins s σ H S L Z Q d e x y u v I st a1 a2 r1 r2 p
  have lists : (∀ xs ys, lstOf S d = some xs → lstOf S e = some ys → PostV X W σ Z (if xs.length + ys.length ≤ sizeLine then .ok (.lst (xs ++ ys)) S else .bad) H L Q →
      wpAny (model X.prog X.w) X.A (binaryOp .Add u v) (EP X pins σ Q) X.xe s) := fun xs ys h1 h2 p => by
    obtain ⟨q1, vs1, rfl, e1, b1⟩ := lst_at st a1 h1
    obtain ⟨q2, vs2, rfl, e2, b2⟩ := lst_at st a2 h2
    by_cases hz : xs.length + ys.length ≤ sizeLine
    · rw [if_pos hz] at p
      exact op_cat pins s σ H _ _ u v Q I r1 r2 ⟨q1, q2, vs1, vs2, rfl, rfl, e1, e2, by rw [← b1.len, ← b2.len]; exact hz, post_lst p st (b1.append b2)⟩
    · rw [if_neg hz] at p; exact p.elim
  have gen : (match lstOf S d, lstOf S e with
    | some xs, some ys => if xs.length + ys.length ≤ sizeLine then Res.ok (.lst (xs ++ ys)) S else .bad
    | _, _ => .bad) = vAdd d e S → wpAny (model X.prog X.w) X.A (binaryOp .Add u v) (EP X pins σ Q) X.xe s := fun q => by
    rw [← q] at p
    cases h1 : lstOf S d with
    | none => rw [h1] at p; exact p.elim
    | some xs =>
      cases h2 : lstOf S e with
      | none => rw [h1, h2] at p; exact p.elim
      | some ys => rw [h1, h2] at p; exact lists xs ys h1 h2 p
  cases d with
  | int i =>
    cases e with
    | int j =>
      cases a1; cases a2
      exact op_add pins s σ H _ _ u v Q I r1 r2 ⟨i, j, rfl, rfl, post_val p st (.int _)⟩
    | _ => exact (show False from p).elim
  | str i =>
    cases e with
    | str j =>
      have p : PostV X W σ Z (if i.length + j.length ≤ sizeLine then .ok (.str (i ++ j)) S else .bad) H L Q := p
      cases a1; cases a2
      by_cases hz : i.length + j.length ≤ sizeLine
      · rw [if_pos hz] at p
        exact op_add_str pins s σ H _ _ u v Q I r1 r2 ⟨i, j, rfl, rfl, hz, post_val p st (.str _)⟩
      · rw [if_neg hz] at p; exact p.elim
    | _ => exact (show False from p).elim
  | tup xs =>
    cases e with
    | tup ys =>
      have p : PostV X W σ Z (if xs.length + ys.length ≤ sizeLine then .ok (.tup (xs ++ ys)) S else .bad) H L Q := p
      have a1' := a1
      have a2' := a2
      cases a1 with
      | tup h1 b1 =>
        cases a2 with
        | tup h2 b2 =>
          by_cases hz : xs.length + ys.length ≤ sizeLine
          · rw [if_pos hz] at p
            refine op_catA pins s σ H _ _ u v Q I r1 r2 ⟨_, _, _, _, rfl, rfl, h1, h2, by rw [← b1.len, ← b2.len]; exact hz, fun e => ?_, fun _ e => ?_, fun _ _ => post_tup p st (b1.append b2)⟩
            · subst e
              cases b1
              exact post_val p st a2'
            · subst e
              cases b2
              rw [List.append_nil] at p
              exact post_val p st a1'
          · rw [if_neg hz] at p; exact p.elim
    | _ => exact (show False from p).elim
  | non => exact gen rfl
  | bl _ => exact gen rfl
  | lst _ => exact gen rfl
  | obj _ _ => exact gen rfl
  | loc _ => exact gen rfl
  | scr _ => exact gen rfl
  | ty _ => exact gen rfl
  | cls _ => exact gen rfl
  | exc _ => exact gen rfl
  | dic _ => exact gen rfl
  | tub _ => exact gen rfl
  | dik _ => exact gen rfl
theorem dop_mul : DOp X W (binaryOp .Mult) vMul := by
  intro pins s σ H S L Z Q d e x y u v I st a1 a2 r1 r2 p
  have gen : vRepL (lstOf S d) e S = vMul d e S → wpAny (model X.prog X.w) X.A (binaryOp .Mult u v) (EP X pins σ Q) X.xe s := fun q => by
    rw [← q] at p
    cases h1 : lstOf S d with
    | none => rw [h1] at p; exact p.elim
    | some xs =>
      rw [h1] at p
      cases e with
      | int k =>
        obtain ⟨q1, vs1, rfl, e1, b1⟩ := lst_at st a1 h1
        cases a2
        have p : PostV X W σ Z (if k < 2 ^ 63 ∧ -(2 ^ 63) ≤ k ∧ xs.length * k.toNat ≤ sizeLine then Res.ok (.lst (List.replicate k.toNat xs).flatten) S else .bad) H L Q := p
        by_cases hz : k < 2 ^ 63 ∧ -(2 ^ 63) ≤ k ∧ xs.length * k.toNat ≤ sizeLine
        · rw [if_pos hz] at p
          exact op_rep pins s σ H _ _ u v Q I r1 r2 ⟨q1, k, vs1, rfl, rfl, e1, hz.2.1, hz.1, by rw [← b1.len]; exact hz.2.2, post_lst p st (b1.reps _)⟩
        · rw [if_neg hz] at p; exact p.elim
      | _ => exact (show False from p).elim
  cases d with
  | int i =>
    cases e with
    | int j =>
      have p : PostV X W σ Z (if i.natAbs.log2 + j.natAbs.log2 < 1000000 then .ok (.int (i * j)) S else .bad) H L Q := p
      cases a1; cases a2
      by_cases hz : i.natAbs.log2 + j.natAbs.log2 < 1000000
      · rw [if_pos hz] at p
        exact op_mulW pins s σ H _ _ u v Q I r1 r2 ⟨i, j, rfl, rfl, hz, post_val p st (.int _)⟩
      · rw [if_neg hz] at p; exact p.elim
    | _ => exact (show False from p).elim
  | tup xs =>
    cases e with
    | int k =>
      have p : PostV X W σ Z (if 1 ≤ k ∧ k ≤ 1000 ∧ xs.length ≤ 1000 ∧ 0 < xs.length then .ok (.tup (List.replicate k.toNat xs).flatten) S else .bad) H L Q := p
      have a1' := a1
      cases a2
      cases a1 with
      | tup h1 b1 =>
        by_cases hz : 1 ≤ k ∧ k ≤ 1000 ∧ xs.length ≤ 1000 ∧ 0 < xs.length
        · rw [if_pos hz] at p
          have hl := b1.len
          by_cases hk : k = 1
          · subst hk
            refine op_rep1 pins s σ H _ _ u v Q I r1 r2 ⟨_, _, rfl, rfl, h1, post_val p st ?_⟩
            show At X.K X.mg H L Z (.tup (List.replicate 1 xs).flatten) _
            rw [show (List.replicate 1 xs).flatten = xs from by simp]
            exact a1'
          · exact op_repT pins s σ H _ _ u v Q I r1 r2 ⟨_, k, _, rfl, rfl, h1, fun e => by (rw [e] at hl; simp at hl; subst hl; exact absurd hz.2.2.2 (by simp)), by omega, hz.2.1, by omega, post_tup p st (b1.reps _)⟩
        · rw [if_neg hz] at p; exact p.elim
    | _ => exact (show False from p).elim
  | str _ => exact (show False from by cases e <;> exact p).elim
  | non => exact gen rfl
  | bl _ => exact gen rfl
  | lst _ => exact gen rfl
  | obj _ _ => exact gen rfl
  | loc _ => exact gen rfl
  | scr _ => exact gen rfl
  | ty _ => exact gen rfl
  | cls _ => exact gen rfl
  | exc _ => exact gen rfl
  | dic _ => exact gen rfl
  | tub _ => exact gen rfl
  | dik _ => exact gen rfl
theorem du_neg : DU X W (unaryOp .USub) vNeg := by
  intro pins s σ H S L Z Q d x u I st a r p
  cases d with
  | int i =>
    cases a
    exact un_neg pins s σ H _ u Q I r ⟨i, rfl, post_val p st (.int _)⟩
  | _ => exact (show False from p).elim
def okB (b : Bool) (S : Store) : Res PV := .ok (.bl b) S
def vEq0 (d e : PV) (S : Store) : Res PV := match dataOf S d, dataOf S e with
  | some p, some q => if SeqAt.shaped p = true ∧ SeqAt.shaped q = true then .ok (.bl (PyData.eqv p q)) S else .bad
  | _, _ => .bad
def vNe0 (d e : PV) (S : Store) : Res PV := match dataOf S d, dataOf S e with
  | some p, some q => if SeqAt.shaped p = true ∧ SeqAt.shaped q = true then .ok (.bl (!PyData.eqv p q)) S else .bad
  | _, _ => .bad
def strs? (d e : PV) : Option (Str × Str) := match d with
  | .str x => (match e with
    | .str y => some (x, y)
    | _ => none)
  | _ => none
def vEq (d e : PV) (S : Store) : Res PV := match strs? d e with
  | some p => .ok (.bl (decide (p.1 = p.2))) S
  | none => vEq0 d e S
def vNe (d e : PV) (S : Store) : Res PV := match strs? d e with
  | some p => .ok (.bl (!decide (p.1 = p.2))) S
  | none => vNe0 d e S
theorem strs_some {d e : PV} {p : Str × Str} (h : strs? d e = some p) : d = .str p.1 ∧ e = .str p.2 := by
  cases d with
  | str x => cases e with
    | str y => cases h; exact ⟨rfl, rfl⟩
    | _ => cases h
  | _ => cases h
def vCmp (c : Int → Int → Bool) (d e : PV) (S : Store) : Res PV :=
  match d with
  | .int i => (match e with
    | .int j => .ok (.bl (c i j)) S
    | _ => .bad)
  | _ => .bad
theorem dop_eq0 (hu : X.A.units + 64 < cLine) : DOp X W (compareOp .Eq) vEq0 := by
  intro pins s σ H S L Z Q d e x y u v I st a1 a2 r1 r2 p
  unfold vEq0 at p
  cases h1 : dataOf S d with
  | none => rw [h1] at p; exact p.elim
  | some m =>
    cases h2 : dataOf S e with
    | none => rw [h1, h2] at p; exact p.elim
    | some n =>
      rw [h1, h2] at p
      have p : PostV X W σ Z (if SeqAt.shaped m = true ∧ SeqAt.shaped n = true then .ok (.bl (PyData.eqv m n)) S else .bad) H L Q := p
      by_cases hz : SeqAt.shaped m = true ∧ SeqAt.shaped n = true
      · rw [if_pos hz] at p
        exact op_eqD hu pins s σ H _ _ u v Q I r1 r2 ⟨m, n, dp_at st a1 h1, dp_at st a2 h2, hz.1, hz.2, post_val p st (.bl _)⟩
      · rw [if_neg hz] at p; exact p.elim
theorem dop_eq (hu : X.A.units + 64 < cLine) : DOp X W (compareOp .Eq) vEq := by
  intro pins s σ H S L Z Q d e x y u v I st a1 a2 r1 r2 p
  unfold vEq at p
  cases h : strs? d e with
  | none => rw [h] at p; exact dop_eq0 hu pins s σ H S L Z Q d e x y u v I st a1 a2 r1 r2 p
  | some z =>
    rw [h] at p
    obtain ⟨rfl, rfl⟩ := strs_some h
    cases a1; cases a2
    refine op_eq pins s σ H _ _ u v Q I r1 r2 ⟨rfl, ?_⟩
    have e : decide (V.str z.1 = V.str z.2) = decide (z.1 = z.2) := by rw [Bool.eq_iff_iff]; simp
    rw [e]
    exact post_val p st (.bl _)
theorem dop_ne0 (hu : X.A.units + 64 < cLine) : DOp X W (compareOp .NotEq) vNe0 := by
  intro pins s σ H S L Z Q d e x y u v I st a1 a2 r1 r2 p
  unfold vNe0 at p
  cases h1 : dataOf S d with
  | none => rw [h1] at p; exact p.elim
  | some m =>
    cases h2 : dataOf S e with
    | none => rw [h1, h2] at p; exact p.elim
    | some n =>
      rw [h1, h2] at p
      have p : PostV X W σ Z (if SeqAt.shaped m = true ∧ SeqAt.shaped n = true then .ok (.bl (!PyData.eqv m n)) S else .bad) H L Q := p
      by_cases hz : SeqAt.shaped m = true ∧ SeqAt.shaped n = true
      · rw [if_pos hz] at p
        exact op_neD hu pins s σ H _ _ u v Q I r1 r2 ⟨m, n, dp_at st a1 h1, dp_at st a2 h2, hz.1, hz.2, post_val p st (.bl _)⟩
      · rw [if_neg hz] at p; exact p.elim
theorem dop_ne (hu : X.A.units + 64 < cLine) : DOp X W (compareOp .NotEq) vNe := by
  intro pins s σ H S L Z Q d e x y u v I st a1 a2 r1 r2 p
  unfold vNe at p
  cases h : strs? d e with
  | none => rw [h] at p; exact dop_ne0 hu pins s σ H S L Z Q d e x y u v I st a1 a2 r1 r2 p
  | some z =>
    rw [h] at p
    obtain ⟨rfl, rfl⟩ := strs_some h
    cases a1; cases a2
    refine op_ne pins s σ H _ _ u v Q I r1 r2 ⟨rfl, ?_⟩
    have e : decide (V.str z.1 = V.str z.2) = decide (z.1 = z.2) := by rw [Bool.eq_iff_iff]; simp
    rw [e]
    exact post_val p st (.bl _)
theorem dop_cmp {f : Value → Value → Sem Value} {c : Int → Int → Bool} (ho : OpR X f (rI0 fun i j => .bl (c i j))) : DOp X W f (vCmp c) := by
  intro pins s σ H S L Z Q d e x y u v I st a1 a2 r1 r2 p
  cases d with
  | int i =>
    cases e with
    | int j =>
      cases a1; cases a2
      exact ho pins s σ H _ _ u v Q I r1 r2 ⟨i, j, rfl, rfl, post_val p st (.bl _)⟩
    | _ => exact (show False from p).elim
  | _ => exact (show False from p).elim
abbrev vLt := vCmp fun i j => decide (i < j)
abbrev vLe := vCmp fun i j => decide (i ≤ j)
abbrev vGt := vCmp fun i j => decide (j < i)
abbrev vGe := vCmp fun i j => decide (j ≤ i)
theorem dop_lt : DOp X W (compareOp .Lt) vLt := dop_cmp op_lt
theorem dop_le : DOp X W (compareOp .LtE) vLe := dop_cmp op_le
theorem dop_gt : DOp X W (compareOp .Gt) vGt := dop_cmp op_gt
theorem dop_ge : DOp X W (compareOp .GtE) vGe := dop_cmp op_ge
end
end Dn
namespace Dn
open PySem PySem.Spec PyProof.Rows L2
def eVar (i : Nat) : EM := fun r S => match r[i]? with
  | some (some d) => .ok d S
  | _ => .bad
def eC (d : PV) : EM := fun _ S => .ok d S
def eBin (g : PV → PV → Store → Res PV) (a b : EM) : EM := fun r S => (a r S).bind fun d S1 => (b r S1).bind fun e S2 => g d e S2
def eUn (g : PV → Store → Res PV) (a : EM) : EM := fun r S => (a r S).bind fun d S1 => g d S1
def lNil : LM := fun _ S => .ok [] S
def lCons (a : EM) (b : LM) : LM := fun r S => (a r S).bind fun d S1 => (b r S1).bind fun ds S2 => .ok (d :: ds) S2
def eTup (a : LM) : EM := fun r S => (a r S).bind fun ds S1 => if ds.length ≤ sizeLine then .ok (.tup ds) S1 else .bad
def eLst (a : LM) : EM := fun r S => (a r S).bind fun ds S1 => if ds.length ≤ sizeLine then .ok (.lst ds) S1 else .bad
def eIf (t : BM) (a b : EM) : EM := fun r S => (t r S).bind fun k S1 => if k = true then a r S1 else b r S1
def eCB (g : List PV → Store → Res PV) (a : LM) : EM := fun r S => (a r S).bind fun ds S1 => g ds S1
def asB (d : PV) (S : Store) : Res Bool := match d with
  | .bl k => .ok k S
  | _ => .bad
def bVal (a : EM) : BM := fun r S => (a r S).bind asB
def bAnd (a b : BM) : BM := fun r S => (a r S).bind fun k S1 => if k = true then b r S1 else .ok false S1
def bOr (a b : BM) : BM := fun r S => (a r S).bind fun k S1 => if k = true then .ok true S1 else b r S1
def bNot (a : BM) : BM := fun r S => (a r S).bind fun k S1 => .ok (!k) S1
def eAnd (a b : EM) : EM := fun r S => (bVal a r S).bind fun k S1 => if k = true then b r S1 else .ok (.bl false) S1
def eOr (a b : EM) : EM := fun r S => (bVal a r S).bind fun k S1 => if k = true then .ok (.bl true) S1 else b r S1
def eNot (a : EM) : EM := fun r S => (bVal a r S).bind fun k S1 => .ok (.bl (!k)) S1
def eChain (g h : PV → PV → Store → Res PV) (a b c : EM) : EM := fun r S => (a r S).bind fun d S1 => (b r S1).bind fun e S2 => (g d e S2).bind fun z S3 => (asB z S3).bind fun k S4 =>
  if k = true then (c r S4).bind fun f S5 => h e f S5 else .ok (.bl false) S4
section
variable {X : Cx} {W : WX} {a b c e : Expr} {fa fb fc : EM} {ba bb : BM} {es : List Expr} {la : LM} {pos : Pos}
theorem De.var {i : Nat} {x : Str} (hN : X.N[i]? = some x) (hv : Vis X.env.scope x) (hd : (x == ("__debug__" : Str)) = false := by decide) (hcd : (x == ("__classdict__" : Str)) = false := by decide) : De X W (.Name x pos) (eVar i) := by
  refine Jd.mk ?_
  intro pins s σ H r S L Z Q I sl st p
  unfold eVar at p
  cases h : r[i]? with
  | none => rw [h] at p; exact p.elim
  | some o =>
    cases o with
    | none => rw [h] at p; exact p.elim
    | some d =>
      rw [h] at p
      obtain ⟨v, e, av⟩ := sl i d h
      exact (pe_var hN hv hd hcd).run pins s σ H Q I ⟨v, e, post_val p st av⟩
theorem De.of {t : TE} {f : EM} (h : PE X e t) (hq : ∀ (σ : L2.St) (H : Hp) (r : Env1) (S : Store) (L Z : List Addr) (Q : VK), Sta X.K X.mg H L Z S → PostV X W σ Z (f r S) H L Q → t σ H Q) : De X W e f :=
  Jd.mk fun pins s σ H r S L Z Q I sl st p => h.run pins s σ H Q I (hq σ H r S L Z Q st p)
theorem De.int {i j} : De X W (.Constant (.int i) j pos) (eC (.int i)) := De.of pe_int fun σ H r S L Z Q st p => post_val p st (.int _)
theorem De.bl {i j} : De X W (.Constant (.bool i) j pos) (eC (.bl i)) := De.of pe_bl fun σ H r S L Z Q st p => post_val p st (.bl _)
theorem De.non {j} : De X W (.Constant .none j pos) (eC .non) := De.of pe_non fun σ H r S L Z Q st p => post_val p st .non
theorem De.str {i j} : De X W (.Constant (.str i) j pos) (eC (.str i)) := De.of pe_str fun σ H r S L Z Q st p => post_val p st (.str _)
theorem De.gInt {x : Str} {i : Int} {t : Tok} (hg : Gl X x) (hm : X.mg x = some (.int i t)) (hd : (x == ("__debug__" : Str)) = false := by decide) : De X W (.Name x pos) (eC (.int i)) :=
  De.of (pe_glob (v := .int i) hg hm ⟨_, rfl⟩ hd) fun σ H r S L Z Q st p => post_val p st (.int _)
theorem De.gStr {x : Str} {i : Str} {t : Tok} (hg : Gl X x) (hm : X.mg x = some (.str i t)) (hd : (x == ("__debug__" : Str)) = false := by decide) : De X W (.Name x pos) (eC (.str i)) :=
  De.of (pe_glob (v := .str i) hg hm ⟨_, rfl⟩ hd) fun σ H r S L Z Q st p => post_val p st (.str _)
theorem De.gCls {x : Str} {C : Addr} (hg : Gl X x) (hm : X.mg x = some (.ref C)) (hd : (x == ("__debug__" : Str)) = false := by decide) : De X W (.Name x pos) (eC (.cls x)) :=
  De.of (pe_glob (v := .ref C) hg hm rfl hd) fun σ H r S L Z Q st p => post_val p st (.cls hm)
theorem De.bty {x : Str} {n : String} (hg : Gl X x) (hm : X.mg x = none) (hv : bootBuiltins x = some (.type n)) (hn : x ≠ "__name__" := by decide) (hd : (x == ("__debug__" : Str)) = false := by decide) : De X W (.Name x pos) (eC (.ty n)) :=
  De.of (pe_bltn (v := .ty n) hg hm hv rfl hn hd) fun σ H r S L Z Q st p => post_val p st (.ty _)
theorem De.bin {op : Operator} {g : PV → PV → Store → Res PV} (ho : DOp X W (binaryOp op) g) (ha : De X W a fa) (hb : De X W b fb) : De X W (.BinOp a op b pos) (eBin g fa fb) := by
  refine Jd.mk ?_
  intro pins s σ H r S L Z Q I sl st p
  refine wpAny_BinOp (ha.step I sl st p fun d S1 x u s1 H1 L1 I1 r1 sl1 st1 x1 a1 p1 => ?_)
  refine hb.step I1 sl1 st1 p1 fun e S2 y v s2 H2 L2 I2 r2 sl2 st2 x2 a2 p2 => ?_
  exact ho pins s2 σ H2 S2 L2 Z Q d e x y u v I2 st2 (a1.mono x2) a2 r1 r2 p2
theorem De.un {op : UnaryOp} {g : PV → Store → Res PV} (ho : DU X W (unaryOp op) g) (ha : De X W a fa) : De X W (.UnaryOp op a pos) (eUn g fa) := by
  refine Jd.mk ?_
  intro pins s σ H r S L Z Q I sl st p
  exact UnaryOp_ (ha.step I sl st p fun d S1 x u s1 H1 L1 I1 r1 sl1 st1 x1 a1 p1 => ho pins s1 σ H1 S1 L1 Z Q d x u I1 st1 a1 r1 p1)
theorem De.cmp {op : CmpOp} {g : PV → PV → Store → Res PV} (ho : DOp X W (compareOp op) g) (ha : De X W a fa) (hb : De X W b fb) (hm : behindInMarks op b = false) : De X W (.Compare a [op] [b] pos) (eBin g fa fb) := by
  refine Jd.mk ?_
  intro pins s σ H r S L Z Q I sl st p
  refine wpAny_Compare1 (ha.step I sl st p fun d S1 x u s1 H1 L1 I1 r1 sl1 st1 x1 a1 p1 => ?_) hm
  refine hb.step I1 sl1 st1 p1 fun e S2 y v s2 H2 L2 I2 r2 sl2 st2 x2 a2 p2 => ?_
  exact ho pins s2 σ H2 S2 L2 Z Q d e x y u v I2 st2 (a1.mono x2) a2 r1 r2 p2
theorem DOp.step {β γ : Type} {f : Value → Value → Sem Value} {g : PV → PV → Store → Res PV} (ho : DOp X W f g) {pins : List (Addr × Obj)} {s : Shared} {σ : L2.St} {H : Hp} {r : Env1} {S : Store} {L Z : List Addr} {d e : PV} {x y : V} {u v : Value}
    (I : Inv X pins σ H s) (sl : Slots X.K X.mg H L Z r σ) (st : Sta X.K X.mg H L Z S) (a1 : At X.K X.mg H L Z d x) (a2 : At X.K X.mg H L Z e y) (r1 : RelV x u) (r2 : RelV y v) {k : PV → Store → Res β} {rel : Hp → List Addr → β → γ → Prop} {Q : γ → Hp → Prop}
    (p : Post X W σ Z rel ((g d e S).bind k) H L Q) {Qf : Value → Shared → Prop}
    (hk : ∀ d S1 v u s1 H1 L1, Inv X pins σ H1 s1 → RelV v u → Slots X.K X.mg H1 L1 Z r σ → Sta X.K X.mg H1 L1 Z S1 → Ext H L H1 L1 → At X.K X.mg H1 L1 Z d v → Post X W σ Z rel (k d S1) H1 L1 Q → Qf u s1) :
    wpAny (model X.prog X.w) X.A (f u v) Qf X.xe s := by
  cases q : g d e S with
  | ok z S1 =>
    rw [q] at p
    refine thn (ho pins s σ H S L Z (fun v H1 => ∃ L1, Ext H L H1 L1 ∧ Sta X.K X.mg H1 L1 Z S1 ∧ At X.K X.mg H1 L1 Z z v) d e x y u v I st a1 a2 r1 r2 (by rw [q]; exact fun v H' L' x y z => ⟨L', x, y, z⟩)) fun u s1 ⟨v, H1, I1, rv, L1, x1, st1, a1⟩ => ?_
    exact hk z S1 v u s1 H1 L1 I1 rv (sl.mono x1) st1 x1 a1 (p.ext x1)
  | err c S1 =>
    rw [q] at p
    exact thn (ho pins s σ H S L Z (fun v H1 => False) d e x y u v I st a1 a2 r1 r2 (by rw [q]; exact p)) fun u s1 ⟨v, H1, _, _, z⟩ => z.elim
  | bad => rw [q] at p; exact p.elim
theorem post_asB {β γ : Type} {σ : L2.St} {Z : List Addr} {rel : Hp → List Addr → β → γ → Prop} {d : PV} {S : Store} {k : Bool → Store → Res β} {H : Hp} {L : List Addr} {Q : γ → Hp → Prop} {v : V} {u : Value} (p : Post X W σ Z rel ((asB d S).bind k) H L Q)
    (a : At X.K X.mg H L Z d v) (r : RelV v u) : ∃ b, u = Value.bool b ∧ Post X W σ Z rel (k b S) H L Q := by
  cases d with
  | bl b => cases a; cases r; exact ⟨b, rfl, p⟩
  | _ => exact (show False from p).elim
theorem De.chain {op op' : CmpOp} {g h : PV → PV → Store → Res PV} (ho : DOp X W (compareOp op) g) (ho' : DOp X W (compareOp op') h) (ha : De X W a fa) (hb : De X W b fb) (hc : De X W c fc)
    (hm : lastMarks [op, op'] [b, c] = false := by with_unfolding_all rfl) : De X W (.Compare a [op, op'] [b, c] pos) (eChain g h fa fb fc) := by
  refine Jd.mk ?_
  intro pins s σ H r S L Z Q I sl st p
  refine Compare_chain (ha.step I sl st p fun d S1 x u s1 H1 L1 I1 r1 sl1 st1 x1 a1 p1 => chain_link (hb.step I1 sl1 st1 p1 fun e S2 y v s2 H2 L2 I2 r2 sl2 st2 x2 a2 p2 =>
    ho.step I2 sl2 st2 (a1.mono x2) a2 r1 r2 p2 fun z S3 w u3 s3 H3 L3 I3 r3 sl3 st3 x3 a3 p3 => ?_)) hm
  obtain ⟨k, rfl, p4⟩ := post_asB p3 a3 r3
  refine wpAny_truthy_bool ?_
  cases k with
  | false => exact ite_ff ⟨.bl false, H3, I3, rfl, post_val p4 st3 (.bl _)⟩
  | true =>
    have p4 : PostV X W σ Z ((fc r S3).bind fun f S5 => h e f S5) H3 L3 Q := p4
    exact ite_tt (chain_last (hc.step I3 sl3 st3 p4 fun f S5 z5 u5 s5 H5 L5 I5 r5 sl5 st5 x5 a5 p5 => ho' pins s5 σ H5 S5 L5 Z Q e f y z5 v u5 I5 st5 ((a2.mono x3).mono x5) a5 r2 r5 p5))
theorem DA.nil : DA X W [] lNil := by
  refine Jd.mk ?_
  intro pos pins s σ H r S L Z Q I sl st p
  exact Calls.spliced_nil ⟨[], H, I, .nil, p [] H L (Ext.refl H L) st .nil⟩
theorem DA.cons (ha : De X W e fa) (hr : DA X W es la) (hs : starEach (e :: es) X.env = (false, eval e X.env) :: starEach es X.env := by rfl) : DA X W (e :: es) (lCons fa la) := by
  refine Jd.mk ?_
  intro pos pins s σ H r S L Z Q I sl st p
  rw [hs]
  show wpAny _ _ (spliced ((false, eval e X.env) :: backTo pos (starEach es X.env))) _ _ s
  refine Calls.spliced_cons (ha.step I sl st p fun d S1 x u s1 H1 L1 I1 r1 sl1 st1 x1 a1 p1 => ?_)
  refine hr.step pos I1 sl1 st1 p1 fun ds S2 xs us s2 H2 L2 I2 r2 sl2 st2 x2 a2 p2 => ?_
  exact ⟨x :: xs, H2, I2, .cons r1 r2, p2 (x :: xs) H2 L2 (Ext.refl H2 L2) st2 (.cons (a1.mono x2) a2)⟩
theorem De.tup {x1} (h : DA X W es la) : De X W (.Tuple es x1 pos) (eTup la) := by
  refine Jd.mk ?_
  intro pins s σ H r S L Z Q I sl st p
  refine wpAny_Tuple_spliced (h.step pos I sl st p fun ds S1 xs us s1 H1 L1 I1 r1 sl1 st1 x1 a1 p1 => ?_)
  have hl := a1.len
  by_cases hz : ds.length ≤ sizeLine
  · rw [if_pos hz] at p1
    have hf : H1 s1.heap.objs.size = none := I1.hok.fresh (Nat.le_refl _)
    refine ⟨by rw [← r1.length, ← hl]; exact hz, .ref s1.heap.objs.size, upd H1 s1.heap.objs.size (.tup xs), I1.laid (t' := s1.toks) (fun b u e => Heap.get?_push_of_some _ e) (Nat.le_refl _) ?_, rfl, post_tup p1 st1 a1 _ hf⟩
    exact ⟨by rw [← hl]; exact hz, us, r1, ⟨_, Heap.get?_push_size _ rfl, rfl, _, rfl⟩⟩
  · rw [if_neg hz] at p1; exact p1.elim
theorem De.lst (h : DA X W es la) : De X W (.List es pos) (eLst la) := by
  refine Jd.mk ?_
  intro pins s σ H r S L Z Q I sl st p
  refine wpAny_List_spliced (h.step pos I sl st p fun ds S1 xs us s1 H1 L1 I1 r1 sl1 st1 x1 a1 p1 => ?_)
  have hl := a1.len
  by_cases hz : ds.length ≤ sizeLine
  · rw [if_pos hz] at p1
    have hf : H1 s1.heap.objs.size = none := I1.hok.fresh (Nat.le_refl _)
    refine ⟨by rw [← r1.length, ← hl]; exact hz, .ref s1.heap.objs.size, upd H1 s1.heap.objs.size (.lst xs), I1.laid (t' := s1.toks) (fun b u e => Heap.get?_push_of_some _ e) (Nat.le_refl _) ?_, rfl, post_lst p1 st1 a1 _ hf⟩
    exact ⟨by rw [← hl]; exact hz, us, 0, r1, Heap.get?_push_size _ rfl⟩
  · rw [if_neg hz] at p1; exact p1.elim
theorem De.callB {x : Str} {id : String} {g : List PV → Store → Res PV} {p' : Pos} (hc : DC X W (.builtin id) g) (hg : Gl X x) (hm : X.mg x = none) (hv : bootBuiltins x = some (.builtin id)) (ha : DA X W (e :: es) la) (hn : x ≠ "__name__" := by decide) (hdb : (x == ("__debug__" : Str)) = false := by decide)
    (he : starEach (e :: es) X.env = (false, eval e X.env) :: starEach es X.env := by rfl) (hpl : (backTo pos (starEach es X.env)).any (·.1) = false := by rfl) : De X W (.Call (.Name x p') (e :: es) [] pos) (eCB g la) := by
  refine Jd.mk ?_
  intro pins s σ H r S L Z Q I sl st p
  refine wpAny_Call_Name_kw (ld_blt I hg hm hv ?_ hn hdb)
  exact PyProof.Rows.callWith_builtin1 (ha.step pos I sl st p fun ds S1 xs us s1 H1 L1 I1 r1 sl1 st1 x1 a1 p1 => hc pins s1 σ H1 S1 L1 Z Q ds xs us I1 st1 a1 r1 p1) he hpl
theorem De.callTy {x : Str} {T : String} {g : List PV → Store → Res PV} {p' : Pos} (hc : DC X W (.type T) g) (hg : Gl X x) (hm : X.mg x = none) (hv : bootBuiltins x = some (.type T)) (ha : DA X W (e :: es) la) (hn : x ≠ "__name__" := by decide) (hdb : (x == ("__debug__" : Str)) = false := by decide)
    (he : starEach (e :: es) X.env = (false, eval e X.env) :: starEach es X.env := by rfl) (hpl : (backTo pos (starEach es X.env)).any (·.1) = false := by rfl) : De X W (.Call (.Name x p') (e :: es) [] pos) (eCB g la) := by
  refine Jd.mk ?_
  intro pins s σ H r S L Z Q I sl st p
  refine wpAny_Call_Name_kw (ld_blt I hg hm hv ?_ hn hdb)
  exact PyProof.Rows.callWith_type1 (ha.step pos I sl st p fun ds S1 xs us s1 H1 L1 I1 r1 sl1 st1 x1 a1 p1 => hc pins s1 σ H1 S1 L1 Z Q ds xs us I1 st1 a1 r1 p1) he hpl
theorem post_b {σ : L2.St} {Z : List Addr} {k : Bool} {S : Store} {H : Hp} {L : List Addr} {Q : Bool → Hp → Prop} (p : PostB X W σ Z (.ok k S) H L Q) (st : Sta X.K X.mg H L Z S) : Q k H := p k H L (Ext.refl H L) st rfl
theorem post_asB' {σ : L2.St} {Z : List Addr} {d : PV} {S : Store} {H : Hp} {L : List Addr} {Q : Bool → Hp → Prop} {v : V} {u : Value} (p : PostB X W σ Z (asB d S) H L Q) (st : Sta X.K X.mg H L Z S)
    (a : At X.K X.mg H L Z d v) (r : RelV v u) : ∃ b, u = Value.bool b ∧ Q b H := by
  cases d with
  | bl b => cases a; cases r; exact ⟨b, rfl, post_b p st⟩
  | _ => exact (show False from p).elim
theorem DT.val (ha : De X W a fa) (he : ∀ whole, isTrue a X.env whole = (do let v ← whole; standAt a.pos; holding [v] (truthy v)) := by intro _; rfl) : DT X W a (bVal fa) := by
  refine Jd.mk ?_
  intro pins s σ H r S L Z Q I sl st p
  refine isTrue_plain (ha.step I sl st p fun d S1 x u s1 H1 L1 I1 r1 sl1 st1 x1 a1 p1 => ?_) (he _)
  obtain ⟨b, rfl, q⟩ := post_asB' p1 st1 a1 r1
  exact wpAny_truthy_bool ⟨H1, I1, q⟩
theorem DT.cmp {op : CmpOp} {g : PV → PV → Store → Res PV} (ho : DOp X W (compareOp op) g) (ha : De X W a fa) (hb : De X W b fb) (hm : behindInMarks op b = false) : DT X W (.Compare a [op] [b] pos) (bVal (eBin g fa fb)) := by
  refine Jd.mk ?_
  intro pins s σ H r S L Z Q I sl st p
  have p : PostB X W σ Z ((fa r S).bind fun d S1 => (fb r S1).bind fun e S2 => (g d e S2).bind asB) H L Q := by
    have e : bVal (eBin g fa fb) r S = ((fa r S).bind fun d S1 => (fb r S1).bind fun e S2 => (g d e S2).bind asB) := by
      unfold bVal eBin
      rw [Res.bind_assoc]
      congr 1
      funext d S1
      rw [Res.bind_assoc]
    rw [← e]; exact p
  refine wpAny_isTrue_Compare1 (ha.step I sl st p fun d S1 x u s1 H1 L1 I1 r1 sl1 st1 x1 a1 p1 => ?_) hm
  refine hb.step I1 sl1 st1 p1 fun e S2 y v s2 H2 L2 I2 r2 sl2 st2 x2 a2 p2 => ?_
  refine ho.step I2 sl2 st2 (a1.mono x2) a2 r1 r2 p2 fun z S3 w u3 s3 H3 L3 I3 r3 sl3 st3 x3 a3 p3 => ?_
  obtain ⟨k, rfl, q⟩ := post_asB' p3 st3 a3 r3
  exact wpAny_truthy_bool ⟨H3, I3, q⟩
theorem DT.chain {op op' : CmpOp} {g h : PV → PV → Store → Res PV} (ho : DOp X W (compareOp op) g) (ho' : DOp X W (compareOp op') h) (ha : De X W a fa) (hb : De X W b fb) (hc : De X W c fc)
    (hm : lastMarks [op, op'] [b, c] = false := by with_unfolding_all rfl) : DT X W (.Compare a [op, op'] [b, c] pos) (bVal (eChain g h fa fb fc)) := by
  refine Jd.mk ?_
  intro pins s σ H r S L Z Q I sl st p
  have e : bVal (eChain g h fa fb fc) r S = ((fa r S).bind fun d S1 => (fb r S1).bind fun e S2 => (g d e S2).bind fun z S3 => (asB z S3).bind fun k S4 =>
      (if k = true then (fc r S4).bind fun f S5 => h e f S5 else .ok (.bl false) S4).bind asB) := by
    unfold bVal eChain
    simp only [Res.bind_assoc]
  rw [e] at p
  refine isTrue_chain (ha.step I sl st p fun d S1 x u s1 H1 L1 I1 r1 sl1 st1 x1 a1 p1 => test_link (hb.step I1 sl1 st1 p1 fun e S2 y v s2 H2 L2 I2 r2 sl2 st2 x2 a2 p2 =>
    ho.step I2 sl2 st2 (a1.mono x2) a2 r1 r2 p2 fun z S3 w u3 s3 H3 L3 I3 r3 sl3 st3 x3 a3 p3 => ?_)) hm
  obtain ⟨k, rfl, p4⟩ := post_asB p3 a3 r3
  refine wpAny_truthy_bool ?_
  cases k with
  | false => exact ite_ff ⟨H3, I3, post_b (show PostB X W σ Z (.ok false S3) H3 L3 Q from p4) st3⟩
  | true =>
    have p4 : PostB X W σ Z (((fc r S3).bind fun f S5 => h e f S5).bind asB) H3 L3 Q := p4
    rw [Res.bind_assoc] at p4
    refine ite_tt (test_last (hc.step I3 sl3 st3 p4 fun f S5 z5 u5 s5 H5 L5 I5 r5 sl5 st5 x5 a5 p5 => ho'.step I5 sl5 st5 ((a2.mono x3).mono x5) a5 r2 r5 p5 fun z6 S6 w6 u6 s6 H6 L6 I6 r6 sl6 st6 x6 a6 p6 => ?_))
    obtain ⟨k6, rfl, q6⟩ := post_asB' p6 st6 a6 r6
    exact wpAny_truthy_bool ⟨H6, I6, q6⟩
theorem DW.dt (h : DW X W e ba) : DT X W e ba := Jd.mk fun pins s σ H r S L Z Q I sl st p => h.out _ pins s σ H r S L Z Q I sl st p
variable {rest : List Expr}
theorem DW.and1 (ha : DT X W a ba) : DW X W (.BoolOp .And [a] pos) ba := by
  refine Jd.mk ?_
  intro wh pins s σ H r S L Z Q I sl st p
  refine isTrue_and (thn (ha.out pins s σ H r S L Z Q I sl st p) fun c s1 e => ?_)
  cases c with
  | true => exact isTrue_and_nil e
  | false => exact e
theorem DW.or1 (ha : DT X W a ba) : DW X W (.BoolOp .Or [a] pos) ba := by
  refine Jd.mk ?_
  intro wh pins s σ H r S L Z Q I sl st p
  refine isTrue_or (thn (ha.out pins s σ H r S L Z Q I sl st p) fun c s1 e => ?_)
  cases c with
  | false => exact isTrue_or_nil e
  | true => exact e
theorem DW.and (ha : DT X W a ba) (hb : DW X W (.BoolOp .And (b :: rest) pos) bb) : DW X W (.BoolOp .And (a :: b :: rest) pos) (bAnd ba bb) := by
  refine Jd.mk ?_
  intro wh pins s σ H r S L Z Q I sl st p
  refine isTrue_and (ha.step I sl st p fun k S1 s1 H1 L1 I1 sl1 st1 x1 p1 => ?_)
  cases k with
  | true => exact hb.out wh pins s1 σ H1 r S1 L1 Z Q I1 sl1 st1 p1
  | false => exact ⟨H1, I1, post_b (show PostB X W σ Z (.ok false S1) H1 L1 Q from p1) st1⟩
theorem DW.or (ha : DT X W a ba) (hb : DW X W (.BoolOp .Or (b :: rest) pos) bb) : DW X W (.BoolOp .Or (a :: b :: rest) pos) (bOr ba bb) := by
  refine Jd.mk ?_
  intro wh pins s σ H r S L Z Q I sl st p
  refine isTrue_or (ha.step I sl st p fun k S1 s1 H1 L1 I1 sl1 st1 x1 p1 => ?_)
  cases k with
  | true => exact ⟨H1, I1, post_b (show PostB X W σ Z (.ok true S1) H1 L1 Q from p1) st1⟩
  | false => exact hb.out wh pins s1 σ H1 r S1 L1 Z Q I1 sl1 st1 p1
theorem DT.not (ha : DT X W a ba) : DT X W (.UnaryOp .Not a pos) (bNot ba) := by
  refine Jd.mk ?_
  intro pins s σ H r S L Z Q I sl st p
  refine isTrue_not (ha.step I sl st p fun k S1 s1 H1 L1 I1 sl1 st1 x1 p1 => ?_)
  exact ⟨H1, I1, post_b (show PostB X W σ Z (.ok (!k) S1) H1 L1 Q from p1) st1⟩
theorem De.one {op} (h : De X W a fa) : De X W (.BoolOp op [a] pos) fa := Jd.mk fun pins s σ H r S L Z Q I sl st p => BoolOp_one (h.out pins s σ H r S L Z Q I sl st p)
theorem bVal_bind {β : Type} (f : EM) (r : Env1) (S : Store) (k : Bool → Store → Res β) : (bVal f r S).bind k = (f r S).bind fun d S1 => (asB d S1).bind k := by unfold bVal; rw [Res.bind_assoc]
theorem De.and (ha : De X W a fa) (hb : De X W (.BoolOp .And (b :: rest) pos) fb) : De X W (.BoolOp .And (a :: b :: rest) pos) (eAnd fa fb) := by
  refine Jd.mk ?_
  intro pins s σ H r S L Z Q I sl st p
  unfold eAnd at p
  rw [bVal_bind] at p
  refine BoolOp_and (ha.step I sl st p fun d S1 x u s1 H1 L1 I1 r1 sl1 st1 x1 a1 p1 => ?_)
  obtain ⟨k, rfl, p2⟩ := post_asB p1 a1 r1
  refine wpAny_truthy_bool ?_
  cases k with
  | true => exact hb.out pins s1 σ H1 r S1 L1 Z Q I1 sl1 st1 p2
  | false => exact ⟨.bl false, H1, I1, rfl, post_val (show PostV X W σ Z (.ok (.bl false) S1) H1 L1 Q from p2) st1 (.bl _)⟩
theorem De.or (ha : De X W a fa) (hb : De X W (.BoolOp .Or (b :: rest) pos) fb) : De X W (.BoolOp .Or (a :: b :: rest) pos) (eOr fa fb) := by
  refine Jd.mk ?_
  intro pins s σ H r S L Z Q I sl st p
  unfold eOr at p
  rw [bVal_bind] at p
  refine BoolOp_or (ha.step I sl st p fun d S1 x u s1 H1 L1 I1 r1 sl1 st1 x1 a1 p1 => ?_)
  obtain ⟨k, rfl, p2⟩ := post_asB p1 a1 r1
  refine wpAny_truthy_bool ?_
  cases k with
  | false => exact hb.out pins s1 σ H1 r S1 L1 Z Q I1 sl1 st1 p2
  | true => exact ⟨.bl true, H1, I1, rfl, post_val (show PostV X W σ Z (.ok (.bl true) S1) H1 L1 Q from p2) st1 (.bl _)⟩
theorem De.not (ha : De X W a fa) : De X W (.UnaryOp .Not a pos) (eNot fa) := by
  refine Jd.mk ?_
  intro pins s σ H r S L Z Q I sl st p
  unfold eNot at p
  rw [bVal_bind] at p
  refine UnaryOp_ (ha.step I sl st p fun d S1 x u s1 H1 L1 I1 r1 sl1 st1 x1 a1 p1 => ?_)
  obtain ⟨k, rfl, p2⟩ := post_asB p1 a1 r1
  exact not_of (wpAny_truthy_bool ⟨.bl (!k), H1, I1, rfl, post_val (show PostV X W σ Z (.ok (.bl (!k)) S1) H1 L1 Q from p2) st1 (.bl _)⟩)
theorem De.ifExp (hc : DT X W c ba) (ha : De X W a fa) (hb : De X W b fb) : De X W (.IfExp c a b pos) (eIf ba fa fb) := by
  refine Jd.mk ?_
  intro pins s σ H r S L Z Q I sl st p
  refine wpAny_IfExp (hc.step I sl st p fun k S1 s1 H1 L1 I1 sl1 st1 x1 p1 => ?_)
  cases k with
  | true => exact ha.out pins s1 σ H1 r S1 L1 Z Q I1 sl1 st1 p1
  | false => exact hb.out pins s1 σ H1 r S1 L1 Z Q I1 sl1 st1 p1
end
end Dn
namespace Dn
open PySem PySem.Spec PyProof.Rows L2
def vIx (d e : PV) (S : Store) : Res PV := match e with
  | .int i => (match d with
    | .str x => if x.length ≤ sizeLine then (match atI x.cps.toList i with
      | some c => .ok (.str ⟨#[c]⟩) S
      | none => .bad) else .bad
    | _ => match seqOf S d with
      | some xs => ofO (atI xs i) S
      | none => .bad)
  | _ => .bad
section
variable {K : PySem.W.Frag} {mg : Str → Option Value} {H : Hp} {L Z : List Addr} {S : Store}
theorem Ats.atI {ds : List PV} {vs : List V} {i : Int} {d : PV} (a : Ats K mg H L Z ds vs) (h : L2.atI ds i = some d) : ∃ v, L2.atI vs i = some v ∧ At K mg H L Z d v := by
  unfold L2.atI at h ⊢
  rw [← a.len]
  cases e : ixN ds.length i with
  | none => rw [e] at h; cases h
  | some j => rw [e] at h; exact a.get h
end
section
variable {X : Cx} {W : WX} {a b c e : Expr} {fa fb fc : EM} {ba bb : BM} {es : List Expr} {la : LM} {pos : Pos}
theorem De.ix (ha : De X W a fa) (hb : De X W b fb) (hs : PlainIx b := by exact fun _ _ => rfl) : De X W (.Subscript a b pos) (eBin vIx fa fb) := by
  refine Jd.mk ?_
  intro pins s σ H r S L Z Q I sl st p
  refine Subscript_ (ha.step I sl st p fun d S1 x u s1 H1 L1 I1 r1 sl1 st1 x1 a1 p1 => ?_)
  refine hb.step I1 sl1 st1 p1 fun e S2 y v s2 H2 L2 I2 r2 sl2 st2 x2 a2 p2 => ?_
  have a1 := a1.mono x2
  cases e with
  | int i =>
    cases a2
    have gen : ∀ xs, seqOf S2 d = some xs → PostV X W σ Z (ofO (atI xs i) S2) H2 L2 Q → wpAny (model X.prog X.w) X.A (subscriptTail a b u v) (EP X pins σ Q) X.xe s2 := fun xs h p => by
      cases hz : atI xs i with
      | none => rw [hz] at p; exact p.elim
      | some z =>
        rw [hz] at p
        obtain ⟨q, vs, rfl, hq, b1⟩ := seq_at st2 a1 h
        obtain ⟨w, e1, aw⟩ := b1.atI hz
        have fin := post_val p st2 aw
        rcases hq with hq | hq
        · exact ix_list a b pins s2 σ H2 _ _ u v Q I2 r1 r2 ⟨q, vs, i, w, rfl, rfl, hq, e1, fin⟩ (hs _ _)
        · exact ix_tup a b pins s2 σ H2 _ _ u v Q I2 r1 r2 ⟨q, vs, i, w, rfl, rfl, hq, e1, fin⟩ (hs _ _)
    have gen2 : PostV X W σ Z (match seqOf S2 d with
      | some xs => ofO (atI xs i) S2
      | none => .bad) H2 L2 Q → wpAny (model X.prog X.w) X.A (subscriptTail a b u v) (EP X pins σ Q) X.xe s2 := fun p => by
      cases h : seqOf S2 d with
      | none => rw [h] at p; exact p.elim
      | some xs => rw [h] at p; exact gen xs h p
    cases d with
    | str z =>
      have p2 : PostV X W σ Z (if z.length ≤ sizeLine then (match atI z.cps.toList i with
        | some c => .ok (.str ⟨#[c]⟩) S2
        | none => .bad) else .bad) H2 L2 Q := p2
      by_cases hz : z.length ≤ sizeLine
      · rw [if_pos hz] at p2
        cases hc : atI z.cps.toList i with
        | none => rw [hc] at p2; exact p2.elim
        | some c =>
          rw [hc] at p2
          cases a1
          exact ix_str a b pins s2 σ H2 _ _ u v Q I2 r1 r2 ⟨z, i, c, rfl, rfl, hz, hc, post_val p2 st2 (.str _)⟩ (hs _ _)
      · rw [if_neg hz] at p2; exact p2.elim
    | non => exact gen2 p2
    | bl _ => exact gen2 p2
    | int _ => exact gen2 p2
    | tup _ => exact gen2 p2
    | lst _ => exact gen2 p2
    | obj _ _ => exact gen2 p2
    | loc _ => exact gen2 p2
    | scr _ => exact gen2 p2
    | ty _ => exact gen2 p2
    | cls _ => exact gen2 p2
    | exc _ => exact gen2 p2
    | dic _ => exact gen2 p2
    | tub _ => exact gen2 p2
    | dik _ => exact gen2 p2
  | _ => exact (show False from p2).elim
abbrev OM := Env1 → Store → Res (Option Int)
abbrev PostO (X : Cx) (W : WX) (σ : L2.St) (Z : List Addr) := Post X W σ Z (fun _ _ (d : Option Int) (v : Option Int) => d = v)
def DO (X : Cx) (W : WX) (e : Option Expr) (f : OM) : Prop := Jd (
  ∀ (pins : List (Addr × Obj)) (s : Shared) (σ : L2.St) (H : Hp) (r : Env1) (S : Store) (L Z : List Addr) (Q : Option Int → Hp → Prop), Inv X pins σ H s → Slots X.K X.mg H L Z r σ → Sta X.K X.mg H L Z S → PostO X W σ Z (f r S) H L Q →
    wpAny (model X.prog X.w) X.A (evalPart e X.env) (fun u s' => ∃ o H', Inv X pins σ H' s' ∧ IsPart u o ∧ Q o H') X.xe s)
def oNone : OM := fun _ S => .ok none S
def asI (d : PV) (S : Store) : Res (Option Int) := match d with
  | .int i => .ok (some i) S
  | _ => .bad
def oSome (a : EM) : OM := fun r S => (a r S).bind asI
theorem DO.none : DO X W none oNone := by
  refine Jd.mk ?_
  intro pins s σ H r S L Z Q I sl st p
  exact po_none.run pins s σ H Q I (p _ H L (Ext.refl H L) st rfl)
theorem DO.some (h : De X W e fa) : DO X W (some e) (oSome fa) := by
  refine Jd.mk ?_
  intro pins s σ H r S L Z Q I sl st p
  -- the part as HandS has it, its reading the run of e
  refine (po_some (te := fun σ' H' Q' => (σ' = σ ∧ H' = H ∧ Q' = fun x H1 => ∃ i, x = V.int i ∧ Q (Option.some i) H1)) ⟨fun pins' s' σ' H' Q' I' h' => ?_⟩).run pins s σ H Q I ⟨rfl, rfl, rfl⟩
  obtain ⟨rfl, rfl, rfl⟩ := h'
  refine h.step I' sl st p fun d S1 x u s1 H1 L1 I1 r1 sl1 st1 x1 a1 p1 => ?_
  cases d with
  | int i => cases a1; exact ⟨.int i, H1, I1, r1, i, rfl, p1 _ H1 L1 (Ext.refl H1 L1) st1 rfl⟩
  | _ => exact (show False from p1).elim
def cutP (xs : List PV) (lo hi : Option Int) : List PV := (xs.drop (HT.sIx xs.length 0 lo)).take (HT.sIx xs.length xs.length hi - HT.sIx xs.length 0 lo)
def vSl (d : PV) (lo hi : Option Int) (S : Store) : Res PV := match d with
  | .str x => if x.length ≤ sizeLine then .ok (.str (cutS x lo hi)) S else .bad
  | .tup xs => .ok (.tup (cutP xs lo hi)) S
  | _ => match lstOf S d with
    | some xs => .ok (.lst (cutP xs lo hi)) S
    | none => .bad
def eSl (a : EM) (l h : OM) : EM := fun r S => (a r S).bind fun d S1 => (l r S1).bind fun lo S2 => (h r S2).bind fun hi S3 => vSl d lo hi S3
theorem DO.step {β γ : Type} {o : Option Expr} {f : OM} (ha : DO X W o f) {pins : List (Addr × Obj)} {s : Shared} {σ : L2.St} {H : Hp} {r : Env1} {S : Store} {L Z : List Addr} (I : Inv X pins σ H s) (sl : Slots X.K X.mg H L Z r σ) (st : Sta X.K X.mg H L Z S) {g : Option Int → Store → Res β} {rel : Hp → List Addr → β → γ → Prop} {Q : γ → Hp → Prop}
    (p : Post X W σ Z rel ((f r S).bind g) H L Q) {Qf : Value → Shared → Prop}
    (hk : ∀ d S1 u s1 H1 L1, Inv X pins σ H1 s1 → IsPart u d → Slots X.K X.mg H1 L1 Z r σ → Sta X.K X.mg H1 L1 Z S1 → Ext H L H1 L1 → Post X W σ Z rel (g d S1) H1 L1 Q → Qf u s1) :
    wpAny (model X.prog X.w) X.A (evalPart o X.env) Qf X.xe s := by
  cases q : f r S with
  | ok d S1 =>
    rw [q] at p
    refine thn (ha.out pins s σ H r S L Z (fun v H1 => d = v ∧ ∃ L1, Ext H L H1 L1 ∧ Sta X.K X.mg H1 L1 Z S1) I sl st (by rw [q]; exact fun v H' L' x y z => ⟨z, L', x, y⟩)) fun u s1 ⟨v, H1, I1, pv, e1, L1, x1, st1⟩ => ?_
    subst e1
    exact hk d S1 u s1 H1 L1 I1 pv (sl.mono x1) st1 x1 (p.ext x1)
  | err c S1 =>
    rw [q] at p
    exact thn (ha.out pins s σ H r S L Z (fun v H1 => False) I sl st (by rw [q]; exact p)) fun u s1 ⟨v, H1, _, _, z⟩ => z.elim
  | bad => rw [q] at p; exact p.elim
theorem Ats.cut {K : PySem.W.Frag} {mg : Str → Option Value} {H : Hp} {L Z : List Addr} {ds : List PV} {vs : List V} (a : Ats K mg H L Z ds vs) (lo hi : Option Int) : Ats K mg H L Z (cutP ds lo hi) (cutV vs lo hi) := by
  unfold cutP cutV
  rw [a.len]
  exact (a.drop _).take _
theorem cut_all {α : Type} {xs : List α} {lo hi : Option Int} (h : HT.sIx xs.length 0 lo = 0 ∧ HT.sIx xs.length xs.length hi = xs.length) : (xs.drop (HT.sIx xs.length 0 lo)).take (HT.sIx xs.length xs.length hi - HT.sIx xs.length 0 lo) = xs := by
  rw [h.1, h.2]; simp
theorem De.slice {lo hi : Option Expr} {p2 : Pos} {fl fh : OM} (ha : De X W a fa) (hl : DO X W lo fl) (hu : DO X W hi fh) : De X W (.Subscript a (.Slice lo hi none p2) pos) (eSl fa fl fh) := by
  refine Jd.mk ?_
  intro pins s σ H r S L Z Q I sl st p
  refine Subscript_ (ha.step I sl st p fun d S1 x v s1 H1 L1 I1 r1 sl1 st1 x1 a1 p1 => ?_)
  refine wpAny_Slice (hl.step I1 sl1 st1 p1 fun l S2 vl s2 H2 L2 I2 pl sl2 st2 x2 pq => hu.step I2 sl2 st2 pq fun u S3 vu s3 H3 L3 I3 pu sl3 st3 x3 p3 => ?_)
  have a3 := (a1.mono x2).mono x3
  rw [evalPart_none]
  refine wpAny_pure ?_
  have I4 : Inv X pins σ H3 { s3 with heap := s3.heap.push { cls := .type "slice", data := .fields #[vl, vu, .none] } } := I3.kept (t' := s3.toks) fun b ob q => Heap.get?_push_of_some _ q
  have hget : ∃ T id, typeLookup (.type T) "__getitem__" = pure (some (.builtin id)) ∧ Shared.TypeIs { s3 with heap := s3.heap.push { cls := .type "slice", data := .fields #[vl, vu, .none] } } v T ∧ wpAny (model X.prog X.w) X.A (getItem v (.ref s3.heap.objs.size)) (EP X pins σ Q) X.xe { s3 with heap := s3.heap.push { cls := .type "slice", data := .fields #[vl, vu, .none] } } := by
    have gen : PostV X W σ Z (match lstOf S3 d with
        | some xs => .ok (.lst (cutP xs l u)) S3
        | none => .bad) H3 L3 Q → ∃ T id, typeLookup (.type T) "__getitem__" = pure (some (.builtin id)) ∧ Shared.TypeIs { s3 with heap := s3.heap.push { cls := .type "slice", data := .fields #[vl, vu, .none] } } v T ∧ wpAny (model X.prog X.w) X.A (getItem v (.ref s3.heap.objs.size)) (EP X pins σ Q) X.xe { s3 with heap := s3.heap.push { cls := .type "slice", data := .fields #[vl, vu, .none] } } := fun p => by
      cases h : lstOf S3 d with
      | none => rw [h] at p; exact p.elim
      | some xs =>
        rw [h] at p
        obtain ⟨q, vs, rfl, e1, b1⟩ := lst_at st3 a3 h
        exact sl_list pins _ σ H3 _ v vl vu l u s3.heap.objs.size Q I4 r1 (Heap.IsSliceOf.new ..) pl pu ⟨q, vs, rfl, .of e1, post_lst p st3 (b1.cut l u)⟩
    cases d with
    | str z =>
      have p3 : PostV X W σ Z (if z.length ≤ sizeLine then .ok (.str (cutS z l u)) S3 else .bad) H3 L3 Q := p3
      cases a3
      by_cases hz : z.length ≤ sizeLine
      · rw [if_pos hz] at p3
        exact sl_str pins _ σ H3 _ v vl vu l u s3.heap.objs.size Q I4 r1 (Heap.IsSliceOf.new ..) pl pu ⟨z, rfl, hz, post_val p3 st3 (.str _)⟩
      · rw [if_neg hz] at p3; exact p3.elim
    | tup xs =>
      have a3' := a3
      cases a3 with
      | tup h1 b1 =>
        refine sl_tupA pins _ σ H3 _ v vl vu l u s3.heap.objs.size Q I4 r1 (Heap.IsSliceOf.new ..) pl pu ⟨_, _, rfl, h1, fun e => ?_, fun _ => post_tup p3 st3 (b1.cut l u)⟩
        rw [← b1.len] at e
        have p3 : PostV X W σ Z (.ok (.tup (cutP xs l u)) S3) H3 L3 Q := p3
        rw [show cutP xs l u = xs from cut_all e] at p3
        exact post_val p3 st3 a3'
    | non => exact gen p3
    | bl _ => exact gen p3
    | int _ => exact gen p3
    | lst _ => exact gen p3
    | obj _ _ => exact gen p3
    | loc _ => exact gen p3
    | scr _ => exact gen p3
    | ty _ => exact gen p3
    | cls _ => exact gen p3
    | exc _ => exact gen p3
    | dic _ => exact gen p3
    | tub _ => exact gen p3
    | dik _ => exact gen p3
  obtain ⟨T, id, hT, ht, hg⟩ := hget
  show wpAny (model X.prog X.w) X.A (subscriptTail a (.Slice lo hi none p2) v (.ref s3.heap.objs.size)) (EP X pins σ Q) X.xe { s3 with heap := s3.heap.push { cls := .type "slice", data := .fields #[vl, vu, .none] } }
  exact tail_any (ops := [.ref s3.heap.objs.size, v]) ht hT hg (by with_unfolding_all rfl)
end
def ints? : List PV → Option (List Int)
  | [] => some []
  | .int i :: r => (ints? r).map (i :: ·)
  | _ :: _ => none
def bools? : List PV → Option (List Bool)
  | [] => some []
  | .bl i :: r => (bools? r).map (i :: ·)
  | _ :: _ => none
theorem ints_some : ∀ {ds : List PV} {ns : List Int}, ints? ds = some ns → ds = ns.map PV.int
  | [], ns, h => by cases h; rfl
  | .int i :: r, ns, h => by
    simp only [ints?] at h
    cases e : ints? r with
    | none => rw [e] at h; cases h
    | some ms => rw [e] at h; cases h; rw [ints_some e]; rfl
  | .non :: _, _, h => by simp [ints?] at h
  | .bl _ :: _, _, h => by simp [ints?] at h
  | .str _ :: _, _, h => by simp [ints?] at h
  | .tup _ :: _, _, h => by simp [ints?] at h
  | .lst _ :: _, _, h => by simp [ints?] at h
  | .obj _ _ :: _, _, h => by simp [ints?] at h
  | .loc _ :: _, _, h => by simp [ints?] at h
  | .scr _ :: _, _, h => by simp [ints?] at h
  | .ty _ :: _, _, h => by simp [ints?] at h
  | .cls _ :: _, _, h => by simp [ints?] at h
  | .exc _ :: _, _, h => by simp [ints?] at h
  | .dic _ :: _, _, h => by simp [ints?] at h
  | .tub _ :: _, _, h => by simp [ints?] at h
  | .dik _ :: _, _, h => by simp [ints?] at h
theorem ints_map : ∀ (ns : List Int), ints? (ns.map PV.int) = some ns
  | [] => rfl
  | n :: ns => by simp only [List.map_cons, ints?, ints_map ns]; rfl
theorem bools_some : ∀ {ds : List PV} {ns : List Bool}, bools? ds = some ns → ds = ns.map PV.bl
  | [], ns, h => by cases h; rfl
  | .bl i :: r, ns, h => by
    simp only [bools?] at h
    cases e : bools? r with
    | none => rw [e] at h; cases h
    | some ms => rw [e] at h; cases h; rw [bools_some e]; rfl
  | .non :: _, _, h => by simp [bools?] at h
  | .int _ :: _, _, h => by simp [bools?] at h
  | .str _ :: _, _, h => by simp [bools?] at h
  | .tup _ :: _, _, h => by simp [bools?] at h
  | .lst _ :: _, _, h => by simp [bools?] at h
  | .obj _ _ :: _, _, h => by simp [bools?] at h
  | .loc _ :: _, _, h => by simp [bools?] at h
  | .scr _ :: _, _, h => by simp [bools?] at h
  | .ty _ :: _, _, h => by simp [bools?] at h
  | .cls _ :: _, _, h => by simp [bools?] at h
  | .exc _ :: _, _, h => by simp [bools?] at h
  | .dic _ :: _, _, h => by simp [bools?] at h
  | .tub _ :: _, _, h => by simp [bools?] at h
  | .dik _ :: _, _, h => by simp [bools?] at h
def one1 (g : PV → Store → Res PV) (ds : List PV) (S : Store) : Res PV := match ds with
  | [d] => g d S
  | _ => .bad
def vLen : List PV → Store → Res PV := one1 fun d S => match d with
  | .str x => if x.length ≤ sizeLine then .ok (.int x.length) S else .bad
  | _ => match seqOf S d with
    | some xs => .ok (.int xs.length) S
    | none => .bad
def maxI : List Int → Int
  | [] => 0
  | [x] => x
  | x :: y :: r => max x (maxI (y :: r))
def minI : List Int → Int
  | [] => 0
  | [x] => x
  | x :: y :: r => min x (minI (y :: r))
def intsOf (S : Store) (d : PV) : Option (List Int) := (lstOf S d).bind ints?
def boolsOf (S : Store) (d : PV) : Option (List Bool) := (lstOf S d).bind bools?
def vMax (ds : List PV) (S : Store) : Res PV := match ds with
  | [.int i, .int j] => .ok (.int (max i j)) S
  | [d] => (match intsOf S d with
    | some (n :: ns) => .ok (.int (maxI (n :: ns))) S
    | _ => .bad)
  | _ => .bad
def vMin (ds : List PV) (S : Store) : Res PV := match ds with
  | [.int i, .int j] => .ok (.int (min i j)) S
  | [d] => (match intsOf S d with
    | some (n :: ns) => .ok (.int (minI (n :: ns))) S
    | _ => .bad)
  | _ => .bad
def vTuple : List PV → Store → Res PV := one1 fun d S => match seqOf S d with
  | some xs => .ok (.tup xs) S
  | none => .bad
def vAll : List PV → Store → Res PV := one1 fun d S => match boolsOf S d with
  | some bs => .ok (.bl (bs.all id)) S
  | none => .bad
def vSum : List PV → Store → Res PV := one1 fun d S => match intsOf S d with
  | some ns => .ok (.int ns.sum) S
  | none => .bad
def vAbs : List PV → Store → Res PV := one1 fun d S => match d with
  | .int i => .ok (.int (i.natAbs : Int)) S
  | _ => .bad
def reprOk (p : PyData) : Prop := p.showable = true ∧ p.hasDict = false ∧ p.depth ≤ 64 ∧ p.shown.length ≤ sizeLine
instance (p : PyData) : Decidable (reprOk p) := by unfold reprOk; infer_instance
def reprOkD (p : PyData) : Prop := p.showable = true ∧ p.depth ≤ 64 ∧ p.shown.length ≤ sizeLine
instance (p : PyData) : Decidable (reprOkD p) := by unfold reprOkD; infer_instance
def dataD (S : Store) (d : PV) : Option PyData := match lstOf S d with
  | some xs => (data1s xs).map .list
  | none => data1 d
def vRepr : List PV → Store → Res PV := one1 fun d S => match dataOf S d with
  | some p => if reprOk p then .ok (.str p.shown) S else .bad
  | none => match dataD S d with
    | some p => if reprOkD p then .ok (.str p.shown) S else .bad
    | none => .bad
theorem maxI_mem : ∀ {ns : List Int}, ns ≠ [] → maxI ns ∈ ns ∧ ∀ y ∈ ns, y ≤ maxI ns
  | [], h => absurd rfl h
  | [x], _ => ⟨by simp [maxI], fun y hy => by simp at hy; subst hy; exact Int.le_refl _⟩
  | x :: y :: r, _ => by
    obtain ⟨h1, h2⟩ := maxI_mem (ns := y :: r) (by simp)
    simp only [maxI]
    refine ⟨?_, fun z hz => ?_⟩
    · rcases Int.le_total x (maxI (y :: r)) with h | h
      · rw [Int.max_eq_right h]; exact List.mem_cons_of_mem _ h1
      · rw [Int.max_eq_left h]; exact List.mem_cons_self
    · rcases List.mem_cons.mp hz with rfl | hz
      · exact Int.le_max_left _ _
      · exact Int.le_trans (h2 z hz) (Int.le_max_right _ _)
theorem minI_mem : ∀ {ns : List Int}, ns ≠ [] → minI ns ∈ ns ∧ ∀ y ∈ ns, minI ns ≤ y
  | [], h => absurd rfl h
  | [x], _ => ⟨by simp [minI], fun y hy => by simp at hy; subst hy; exact Int.le_refl _⟩
  | x :: y :: r, _ => by
    obtain ⟨h1, h2⟩ := minI_mem (ns := y :: r) (by simp)
    simp only [minI]
    refine ⟨?_, fun z hz => ?_⟩
    · rcases Int.le_total x (minI (y :: r)) with h | h
      · rw [Int.min_eq_left h]; exact List.mem_cons_self
      · rw [Int.min_eq_right h]; exact List.mem_cons_of_mem _ h1
    · rcases List.mem_cons.mp hz with rfl | hz
      · exact Int.min_le_left _ _
      · exact Int.le_trans (Int.min_le_right _ _) (h2 z hz)
section
variable {X : Cx} {W : WX}
theorem Ats.one {K : PySem.W.Frag} {mg : Str → Option Value} {H : Hp} {L Z : List Addr} {d : PV} {xs : List V} (a : Ats K mg H L Z [d] xs) : ∃ v, xs = [v] ∧ At K mg H L Z d v := by
  cases a with
  | cons h t => cases t; exact ⟨_, rfl, h⟩
theorem DC.one {f : Value} {g : PV → Store → Res PV} {rr : List V → Hp → VK → Prop} (ho : CallR X f rr)
    (h : ∀ (σ : L2.St) (H : Hp) (S : Store) (L Z : List Addr) (Q : VK) (d : PV) (x : V), Sta X.K X.mg H L Z S → At X.K X.mg H L Z d x → PostV X W σ Z (g d S) H L Q → rr [x] H Q) : DC X W f (one1 g) :=
  DC.of ho fun σ H S L Z Q ds xs st a p => by
    match ds, a, p with
    | [d], a, p =>
      obtain ⟨v, rfl, a'⟩ := a.one
      exact h σ H S L Z Q d v st a' p
    | [], _, p => exact (show False from p).elim
    | _ :: _ :: _, _, p => exact (show False from p).elim
theorem ints_at {K : PySem.W.Frag} {mg : Str → Option Value} {H : Hp} {L Z : List Addr} {S : Store} {d : PV} {v : V} {ns : List Int} (st : Sta K mg H L Z S) (a : At K mg H L Z d v) (h : intsOf S d = some ns) : ∃ p, v = .ref p ∧ SqL K H p (ns.map V.int) := by
  unfold intsOf at h
  cases e : lstOf S d with
  | none => rw [e] at h; cases h
  | some xs =>
    rw [e] at h
    obtain ⟨q, vs, rfl, h1, h2⟩ := lst_at st a e
    have := ints_some h
    subst this
    have e2 : vs = ns.map V.int := by
      clear h e h1 a st
      induction ns generalizing vs with
      | nil => cases h2; rfl
      | cons n ns ih => cases h2 with
        | cons a b => cases a; rw [ih _ b]; rfl
    subst e2
    exact ⟨q, rfl, .of h1⟩
theorem bools_at {K : PySem.W.Frag} {mg : Str → Option Value} {H : Hp} {L Z : List Addr} {S : Store} {d : PV} {v : V} {ns : List Bool} (st : Sta K mg H L Z S) (a : At K mg H L Z d v) (h : boolsOf S d = some ns) : ∃ p, v = .ref p ∧ SqL K H p (ns.map V.bl) := by
  unfold boolsOf at h
  cases e : lstOf S d with
  | none => rw [e] at h; cases h
  | some xs =>
    rw [e] at h
    obtain ⟨q, vs, rfl, h1, h2⟩ := lst_at st a e
    have := bools_some h
    subst this
    have e2 : vs = ns.map V.bl := by
      clear h e h1 a st
      induction ns generalizing vs with
      | nil => cases h2; rfl
      | cons n ns ih => cases h2 with
        | cons a b => cases a; rw [ih _ b]; rfl
    subst e2
    exact ⟨q, rfl, .of h1⟩
theorem dc_len : DC X W (.builtin "len") vLen := DC.one call_len fun σ H S L Z Q d x st a p => by
  have gen : PostV X W σ Z (match seqOf S d with
    | some xs => .ok (.int xs.length) S
    | none => .bad) H L Q → ∃ x' n, [x] = [x'] ∧ LenV X.K x' H n ∧ Q (.int n) H := fun p => by
    cases h : seqOf S d with
    | none => rw [h] at p; exact p.elim
    | some xs =>
      rw [h] at p
      obtain ⟨q, vs, rfl, hq, b⟩ := seq_at st a h
      refine ⟨_, xs.length, rfl, ?_, post_val p st (.int _)⟩
      rcases hq with hq | hq
      · exact .inl ⟨vs, hq, b.len⟩
      · exact .inr ⟨vs, hq, b.len⟩
  cases d with
  | str z =>
    have p : PostV X W σ Z (if z.length ≤ sizeLine then .ok (.int z.length) S else .bad) H L Q := p
    cases a
    by_cases hz : z.length ≤ sizeLine
    · rw [if_pos hz] at p
      exact ⟨_, z.length, rfl, ⟨hz, rfl⟩, post_val p st (.int _)⟩
    · rw [if_neg hz] at p; exact p.elim
  | non => exact gen p
  | bl _ => exact gen p
  | int _ => exact gen p
  | tup _ => exact gen p
  | lst _ => exact gen p
  | obj _ _ => exact gen p
  | loc _ => exact gen p
  | scr _ => exact gen p
  | ty _ => exact gen p
  | cls _ => exact gen p
  | exc _ => exact gen p
  | dic _ => exact gen p
  | tub _ => exact gen p
  | dik _ => exact gen p
theorem dc_tuple : DC X W (.type "tuple") vTuple := DC.one call_tuple_of fun σ H S L Z Q d x st a p => by
  cases h : seqOf S d with
  | none => rw [h] at p; exact p.elim
  | some xs =>
    rw [h] at p
    obtain ⟨q, vs, rfl, hq, b⟩ := seq_at st a h
    refine ⟨q, vs, rfl, ?_⟩
    rcases hq with hq | hq
    · exact .inl ⟨hq, fun l hl => post_tup p st b l hl⟩
    · exact .inr ⟨hq, post_val p st (.tup hq b)⟩
theorem dc_all (hc : X.calm = true) : DC X W (.builtin "all") vAll := DC.one (cr_all hc) fun σ H S L Z Q d x st a p => by
  cases h : boolsOf S d with
  | none => rw [h] at p; exact p.elim
  | some bs =>
    rw [h] at p
    obtain ⟨q, rfl, hq⟩ := bools_at st a h
    exact ⟨q, bs, rfl, hq, post_val p st (.bl _)⟩
theorem dc_sum (hc : X.calm = true) : DC X W (.builtin "sum") vSum := DC.one (cr_sum hc) fun σ H S L Z Q d x st a p => by
  cases h : intsOf S d with
  | none => rw [h] at p; exact p.elim
  | some bs =>
    rw [h] at p
    obtain ⟨q, rfl, hq⟩ := ints_at st a h
    exact ⟨q, bs, rfl, hq, post_val p st (.int _)⟩
theorem dc_abs : DC X W (.builtin "abs") vAbs := DC.one call_abs fun σ H S L Z Q d x st a p => by
  cases d with
  | int i =>
    cases a
    refine ⟨i, rfl, ?_⟩
    have e : (if i < 0 then -i else i) = (i.natAbs : Int) := by split <;> omega
    rw [e]
    exact post_val p st (.int _)
  | _ => exact (show False from p).elim
theorem dc_max (hc : X.calm = true) : DC X W (.builtin "max") vMax := by
  intro pins s σ H S L Z Q ds xs us I st a r p
  have gen : ∀ d, ds = [d] → PostV X W σ Z (match intsOf S d with
    | some (n :: ns) => .ok (.int (maxI (n :: ns))) S
    | _ => .bad) H L Q → wpAny (model X.prog X.w) X.A (call (.builtin "max") us) (EP X pins σ Q) X.xe s := fun d e p' => by
    clear p
    have p := p'
    clear p'
    subst e
    obtain ⟨v, rfl, a'⟩ := a.one
    cases h : intsOf S d with
    | none => rw [h] at p; exact p.elim
    | some ns =>
      cases ns with
      | nil => rw [h] at p; exact p.elim
      | cons n ns =>
        rw [h] at p
        obtain ⟨q, rfl, hq⟩ := ints_at st a' h
        refine cr_max hc pins s σ H _ us Q I r ⟨q, n :: ns, rfl, hq, by simp, fun m h1 h2 => ?_⟩
        have h3 := maxI_mem (ns := n :: ns) (by simp)
        have e : m = maxI (n :: ns) := Int.le_antisymm (h3.2 m h1) (h2 _ h3.1)
        rw [e]
        exact post_val p st (.int _)
  match ds, a, p, gen with
  | [], _, p, _ => exact (show False from p).elim
  | [d], a, p, gen => cases d <;> exact gen _ rfl p
  | [d, e], a, p, _ =>
    cases d with
    | int i =>
      cases e with
      | int j =>
        cases a with
        | cons h1 t => cases t with
          | cons h2 t => cases t; cases h1; cases h2; exact call_max2 hc pins s σ H _ us Q I r ⟨i, j, rfl, by
            have e : (if j > i then j else i) = max i j := by split <;> omega
            rw [e]; exact post_val p st (.int _)⟩
      | _ => exact (show False from p).elim
    | _ => exact (show False from p).elim
  | d :: e :: _ :: _, _, p, _ => exact (show False from by cases d <;> (first | exact p | (cases e <;> exact p))).elim
theorem dc_min (hc : X.calm = true) : DC X W (.builtin "min") vMin := by
  intro pins s σ H S L Z Q ds xs us I st a r p
  have gen : ∀ d, ds = [d] → PostV X W σ Z (match intsOf S d with
    | some (n :: ns) => .ok (.int (minI (n :: ns))) S
    | _ => .bad) H L Q → wpAny (model X.prog X.w) X.A (call (.builtin "min") us) (EP X pins σ Q) X.xe s := fun d e p' => by
    clear p
    have p := p'
    clear p'
    subst e
    obtain ⟨v, rfl, a'⟩ := a.one
    cases h : intsOf S d with
    | none => rw [h] at p; exact p.elim
    | some ns =>
      cases ns with
      | nil => rw [h] at p; exact p.elim
      | cons n ns =>
        rw [h] at p
        obtain ⟨q, rfl, hq⟩ := ints_at st a' h
        refine cr_min hc pins s σ H _ us Q I r ⟨q, n :: ns, rfl, hq, by simp, fun m h1 h2 => ?_⟩
        have h3 := minI_mem (ns := n :: ns) (by simp)
        have e : m = minI (n :: ns) := Int.le_antisymm (h2 _ h3.1) (h3.2 m h1)
        rw [e]
        exact post_val p st (.int _)
  match ds, a, p, gen with
  | [], _, p, _ => exact (show False from p).elim
  | [d], a, p, gen => cases d <;> exact gen _ rfl p
  | [d, e], a, p, _ =>
    cases d with
    | int i =>
      cases e with
      | int j =>
        cases a with
        | cons h1 t => cases t with
          | cons h2 t => cases t; cases h1; cases h2; exact call_min2 hc pins s σ H _ us Q I r ⟨i, j, rfl, by
            have e : (if j < i then j else i) = min i j := by split <;> omega
            rw [e]; exact post_val p st (.int _)⟩
      | _ => exact (show False from p).elim
    | _ => exact (show False from p).elim
  | d :: e :: _ :: _, _, p, _ => exact (show False from by cases d <;> (first | exact p | (cases e <;> exact p))).elim
mutual
theorem reads1 {pins : List (Addr × Obj)} {σ : L2.St} {H : Hp} {s : Shared} {L Z : List Addr} (I : Inv X pins σ H s) : ∀ {d : PV} {v : V} {u : Value} {p : PyData}, At X.K X.mg H L Z d v → data1 d = some p → RelV v u → ∃ as, Reads s.heap u p as ∧ ∀ a ∈ as, ∃ o, H a = some o
  | _, _, _, _, .non, h, r => by simp [data1] at h; subst h; cases r; exact ⟨_, .none, by simp⟩
  | _, _, _, _, .bl b, h, r => by simp [data1] at h; subst h; cases r; exact ⟨_, .bool b, by simp⟩
  | _, _, _, _, .int i, h, r => by simp [data1] at h; subst h; obtain ⟨t, rfl⟩ := r; exact ⟨_, .int i t, by simp⟩
  | _, _, _, _, .str x, h, r => by simp [data1] at h; subst h; obtain ⟨t, rfl⟩ := r; exact ⟨_, .str x t, by simp⟩
  | _, _, _, _, .tup (ds := ds) h1 h2, h, r => by
    simp only [data1] at h
    cases e : data1s ds with
    | none => rw [e] at h; cases h
    | some ps =>
      rw [e] at h; cases h; cases r
      obtain ⟨its, rv, ⟨o, ho, hc, n, hd⟩, hz⟩ := I.tuple h1
      obtain ⟨as, ra, ha⟩ := reads1s I h2 e rv
      exact ⟨as, .tuple ho hc hd (by simpa using ra), ha⟩
  | _, _, _, _, .lst (ds := ds) h1 h2 h3 h4, h, r => by
    simp only [data1] at h
    cases e : data1s ds with
    | none => rw [e] at h; cases h
    | some ps =>
      rw [e] at h; cases h; cases r
      obtain ⟨z, its, n, rv, ho⟩ := I.hok _ _ h1
      obtain ⟨as, ra, ha⟩ := reads1s I h4 e rv
      refine ⟨_ :: as, .list ho rfl rfl (by simpa using ra), fun a h => ?_⟩
      rcases List.mem_cons.mp h with rfl | h
      · exact ⟨_, h1⟩
      · exact ha a h
  | _, _, _, _, .obj .., h, _ => by simp [data1] at h
  | _, _, _, _, .loc .., h, _ => by simp [data1] at h
  | _, _, _, _, .scr .., h, _ => by simp [data1] at h
  | _, _, _, _, .scrk .., h, _ => by simp [data1] at h
  | _, _, _, _, .ty .., h, _ => by simp [data1] at h
  | _, _, _, _, .cls .., h, _ => by simp [data1] at h
  | _, _, _, _, .tub .., h, _ => by simp [data1] at h
  | _, _, _, _, .exc .., h, _ => by simp [data1] at h
  | _, _, _, _, .dic (kvs := kvs) h1 h2 h3 h4, h, r => by
    simp only [data1] at h
    cases e : data1d kvs with
    | none => rw [e] at h; cases h
    | some ps =>
      rw [e] at h; cases h; cases r
      obtain ⟨⟨z, y, nd, xs, rx, o, es, ho, hc, hd, he⟩, _⟩ := (show ObjOk X.prog X.w H s.heap _ (DicO _ _ _) from I.hok _ _ h1)
      obtain ⟨as, bs, ra, rb, ha, hb⟩ := reads1d I h4 e rx
      have k1 : es.toList.map (·.key) = xs.map fun x => Value.ref x.2.1 := by rw [he, List.map_map]; rfl
      have k2 : es.toList.map (·.val) = xs.map fun x => x.2.2 := by rw [he, List.map_map]; rfl
      refine ⟨_, .dict ho hc.1 hd (by rw [k1]; exact ra) (by rw [k2]; exact rb), fun a h => ?_⟩
      simp only [List.cons_append, List.mem_cons, List.mem_append] at h
      rcases h with rfl | h | h
      · exact ⟨_, h1⟩
      · exact ha a h
      · exact hb a h
  | _, _, _, _, .dik (kvs := kvs) h1 h2 h3 h4, h, r => by
    simp only [data1] at h
    cases e : data1d kvs with
    | none => rw [e] at h; cases h
    | some ps =>
      rw [e] at h; cases h; cases r
      obtain ⟨z, y, vs, rx, o, es, ep, ho, hc, hd, hk, hp, nd⟩ := dk_of I.hok h1
      obtain ⟨as, bs, ra, rb, ha, hb⟩ := reads1k I h4 e rx hp
      refine ⟨_, .dict ho hc.1 hd ra rb, fun a h => ?_⟩
      simp only [List.cons_append, List.mem_cons, List.mem_append] at h
      rcases h with rfl | h | h
      · exact ⟨_, h1⟩
      · exact ha a h
      · exact hb a h
theorem reads1s {pins : List (Addr × Obj)} {σ : L2.St} {H : Hp} {s : Shared} {L Z : List Addr} (I : Inv X pins σ H s) : ∀ {ds : List PV} {vs : List V} {us : List Value} {ps : List PyData}, Ats X.K X.mg H L Z ds vs → data1s ds = some ps → Vals vs us → ∃ as, ReadsAll s.heap us ps as ∧ ∀ a ∈ as, ∃ o, H a = some o
  | _, _, _, _, .nil, h, r => by simp [data1s] at h; subst h; cases r; exact ⟨_, .nil, by simp⟩
  | _, _, _, _, .cons (d := d) (ds := ds) h1 h2, h, r => by
    simp only [data1s] at h
    cases e : data1 d with
    | none => rw [e] at h; cases h
    | some p =>
      cases e' : data1s ds with
      | none => rw [e, e'] at h; cases h
      | some ps =>
        rw [e, e'] at h; cases h
        cases r with
        | cons r1 r2 =>
          obtain ⟨as, ra, ha⟩ := reads1 I h1 e r1
          obtain ⟨bs, rb, hb⟩ := reads1s I h2 e' r2
          exact ⟨as ++ bs, .cons ra rb, fun a h => (List.mem_append.mp h).elim (ha a) (hb a)⟩
theorem reads1d {pins : List (Addr × Obj)} {σ : L2.St} {H : Hp} {s : Shared} {L Z : List Addr} (I : Inv X pins σ H s) : ∀ {ds : List (PV × PV)} {vs : List (PyData × Addr × V)} {us : List (PyData × Addr × Value)} {ps : List (PyData × PyData)}, Atd X.K X.mg H L Z ds vs → data1d ds = some ps →
    Paired (fun (p : PyData × Addr × V) (q : PyData × Addr × Value) => p.1 = q.1 ∧ p.2.1 = q.2.1 ∧ RelV p.2.2 q.2.2) vs us → ∃ as bs, ReadsAll s.heap (us.map fun x => Value.ref x.2.1) (ps.map (·.1)) as ∧ ReadsAll s.heap (us.map fun x => x.2.2) (ps.map (·.2)) bs ∧ (∀ a ∈ as, ∃ o, H a = some o) ∧ ∀ a ∈ bs, ∃ o, H a = some o
  | _, _, _, _, .nil, h, r => by simp [data1d] at h; subst h; cases r; exact ⟨_, _, .nil, .nil, by simp, by simp⟩
  | _, _, _, _, .cons (k := k) (d := d) (ds := ds) q1 q2 h0 h1 h2, h, r => by
    simp only [data1d] at h
    cases e : data1 k with
    | none => rw [e] at h; cases h
    | some p =>
      cases e1 : data1 d with
      | none => rw [e, e1] at h; cases h
      | some p1 =>
        cases e' : data1d ds with
        | none => rw [e, e1, e'] at h; cases h
        | some ps =>
          rw [e, e1, e'] at h; cases h
          cases r with
          | cons r1 r2 =>
            obtain ⟨_, r1b, r1c⟩ := r1
            obtain ⟨as, ra, ha⟩ := reads1 I h0 e (show RelV (.ref _) (.ref _) from congrArg Value.ref r1b.symm)
            obtain ⟨bs, rb, hb⟩ := reads1 I h1 e1 r1c
            obtain ⟨as', bs', ra', rb', ha', hb'⟩ := reads1d I h2 e' r2
            exact ⟨as ++ as', bs ++ bs', .cons ra ra', .cons rb rb', fun a h => (List.mem_append.mp h).elim (ha a) (ha' a), fun a h => (List.mem_append.mp h).elim (hb a) (hb' a)⟩
theorem reads1k {pins : List (Addr × Obj)} {σ : L2.St} {H : Hp} {s : Shared} {L Z : List Addr} (I : Inv X pins σ H s) : ∀ {ds : List (PV × PV)} {vs : List (Key × V)} {us : List (Key × Value)} {ps : List (PyData × PyData)} {es : List DictEntry}, Atk X.K X.mg H L Z ds vs → data1d ds = some ps →
    KV vs us → Pairs (mixKind X.prog X.w) es us → ∃ as bs, ReadsAll s.heap (es.map (·.key)) (ps.map (·.1)) as ∧ ReadsAll s.heap (es.map (·.val)) (ps.map (·.2)) bs ∧ (∀ a ∈ as, ∃ o, H a = some o) ∧ ∀ a ∈ bs, ∃ o, H a = some o
  | _, _, _, _, _, .nil, h, r, pr => by simp [data1d] at h; subst h; cases r; cases pr; exact ⟨_, _, .nil, .nil, by simp, by simp⟩
  | _, _, _, _, _, .cons (k := k) (d := d) (ds := ds) h1 h2, h, r, pr => by
    simp only [data1d] at h
    cases e1 : data1 d with
    | none => rw [e1] at h; cases k <;> simp [kPV, data1] at h
    | some p1 =>
      cases e' : data1d ds with
      | none => rw [e1, e'] at h; cases k <;> simp [kPV, data1] at h
      | some ps =>
        cases r with
        | cons r1 r2 =>
          cases pr with
          | cons z1 z2 p2 =>
            obtain ⟨r1a, r1c⟩ := r1
            obtain ⟨bs, rb, hb⟩ := reads1 I h1 e1 r1c
            obtain ⟨as', bs', ra', rb', ha', hb'⟩ := reads1k I h2 e' r2 p2
            rw [e1, e'] at h
            cases k with
            | inl i =>
              simp [kPV, data1] at h
              subst h
              have z1 := (show keyIs _ _ = true from z1)
              rw [← show Sum.inl i = _ from r1a] at z1
              obtain ⟨t, ht⟩ := Value.isInt_shape (k := i) z1
              refine ⟨[] ++ as', bs ++ bs', .cons (show Reads _ (DictEntry.key _) (.int i) [] from ht ▸ .int i t) ra', .cons (show Reads _ (DictEntry.val _) p1 bs from z2 ▸ rb) rb', by simpa using ha', fun a h => (List.mem_append.mp h).elim (hb a) (hb' a)⟩
            | inr x =>
              simp [kPV, data1] at h
              subst h
              have z1 := (show keyIs _ _ = true from z1)
              rw [← show Sum.inr x = _ from r1a] at z1
              obtain ⟨t, ht⟩ := Value.isStrOf_shape (x := x) z1
              refine ⟨[] ++ as', bs ++ bs', .cons (show Reads _ (DictEntry.key _) (.str x) [] from ht ▸ .str x t) ra', .cons (show Reads _ (DictEntry.val _) p1 bs from z2 ▸ rb) rb', by simpa using ha', fun a h => (List.mem_append.mp h).elim (hb a) (hb' a)⟩
end
theorem no_sys {pins : List (Addr × Obj)} {σ : L2.St} {H : Hp} {s : Shared} (I : Inv X pins σ H s) (hy : (X.K.lookup sysModules).isSome = true) : H sysModules = none := by
  obtain ⟨o, ho⟩ := Option.isSome_iff_exists.mp hy
  exact (I.bs _ _ (I.mod.kin _ _ ho)).2
theorem dc_repr (hg : X.A.guards = some []) (hu : X.A.units + 100 < cLine) (hy : (X.K.lookup sysModules).isSome = true) : DC X W (.builtin "repr") vRepr := by
  intro pins s σ H S L Z Q ds xs us I st a r p
  match ds, a, p with
  | [d], a, p =>
    obtain ⟨v, rfl, a'⟩ := a.one
    obtain ⟨u, rfl, ru⟩ := vals1 r
    have go : ∀ (m : PyData) (as : List Addr), Reads s.heap u m as → (m.hasDict = true → sysModules ∉ as) → m.showable = true → m.depth ≤ 64 → m.shown.length ≤ sizeLine → PostV X W σ Z (.ok (.str m.shown) S) H L Q →
        wpAny (model X.prog X.w) X.A (call (.builtin "repr") [u]) (EP X pins σ Q) X.xe s := fun m as rd hs z1 z3 z4 p => by
      have fin := post_val p st (.str _)
      have far : ∀ {b : Addr}, u = .ref b → wpAny (model X.prog X.w) X.A (call (.builtin "repr") [u]) (EP X pins σ Q) X.xe s := fun e => by
        subst e
        exact repr_of_reads' rd z1 hs hg (by omega) (fun _ _ e => e) (fun h' u tk hk => ⟨.str _, H, I.kept (t' := tk) hk, ⟨_, rfl⟩, fin⟩) z4
      cases m with
      | none => cases rd; exact PySem.P.repr_of_none ⟨.str _, H, I.tok _, ⟨_, rfl⟩, fin⟩
      | bool b => cases rd; exact PySem.P.repr_of_bool ⟨.str _, H, I.tok _, ⟨_, rfl⟩, fin⟩
      | int i => cases rd; exact PySem.P.repr_of_int (by simpa [PyData.showable] using z1) ⟨.str _, H, I.tok _, ⟨_, rfl⟩, fin⟩
      | str x => cases rd; exact PySem.P.repr_of_str ⟨.str _, H, I.tok _, ⟨_, rfl⟩, fin⟩ z4
      | list ys =>
        obtain ⟨b, hb⟩ : ∃ b, u = .ref b := by cases rd; exact ⟨_, rfl⟩
        exact far hb
      | tuple ys =>
        obtain ⟨b, hb⟩ : ∃ b, u = .ref b := by cases rd; exact ⟨_, rfl⟩
        exact far hb
      | dict kvs =>
        obtain ⟨b, hb⟩ : ∃ b, u = .ref b := by cases rd; exact ⟨_, rfl⟩
        exact far hb
    have p : PostV X W σ Z (match dataOf S d with
      | some p => if reprOk p then .ok (.str p.shown) S else .bad
      | none => match dataD S d with
        | some p => if reprOkD p then .ok (.str p.shown) S else .bad
        | none => .bad) H L Q := p
    cases h : dataOf S d with
    | some m =>
      rw [h] at p
      have p : PostV X W σ Z (if reprOk m then .ok (.str m.shown) S else .bad) H L Q := p
      by_cases hz : reprOk m
      · rw [if_pos hz] at p
        obtain ⟨z1, z2, z3, z4⟩ := hz
        have hd := dp_at st a' h
        obtain ⟨as, rd⟩ := Dp.reads I m v u hd ru
        exact go m as rd (PyData.noDict_hsm z2) z1 z3 z4 p
      · rw [if_neg hz] at p; exact p.elim
    | none =>
      rw [h] at p
      have p : PostV X W σ Z (match dataD S d with
        | some p => if reprOkD p then .ok (.str p.shown) S else .bad
        | none => .bad) H L Q := p
      cases h1 : dataD S d with
      | none => rw [h1] at p; exact p.elim
      | some m =>
        rw [h1] at p
        have p : PostV X W σ Z (if reprOkD m then .ok (.str m.shown) S else .bad) H L Q := p
        by_cases hz : reprOkD m
        · rw [if_pos hz] at p
          obtain ⟨z1, z3, z4⟩ := hz
          have rd : ∃ as, Reads s.heap u m as ∧ ∀ a ∈ as, ∃ o, H a = some o := by
            unfold dataD at h1
            cases e : lstOf S d with
            | none => rw [e] at h1; exact reads1 I a' h1 ru
            | some xs =>
              rw [e] at h1
              obtain ⟨q, vs, rfl, e1, e2⟩ := lst_at st a' e
              cases ru
              cases e' : data1s xs with
              | none => simp only [e'] at h1; cases h1
              | some ps =>
                simp only [e'] at h1; cases h1
                obtain ⟨z, its, n, rv, ho⟩ := I.hok _ _ e1
                obtain ⟨as, ra, ha⟩ := reads1s I e2 e' rv
                refine ⟨_ :: as, .list ho rfl rfl (by simpa using ra), fun a h => ?_⟩
                rcases List.mem_cons.mp h with rfl | h
                · exact ⟨_, e1⟩
                · exact ha a h
          obtain ⟨as, rd, ha⟩ := rd
          exact go m as rd (fun _ hm => by
            obtain ⟨o, e⟩ := ha _ hm
            rw [no_sys I hy] at e; cases e) z1 z3 z4 p
        · rw [if_neg hz] at p; exact p.elim
  | [], _, p => exact (show False from p).elim
  | _ :: _ :: _, _, p => exact (show False from p).elim
end
end Dn
namespace Dn
open PySem PySem.Spec PyProof.Rows L2
inductive Fl where
  | nx (r : Env1) | rt (d : PV) | bk (r : Env1) | ct (r : Env1)
abbrev SM := Env1 → Store → Res Fl
abbrev kW (W : XK) : WX := fun c d _ H => W c d H
def PostS (X : Cx) (W : XK) (Z : List Addr) (x : Res Fl) (H : Hp) (L : List Addr) (D : Ends) : Prop :=
  match x with
  | .ok (.nx r) S' => ∀ σ' H' L', Ext H L H' L' → Slots X.K X.mg H' L' Z r σ' → Sta X.K X.mg H' L' Z S' → D.nx σ' H'
  | .ok (.bk r) S' => ∀ σ' H' L', Ext H L H' L' → Slots X.K X.mg H' L' Z r σ' → Sta X.K X.mg H' L' Z S' → D.bk σ' H'
  | .ok (.ct r) S' => ∀ σ' H' L', Ext H L H' L' → Slots X.K X.mg H' L' Z r σ' → Sta X.K X.mg H' L' Z S' → D.ct σ' H'
  | .ok (.rt d) S' => ∀ v H' L', Ext H L H' L' → Sta X.K X.mg H' L' Z S' → At X.K X.mg H' L' Z d v → D.rt v H'
  | .err c S' => ∀ H' L' cls, Ext H L H' L' → Sta X.K X.mg H' L' Z S' → X.mg c = some cls → W cls none H'
  | .bad => False
theorem PostS.ext {X : Cx} {W : XK} {Z : List Addr} {x : Res Fl} {H H1 : Hp} {L L1 : List Addr} {D : Ends} (h : PostS X W Z x H L D) (e : Ext H L H1 L1) : PostS X W Z x H1 L1 D := by
  cases x with
  | ok f S' => cases f with
    | nx r => exact fun σ' H' L' y => h σ' H' L' (e.trans y)
    | bk r => exact fun σ' H' L' y => h σ' H' L' (e.trans y)
    | ct r => exact fun σ' H' L' y => h σ' H' L' (e.trans y)
    | rt d => exact fun v H' L' y => h v H' L' (e.trans y)
  | err c S' => exact fun H' L' cls y => h H' L' cls (e.trans y)
  | bad => exact h
def DS (X : Cx) (W : XK) (c : Stmt) (g : SM) : Prop := Jd (
  ∀ (pins : List (Addr × Obj)) (s : Shared) (σ : L2.St) (H : Hp) (r : Env1) (S : Store) (L Z : List Addr) (D : Ends), Inv X pins σ H s → Slots X.K X.mg H L Z r σ → Sta X.K X.mg H L Z S → PostS X W Z (g r S) H L D →
    wpAny (model X.prog X.w) X.A (exec c X.env) (SP X pins D) X.xe s)
def DSs (X : Cx) (W : XK) (c : List Stmt) (g : SM) : Prop := Jd (
  ∀ (pins : List (Addr × Obj)) (s : Shared) (σ : L2.St) (H : Hp) (r : Env1) (S : Store) (L Z : List Addr) (D : Ends), Inv X pins σ H s → Slots X.K X.mg H L Z r σ → Sta X.K X.mg H L Z S → PostS X W Z (g r S) H L D →
    wpAny (model X.prog X.w) X.A (execs c X.env) (SP X pins D) X.xe s)
abbrev rdE (X : Cx) (W : WX) (f : EM) : TE := fun σ H Q => ∃ r S L Z, Slots X.K X.mg H L Z r σ ∧ Sta X.K X.mg H L Z S ∧ PostV X W σ Z (f r S) H L Q
abbrev rdA (X : Cx) (W : WX) (f : LM) : TA := fun σ H Q => ∃ r S L Z, Slots X.K X.mg H L Z r σ ∧ Sta X.K X.mg H L Z S ∧ PostL X W σ Z (f r S) H L Q
abbrev rdT (X : Cx) (W : WX) (f : BM) : TT := fun σ H Q => ∃ r S L Z, Slots X.K X.mg H L Z r σ ∧ Sta X.K X.mg H L Z S ∧ PostB X W σ Z (f r S) H L Q
abbrev rdS (X : Cx) (W : XK) (g : SM) : TS := fun D σ H => ∃ r S L Z, Slots X.K X.mg H L Z r σ ∧ Sta X.K X.mg H L Z S ∧ PostS X W Z (g r S) H L D
section
variable {X : Cx} {W : WX} {V' : XK} {e : Expr} {es : List Expr} {f : EM} {la : LM} {b : BM} {c : Stmt} {cs : List Stmt} {g h : SM}
theorem De.pe (h : De X W e f) : PE X e (rdE X W f) := ⟨fun pins s σ H Q I ⟨r, S, L, Z, sl, st, p⟩ => h.out pins s σ H r S L Z Q I sl st p⟩
theorem DA.pa (h : DA X W es la) : PA X es (rdA X W la) := ⟨fun pos pins s σ H Q I ⟨r, S, L, Z, sl, st, p⟩ => h.out pos pins s σ H r S L Z Q I sl st p⟩
theorem DT.pt (h : DT X W e b) : PT X e (rdT X W b) := ⟨fun pins s σ H Q I ⟨r, S, L, Z, sl, st, p⟩ => h.out pins s σ H r S L Z Q I sl st p⟩
theorem DSs.pss (h : DSs X V' cs g) : PSs X cs (rdS X V' g) := ⟨fun pins s σ H D I ⟨r, S, L, Z, sl, st, p⟩ => h.out pins s σ H r S L Z D I sl st p⟩
theorem DS.ps (h : DS X V' c g) : PS X c (rdS X V' g) := ⟨fun pins s σ H D I ⟨r, S, L, Z, sl, st, p⟩ => h.out pins s σ H r S L Z D I sl st p⟩
end
def sNil : SM := fun r S => .ok (.nx r) S
def sSeq (g h : SM) : SM := fun r S => (g r S).bind fun f S1 => match f with
  | .nx r1 => h r1 S1
  | f => .ok f S1
def sRet (a : EM) : SM := fun r S => (a r S).bind fun d S1 => .ok (.rt d) S1
def sRetN : SM := fun _ S => .ok (.rt .non) S
def sExpr (a : EM) : SM := fun r S => (a r S).bind fun _ S1 => .ok (.nx r) S1
def sIf (t : BM) (g h : SM) : SM := fun r S => (t r S).bind fun k S1 => if k = true then g r S1 else h r S1
def sSet (i : Nat) (a : EM) : SM := fun r S => (a r S).bind fun d S1 => .ok (.nx (r.set i (some d))) S1
def sBrk : SM := fun r S => .ok (.bk r) S
def sCnt : SM := fun r S => .ok (.ct r) S
section
variable {X : Cx} {W : XK} {c : Stmt} {cs : List Stmt} {g h : SM} {e : Expr} {fe : EM} {bt : BM} {pos : Pos}
theorem Slots.set {K : PySem.W.Frag} {mg : Str → Option Value} {H : Hp} {L Z : List Addr} {r : Env1} {σ : L2.St} {i : Nat} {d : PV} {v : V} (sl : Slots K mg H L Z r σ) (a : At K mg H L Z d v) (hi : i < σ.length) : Slots K mg H L Z (r.set i (some d)) (σ.set i (some v)) := fun j d' e => by
  by_cases hj : i = j
  · subst hj
    by_cases hr : i < r.length
    · rw [List.getElem?_set_self hr] at e
      cases e
      exact ⟨v, by rw [List.getElem?_set_self hi], a⟩
    · rw [List.getElem?_eq_none (by simpa using hr)] at e; cases e
  · rw [List.getElem?_set_ne hj] at e
    obtain ⟨v', e1, a1⟩ := sl j d' e
    exact ⟨v', by rw [List.getElem?_set_ne hj]; exact e1, a1⟩
theorem DSs.nil : DSs X W [] sNil := Jd.mk fun pins s σ H r S L Z D I sl st p => wpAny_execs_nil ⟨σ, H, I, p σ H L (Ext.refl H L) sl st⟩
theorem DSs.one (h1 : DS X W c g) : DSs X W [c] g := by
  refine Jd.mk ?_
  intro pins s σ H r S L Z D I sl st p
  refine wpAny_execs_cons (thn (h1.out pins s σ H r S L Z D I sl st p) fun f s1 q => ?_)
  cases f with
  | next => exact wpAny_execs_nil q
  | ret v => exact q
  | brk => exact q
  | cont => exact q
theorem DSs.cons (h1 : DS X W c g) (h2 : DSs X W cs h) : DSs X W (c :: cs) (sSeq g h) := by
  refine Jd.mk ?_
  intro pins s σ H r S L Z D I sl st p
  have go : ∀ D1 : Ends, PostS X W Z (g r S) H L D1 → (∀ f s1, SP X pins D1 f s1 → (match f with
      | .next => wpAny (model X.prog X.w) X.A (execs cs X.env) (SP X pins D) X.xe s1
      | f => SP X pins D f s1)) → wpAny (model X.prog X.w) X.A (execs (c :: cs) X.env) (SP X pins D) X.xe s := fun D1 p1 k => by
    refine wpAny_execs_cons (thn (h1.out pins s σ H r S L Z D1 I sl st p1) fun f s1 q => ?_)
    have := k f s1 q
    cases f <;> exact this
  unfold sSeq at p
  cases q : g r S with
  | bad => rw [q] at p; exact p.elim
  | err cl S1 =>
    rw [q] at p
    refine go { D with nx := fun _ _ => False } (by rw [q]; exact p) fun f s1 hs => ?_
    cases f with
    | next => obtain ⟨_, _, _, z⟩ := hs; exact z.elim
    | ret v => exact hs
    | brk => exact hs
    | cont => exact hs
  | ok f S1 =>
    rw [q] at p
    cases f with
    | nx r1 =>
      have p : PostS X W Z (h r1 S1) H L D := p
      refine go { D with nx := fun σ' H' => ∃ L', Ext H L H' L' ∧ Slots X.K X.mg H' L' Z r1 σ' ∧ Sta X.K X.mg H' L' Z S1 } (by rw [q]; exact fun σ' H' L' a b c => ⟨L', a, b, c⟩) fun f s1 hs => ?_
      cases f with
      | next =>
        obtain ⟨σ', H', I', L', x, sl', st'⟩ := hs
        exact h2.out pins s1 σ' H' r1 S1 L' Z D I' sl' st' (p.ext x)
      | ret v => exact hs
      | brk => exact hs
      | cont => exact hs
    | rt d =>
      refine go { D with nx := fun _ _ => False } (by rw [q]; exact p) fun f s1 hs => ?_
      cases f with
      | next => obtain ⟨_, _, _, z⟩ := hs; exact z.elim
      | ret v => exact hs
      | brk => exact hs
      | cont => exact hs
    | bk d =>
      refine go { D with nx := fun _ _ => False } (by rw [q]; exact p) fun f s1 hs => ?_
      cases f with
      | next => obtain ⟨_, _, _, z⟩ := hs; exact z.elim
      | ret v => exact hs
      | brk => exact hs
      | cont => exact hs
    | ct d =>
      refine go { D with nx := fun _ _ => False } (by rw [q]; exact p) fun f s1 hs => ?_
      cases f with
      | next => obtain ⟨_, _, _, z⟩ := hs; exact z.elim
      | ret v => exact hs
      | brk => exact hs
      | cont => exact hs
theorem De.stepS (ha : De X (kW W) e fe) {pins : List (Addr × Obj)} {s : Shared} {σ : L2.St} {H : Hp} {r : Env1} {S : Store} {L Z : List Addr} {D : Ends} (I : Inv X pins σ H s) (sl : Slots X.K X.mg H L Z r σ) (st : Sta X.K X.mg H L Z S) {k : PV → Store → Res Fl}
    (p : PostS X W Z ((fe r S).bind k) H L D) {Qf : Value → Shared → Prop}
    (hk : ∀ d S1 v u s1 H1 L1, Inv X pins σ H1 s1 → RelV v u → Slots X.K X.mg H1 L1 Z r σ → Sta X.K X.mg H1 L1 Z S1 → Ext H L H1 L1 → At X.K X.mg H1 L1 Z d v → PostS X W Z (k d S1) H1 L1 D → Qf u s1) :
    wpAny (model X.prog X.w) X.A (eval e X.env) Qf X.xe s := by
  cases q : fe r S with
  | ok d S1 =>
    rw [q] at p
    refine thn (ha.out pins s σ H r S L Z (fun v H1 => ∃ L1, Ext H L H1 L1 ∧ Sta X.K X.mg H1 L1 Z S1 ∧ At X.K X.mg H1 L1 Z d v) I sl st (by rw [q]; exact fun v H' L' x y z => ⟨L', x, y, z⟩)) fun u s1 ⟨v, H1, I1, rv, L1, x1, st1, a1⟩ => ?_
    exact hk d S1 v u s1 H1 L1 I1 rv (sl.mono x1) st1 x1 a1 (p.ext x1)
  | err c S1 =>
    rw [q] at p
    exact thn (ha.out pins s σ H r S L Z (fun v H1 => False) I sl st (by rw [q]; exact p)) fun u s1 ⟨v, H1, _, _, z⟩ => z.elim
  | bad => rw [q] at p; exact p.elim
theorem DT.stepS (ha : DT X (kW W) e bt) {pins : List (Addr × Obj)} {s : Shared} {σ : L2.St} {H : Hp} {r : Env1} {S : Store} {L Z : List Addr} {D : Ends} (I : Inv X pins σ H s) (sl : Slots X.K X.mg H L Z r σ) (st : Sta X.K X.mg H L Z S) {k : Bool → Store → Res Fl}
    (p : PostS X W Z ((bt r S).bind k) H L D) {Qf : Bool → Shared → Prop}
    (hk : ∀ d S1 s1 H1 L1, Inv X pins σ H1 s1 → Slots X.K X.mg H1 L1 Z r σ → Sta X.K X.mg H1 L1 Z S1 → Ext H L H1 L1 → PostS X W Z (k d S1) H1 L1 D → Qf d s1) :
    wpAny (model X.prog X.w) X.A (isTrue e X.env (eval e X.env)) Qf X.xe s := by
  cases q : bt r S with
  | ok d S1 =>
    rw [q] at p
    refine thn (ha.out pins s σ H r S L Z (fun v H1 => d = v ∧ ∃ L1, Ext H L H1 L1 ∧ Sta X.K X.mg H1 L1 Z S1) I sl st (by rw [q]; exact fun v H' L' x y z => ⟨z, L', x, y⟩)) fun b s1 ⟨H1, I1, e1, L1, x1, st1⟩ => ?_
    subst e1
    exact hk d S1 s1 H1 L1 I1 (sl.mono x1) st1 x1 (p.ext x1)
  | err c S1 =>
    rw [q] at p
    exact thn (ha.out pins s σ H r S L Z (fun v H1 => False) I sl st (by rw [q]; exact p)) fun u s1 ⟨H1, _, z⟩ => z.elim
  | bad => rw [q] at p; exact p.elim
theorem DA.stepS {es : List Expr} {la : LM} (ha : DA X (kW W) es la) (pos : Pos) {pins : List (Addr × Obj)} {s : Shared} {σ : L2.St} {H : Hp} {r : Env1} {S : Store} {L Z : List Addr} {D : Ends} (I : Inv X pins σ H s) (sl : Slots X.K X.mg H L Z r σ) (st : Sta X.K X.mg H L Z S) {k : List PV → Store → Res Fl}
    (p : PostS X W Z ((la r S).bind k) H L D) {Qf : List Value → Shared → Prop}
    (hk : ∀ ds S1 vs us s1 H1 L1, Inv X pins σ H1 s1 → Vals vs us → Slots X.K X.mg H1 L1 Z r σ → Sta X.K X.mg H1 L1 Z S1 → Ext H L H1 L1 → Ats X.K X.mg H1 L1 Z ds vs → PostS X W Z (k ds S1) H1 L1 D → Qf us s1) :
    wpAny (model X.prog X.w) X.A (spliced (backTo pos (starEach es X.env))) Qf X.xe s := by
  cases q : la r S with
  | ok d S1 =>
    rw [q] at p
    refine thn (ha.out pos pins s σ H r S L Z (fun v H1 => ∃ L1, Ext H L H1 L1 ∧ Sta X.K X.mg H1 L1 Z S1 ∧ Ats X.K X.mg H1 L1 Z d v) I sl st (by rw [q]; exact fun v H' L' x y z => ⟨L', x, y, z⟩)) fun u s1 ⟨v, H1, I1, rv, L1, x1, st1, a1⟩ => ?_
    exact hk d S1 v u s1 H1 L1 I1 rv (sl.mono x1) st1 x1 a1 (p.ext x1)
  | err c S1 =>
    rw [q] at p
    exact thn (ha.out pos pins s σ H r S L Z (fun v H1 => False) I sl st (by rw [q]; exact p)) fun u s1 ⟨v, H1, _, _, z⟩ => z.elim
  | bad => rw [q] at p; exact p.elim
theorem DS.ret (ha : De X (kW W) e fe) : DS X W (.Return (some e) pos) (sRet fe) := by
  refine Jd.mk ?_
  intro pins s σ H r S L Z D I sl st p
  exact wpAny_Return_some (ha.stepS I sl st p fun d S1 v u s1 H1 L1 I1 r1 sl1 st1 x1 a1 p1 => ⟨v, σ, H1, I1, r1, p1 v H1 L1 (Ext.refl H1 L1) st1 a1⟩)
theorem DS.brk : DS X W (.Break pos) sBrk := Jd.mk fun pins s σ H r S L Z D I sl st p => wpAny_Break ⟨σ, H, I, p σ H L (Ext.refl H L) sl st⟩
theorem DS.doc {x j pos'} : DS X W (.Expr (.Constant (.str x) j pos) pos') sNil := Jd.mk fun pins s σ H r S L Z D I sl st p => (ps_doc).run pins s σ H D I (p σ H L (Ext.refl H L) sl st)
theorem DS.expr (ha : De X (kW W) e fe) (hs : swapsWith e none pos.line X.env = pure false := by rfl) : DS X W (.Expr e pos) (sExpr fe) := by
  refine Jd.mk ?_
  intro pins s σ H r S L Z D I sl st p
  exact wpAny_Expr_any (ha.stepS I sl st p fun d S1 v u s1 H1 L1 I1 r1 sl1 st1 x1 a1 p1 => ⟨σ, H1, I1, p1 σ H1 L1 (Ext.refl H1 L1) sl1 st1⟩) I.quiet hs
theorem DS.ite {a b : List Stmt} (hc : DT X (kW W) e bt) (ha : DSs X W a g) (hb : DSs X W b h) : DS X W (.If e a b pos) (sIf bt g h) := by
  refine Jd.mk ?_
  intro pins s σ H r S L Z D I sl st p
  refine wpAny_If (hc.stepS I sl st p fun k S1 s1 H1 L1 I1 sl1 st1 x1 p1 => ?_)
  cases k with
  | true => exact ha.out pins s1 σ H1 r S1 L1 Z D I1 sl1 st1 p1
  | false => exact hb.out pins s1 σ H1 r S1 L1 Z D I1 sl1 st1 p1
theorem lt_of_N {pins : List (Addr × Obj)} {s : Shared} {σ : L2.St} {H : Hp} {i : Nat} {x : Str} (I : Inv X pins σ H s) (hi : X.N[i]? = some x) : i < σ.length := by
  rw [I.len]; exact (List.getElem?_eq_some_iff.mp hi).1
theorem DS.set {i : Nat} {x : Str} {pos' : Pos} (hN : X.N.Nodup) (hi : X.N[i]? = some x) (hx : Loc X.env.scope x) (he : De X (kW W) e fe) (hs : swapsWith e (some (.Name x pos')) pos.line X.env = pure false := by rfl)
    (hf : X.fn x = true ∨ X.env.scope.names.lookup x = some .local := by first | exact .inl rfl | exact .inr rfl | assumption) : DS X W (.Assign [.Name x pos'] e pos) (sSet i fe) := by
  refine Jd.mk ?_
  intro pins s σ H r S L Z D I sl st p
  refine wpAny_Assign_Name (he.stepS I sl st p fun d S1 v u s1 H1 L1 I1 r1 sl1 st1 x1 a1 p1 => ?_) hs
  exact store_ok I1 hN hi hx r1 (fun s2 I2 => ⟨_, H1, I2, p1 _ H1 L1 (Ext.refl H1 L1) (sl1.set a1 (lt_of_N I1 hi)) st1⟩) hf
end
theorem Sta.own {K : PySem.W.Frag} {mg : Str → Option Value} {H : Hp} {L Z : List Addr} {S : Store} {p : Addr} {ds : List PV} {vs : List V} (st : Sta K mg H L Z S) (e : H p = some (.lst vs)) (hL : p ∉ L) (hZ : p ∉ Z) (a : Ats K mg H (L ++ [p]) Z ds vs)
    (h : ∀ (i : Nat) c b, S[i]? = some c → L[i]? = some b → CellAt K mg H (L ++ [p]) Z b c) : Sta K mg H (L ++ [p]) Z (S ++ [.lst ds]) := by
  refine ⟨?_, by simp [st.len], fun i c b h1 h2 => ?_, st.zt, fun b hb => ?_, st.tabs⟩
  · rw [List.nodup_append]
    exact ⟨st.nd, by simp, fun b hb c hc => by simp at hc; subst hc; exact fun z => hL (z ▸ hb)⟩
  · by_cases hi : i < S.length
    · rw [List.getElem?_append_left hi] at h1
      rw [List.getElem?_append_left (by rw [← st.len]; exact hi)] at h2
      exact h i c b h1 h2
    · have hi' : i = S.length := by
        have := (List.getElem?_eq_some_iff.mp h1).1
        simp at this; omega
      subst hi'
      rw [List.getElem?_append_right (Nat.le_refl _)] at h1
      rw [st.len, List.getElem?_append_right (Nat.le_refl _)] at h2
      simp at h1 h2
      subst h1 h2
      exact ⟨vs, e, a⟩
  · rcases List.mem_append.mp hb with hb | hb
    · exact st.dj b hb
    · simp at hb; subst hb; exact hZ
end Dn
namespace Dn
open PySem PySem.Spec PyProof.Rows L2
open Builtin in
theorem pair3 {us : List (PyData × Addr × V)} {xs : List (PyData × Addr × Value)} (r : Paired (fun (p : PyData × Addr × V) (q : PyData × Addr × Value) => p.1 = q.1 ∧ p.2.1 = q.2.1 ∧ RelV p.2.2 q.2.2) us xs) :
    us.length = xs.length ∧ ∀ (i : Nat) (p : PyData × Addr × V), us[i]? = some p → ∃ q : PyData × Addr × Value, xs[i]? = some q ∧ p.1 = q.1 ∧ p.2.1 = q.2.1 ∧ RelV p.2.2 q.2.2 := by
  induction r with
  | nil => exact ⟨rfl, fun i p e => by simp at e⟩
  | cons h t ih =>
    refine ⟨by simp [ih.1], fun i p e => ?_⟩
    cases i with
    | zero =>
      simp at e; subst e
      exact ⟨_, rfl, h⟩
    | succ i =>
      simp at e
      obtain ⟨q, e1, e2⟩ := ih.2 i p e
      exact ⟨q, by simpa using e1, e2⟩
def Itkd (a : Addr) (n ep : Nat) : It :=
  ⟨fun i H => i < n ∧ ∃ us, H a = some (DicO us ep a) ∧ us.length = n, fun i H x H' => H' = H ∧ ∀ us, H a = some (DicO us ep a) → ∃ p, us[i]? = some p ∧ x = .ref p.2.1, fun i H => n ≤ i ∧ ∃ us, H a = some (DicO us ep a) ∧ us.length = n⟩
section
variable {P : Program} {w : World} {K : PySem.W.Frag} {tg : Expr} {d : Addr} {n ep : Nat}
theorem turn_keysD (it : Addr) : Turn P w K tg (Itkd d n ep) [it] it (fun i h => h.IsKeyIter it d i n ep) where
  mem := by simp
  obj := fun i h st b hb => by
    have e : b = it := by simpa using hb
    subst e
    obtain ⟨oi, e, c, dd⟩ := st
    exact ⟨oi, e, fun v z => by rw [dd] at z; cases z⟩
  keep := fun i h h' st k => st.at fun oi e => k it (by simp) oi e
  item := by
    intro X hP hw hK hc i pins s σ H E I hf st hg
    subst hP hw hK
    obtain ⟨hi, us, hd, hl⟩ := hg
    obtain ⟨f0, f1, f2, f3, f4, f5⟩ := hf it (by simp)
    obtain ⟨⟨z, y, nd, xs, r, o, es, ho, hx, hdat, he⟩, _⟩ := (show ObjOk X.prog X.w H s.heap d (DicO us ep d) from I.hok d _ hd)
    obtain ⟨l1, g1⟩ := pair3 r
    have hes : es.size = n := by rw [← Array.length_toList, he, List.length_map, ← l1, hl]
    obtain ⟨p, hp⟩ : ∃ p, us[i]? = some p := ⟨us[i]'(by omega), List.getElem?_eq_getElem _⟩
    obtain ⟨q, hq, e1, e2, e3⟩ := g1 i p hp
    have hx2 : es[i]? = some ⟨kh q.1, .ref q.2.1, q.2.2⟩ := by rw [← Array.getElem?_toList, he, List.getElem?_map, hq]; rfl
    refine next_key_item st ho hdat hes hx2 fun h' st' sb => ?_
    have I1 : Inv X pins σ H { s with heap := h' } := I.turned (t' := s.toks) (fun b ob hb e => (sb.2 b hb).trans e) f0 f1 f3 f4 f5
    obtain ⟨oi, e, c, dd⟩ := id st'
    refine ⟨.ref q.2.1, rfl, go_of (s := { s with heap := h' }) e c dd (by decide) ⟨.ref q.2.1, H, I1, rfl, ⟨rfl, fun us2 hd2 => ?_⟩, st', fun b hb => (hf b hb).1⟩⟩
    obtain ⟨⟨_, _, _, xs2, r2, o2, es2, ho2, _, hdat2, he2⟩, _⟩ := (show ObjOk X.prog X.w H s.heap d (DicO us2 ep d) from I.hok d _ hd2)
    rw [ho] at ho2; cases ho2
    rw [hdat] at hdat2; cases hdat2
    obtain ⟨l2, g2⟩ := pair3 r2
    have hl2 : us2.length = us.length := by
      rw [l2, l1]
      have := congrArg List.length (he.symm.trans he2)
      simpa using this.symm
    obtain ⟨p2, hp2⟩ : ∃ p, us2[i]? = some p := ⟨us2[i]'(by omega), List.getElem?_eq_getElem _⟩
    obtain ⟨q2, hq2, _, k2, _⟩ := g2 i p2 hp2
    refine ⟨p2, hp2, ?_⟩
    have hx3 : es[i]? = some ⟨kh q2.1, .ref q2.2.1, q2.2.2⟩ := by rw [← Array.getElem?_toList, he2, List.getElem?_map, hq2]; rfl
    rw [hx2] at hx3
    injection hx3 with hx3
    injection hx3 with _ hx3 _
    injection hx3 with hx3
    rw [k2, hx3]
  done := by
    intro X hP hw hK hc i pins s σ H E I hf st hg
    subst hP hw hK
    obtain ⟨hi, us, hd, hl⟩ := hg
    obtain ⟨f0, f1, f2, f3, f4, f5⟩ := hf it (by simp)
    obtain ⟨⟨z, y, nd, xs, r, o, es, ho, hx, hdat, he⟩, _⟩ := (show ObjOk X.prog X.w H s.heap d (DicO us ep d) from I.hok d _ hd)
    obtain ⟨l1, g1⟩ := pair3 r
    have hes : es.size = n := by rw [← Array.length_toList, he, List.length_map, ← l1, hl]
    exact next_key_end (I.ok.hd hc) st ho hdat hes hi fun h' eb => ⟨rfl, I.turned (t' := s.toks) (fun b ob hb e => eb b ob hb e) f0 f1 f3 f4 f5⟩
  self := fun A i s Q E st h => by
    refine wpAny_pyIter_slot st.typeIs PySem.F.slot_dict_keyiterator_iter (wpAny_call_entry PySem.F.slot_dict_keyiterator_iter st.typeIs PySem.F.entry_dict_keyiterator_iter ?_ (PySem.F.args_dict_keyiterator_iter_1 _))
    show wpAny _ _ (ret (.ref it)) _ _ s
    exact wpAny_pure ⟨_, rfl, "dict_keyiterator", _, st.typeIs, PySem.F.slot_dict_keyiterator_next.lookup, h⟩
end
def iKeysD (td : TE) : TI := fun σ H R => td σ H fun x H1 => ∃ d us ep, x = .ref d ∧ H1 d = some (DicO us ep d) ∧ R (Itkd d us.length ep) H1
theorem pi_keysD {X : Cx} {tg e : Expr} {td : TE} (he : PE X e td) : PI X tg e (iKeysD td) := by
  refine ⟨fun pins s σ H R I h => ?_⟩
  refine thn (he.run pins s σ H _ I h) fun u s1 ⟨x, H1, I1, rx, d, us, ep, ex, hd, q⟩ => ?_
  subst ex
  obtain rfl : u = Value.ref d := rx
  obtain ⟨⟨z, y, nd, xs, r, o, es, ho, hx, hdat, hes⟩, _⟩ := (show ObjOk X.prog X.w H1 s1.heap d (DicO us ep d) from I1.hok d _ hd)
  obtain ⟨l1, _⟩ := pair3 r
  have hsz : es.size = us.length := by rw [← Array.length_toList, hes, List.length_map, ← l1]
  refine iter_keys y ho hx hdat (pi_one (tk := s1.toks) I1 _ (turn_keysD _) ⟨_, Heap.get?_push_size _ rfl, rfl, ?_⟩ q)
  rw [hsz] <;> rfl
end Dn
namespace Dn
open PySem PySem.Spec PyProof.Rows L2
def PostF (X : Cx) (W : WX) (σ : L2.St) (Z : List Addr) (x : Res (List PV)) (H : Hp) (L : List Addr) (Q : VK) : Prop :=
  match x with
  | .ok ds S' => ∀ vs p H' L', Ext H L H' L' → Sta X.K X.mg H' L' Z S' → Ats X.K X.mg H' L' Z ds vs → H' p = none → Q (.ref p) (upd H' p (.lst vs))
  | .err c S' => ∀ H' L' cls, Ext H L H' L' → Sta X.K X.mg H' L' Z S' → X.mg c = some cls → W cls none σ H'
  | .bad => False
theorem PostF.ext {X : Cx} {W : WX} {σ : L2.St} {Z : List Addr} {x : Res (List PV)} {H H1 : Hp} {L L1 : List Addr} {Q : VK} (h : PostF X W σ Z x H L Q) (e : Ext H L H1 L1) : PostF X W σ Z x H1 L1 Q := by
  cases x with
  | ok f S' => exact fun vs p H' L' y => h vs p H' L' (e.trans y)
  | err c S' => exact fun H' L' cls y => h H' L' cls (e.trans y)
  | bad => exact h
def DF (X : Cx) (W : WX) (e : Expr) (f : LM) : Prop := Jd (
  ∀ (pins : List (Addr × Obj)) (s : Shared) (σ : L2.St) (H : Hp) (r : Env1) (S : Store) (L Z : List Addr) (Q : VK), Inv X pins σ H s → Slots X.K X.mg H L Z r σ → Sta X.K X.mg H L Z S → PostF X W σ Z (f r S) H L Q →
    wpAny (model X.prog X.w) X.A (eval e X.env) (EP X pins σ Q) X.xe s)
def eNew (f : LM) : EM := fun r S => (f r S).bind fun ds S1 => .ok (.lst ds) S1
def eCell (f : LM) : EM := fun r S => (f r S).bind fun ds S1 => .ok (.loc S1.length) (S1 ++ [.lst ds])
def lDis (a : LM) : LM := fun r S => (a r S).bind fun ds S1 => if ds.length ≤ sizeLine then .ok ds S1 else .bad
theorem Ext.own {H : Hp} {L : List Addr} {p : Addr} {o : HO} (n : H p = none) : Ext H L (upd H p o) (L ++ [p]) :=
  ⟨⟨[p], rfl, fun a h => by simp at h; subst h; exact n⟩, fun a u h _ _ => by rw [upd_ne (ne_of_none h n)]; exact h, fun a u h => ⟨u, by rw [upd_ne (ne_of_none h n)]; exact h⟩⟩
theorem Sta.new {K : PySem.W.Frag} {mg : Str → Option Value} {H : Hp} {L Z : List Addr} {S : Store} {p : Addr} {ds : List PV} {vs : List V} (st : Sta K mg H L Z S) (n : H p = none) (a : Ats K mg H L Z ds vs) : Sta K mg (upd H p (.lst vs)) (L ++ [p]) Z (S ++ [.lst ds]) := by
  have x : Ext H L (upd H p (.lst vs)) (L ++ [p]) := Ext.own n
  refine Sta.own (st.laid n) upd_same (st.fresh n).1 (st.fresh n).2 (a.mono x) fun i c b h1 h2 => ?_
  obtain ⟨u, hu⟩ := st.has (List.mem_of_getElem? h2)
  exact (st.cells i c b h1 h2).mono x (by rw [upd_ne (ne_of_none hu n)])
section
variable {X : Cx} {W : WX} {V' : XK} {a b c e : Expr} {fa fb fc : EM} {ba bb : BM} {es : List Expr} {la : LM} {pos : Pos}
theorem De.new (h : DF X W e la) : De X W e (eNew la) := by
  refine Jd.mk ?_
  intro pins s σ H r S L Z Q I sl st p
  refine h.out pins s σ H r S L Z Q I sl st ?_
  unfold eNew at p
  cases q : la r S with
  | ok ds S1 =>
    rw [q] at p
    exact fun vs q' H' L' x st' at' n => post_lst (p.ext x) st' at' q' n
  | err c S1 => rw [q] at p; exact p
  | bad => rw [q] at p; exact p
theorem De.cell (h : DF X W e la) : De X W e (eCell la) := by
  refine Jd.mk ?_
  intro pins s σ H r S L Z Q I sl st p
  refine h.out pins s σ H r S L Z Q I sl st ?_
  unfold eCell at p
  cases q : la r S with
  | ok ds S1 =>
    rw [q] at p
    have p : PostV X W σ Z (.ok (.loc S1.length) (S1 ++ [.lst ds])) H L Q := p
    exact fun vs q' H' L' x st' at' n => p _ _ (L' ++ [q']) (x.trans (Ext.own n)) (st'.new n at') (.loc (by rw [st'.len, List.getElem?_append_right (Nat.le_refl _)]; simp))
  | err c S1 => rw [q] at p; exact p
  | bad => rw [q] at p; exact p
theorem DF.lst (h : DA X W es la) : DF X W (.List es pos) (lDis la) := by
  refine Jd.mk ?_
  intro pins s σ H r S L Z Q I sl st p
  unfold lDis at p
  cases q : la r S with
  | err c S1 =>
    rw [q] at p
    refine wpAny_List_spliced (thn (h.out pos pins s σ H r S L Z (fun _ _ => False) I sl st (by rw [q]; exact p)) fun us s1 ⟨_, _, _, _, z⟩ => z.elim)
  | bad => rw [q] at p; exact p.elim
  | ok ds S1 =>
    rw [q] at p
    have p : PostF X W σ Z (if ds.length ≤ sizeLine then .ok ds S1 else .bad) H L Q := p
    by_cases hz : ds.length ≤ sizeLine
    · rw [if_pos hz] at p
      refine wpAny_List_spliced (thn (h.out pos pins s σ H r S L Z (fun v H1 => ∃ L1, Ext H L H1 L1 ∧ Sta X.K X.mg H1 L1 Z S1 ∧ Ats X.K X.mg H1 L1 Z ds v) I sl st (by rw [q]; exact fun v H' L' x y z => ⟨L', x, y, z⟩)) fun us s1 ⟨xs, H1, I1, r1, L1, x1, st1, a1⟩ => ?_)
      have hl := a1.len
      have hf : H1 s1.heap.objs.size = none := I1.hok.fresh (Nat.le_refl _)
      refine ⟨by rw [← r1.length, ← hl]; exact hz, .ref s1.heap.objs.size, upd H1 s1.heap.objs.size (.lst xs), I1.laid (t' := s1.toks) (fun b u e => Heap.get?_push_of_some _ e) (Nat.le_refl _) ?_, rfl, p xs _ H1 L1 x1 st1 a1 hf⟩
      exact ⟨by rw [← hl]; exact hz, us, 0, r1, Heap.get?_push_size _ rfl⟩
    · rw [if_neg hz] at p; exact p.elim
theorem Sta.put {K : PySem.W.Frag} {mg : Str → Option Value} {H : Hp} {L Z : List Addr} {S : Store} {k : Nat} {p : Addr} {ds ds' : List PV} {vs' : List V} (st : Sta K mg H L Z S) (e : S[k]? = some (.lst ds)) (hk : L[k]? = some p) (a : Ats K mg H L Z ds' vs') :
    Ext H L (upd H p (.lst vs')) L ∧ Sta K mg (upd H p (.lst vs')) L Z (S.set k (.lst ds')) := by
  have hp : p ∈ L := List.mem_of_getElem? hk
  obtain ⟨vs, h1, _⟩ := st.cells k _ p e hk
  have x : Ext H L (upd H p (.lst vs')) L := by
    refine ⟨⟨[], by simp, fun _ h => nomatch h⟩, fun b u h hm _ => ?_, fun b u h => ?_⟩
    · by_cases hb : b = p
      · subst hb; rw [h1] at h; cases h; exact absurd trivial (hm hp)
      · rw [upd_ne hb]; exact h
    · by_cases hb : b = p
      · subst hb; exact ⟨_, upd_same⟩
      · exact ⟨u, by rw [upd_ne hb]; exact h⟩
  refine ⟨x, st.nd, by simp [st.len], fun i c b h2 h3 => ?_, fun b h => ?_, st.dj, fun p' hp' => tab_but (st.tabs p' hp') h1 fun a ha => upd_ne ha⟩
  · by_cases hi : k = i
    · subst hi
      rw [hk] at h3; cases h3
      have hl : k < S.length := (List.getElem?_eq_some_iff.mp e).1
      rw [List.getElem?_set_self hl] at h2; cases h2
      exact ⟨vs', upd_same, a.mono x⟩
    · rw [List.getElem?_set_ne hi] at h2
      have hb : b ≠ p := fun z => by
        subst z
        obtain ⟨n1, e1⟩ := List.getElem?_eq_some_iff.mp hk
        obtain ⟨n2, e2⟩ := List.getElem?_eq_some_iff.mp h3
        exact hi ((List.getElem_inj st.nd).mp (e1.trans e2.symm))
      exact (st.cells i c b h2 h3).mono x (by rw [upd_ne hb])
  · obtain ⟨u, hu⟩ := st.zt b h
    by_cases hb : b = p
    · subst hb; exact ⟨_, upd_same⟩
    · exact ⟨u, by rw [upd_ne hb]; exact hu⟩
def putIx (o i d : PV) (r : Env1) (S : Store) : Res Fl := match o with
  | .loc k => (match S[k]? with
    | some (.lst ds) => (match i with
      | .int j => (match ixN ds.length j with
        | some m => .ok (.nx r) (S.set k (.lst (ds.set m d)))
        | none => .bad)
      | _ => .bad)
    | _ => .bad)
  | _ => .bad
def sPut (o i v : EM) : SM := fun r S => (v r S).bind fun d S1 => (o r S1).bind fun x S2 => (i r S2).bind fun y S3 => putIx x y d r S3
theorem DS.put {o i : Expr} {fo fi fv : EM} {tpos : Pos} (hv : De X (kW V') e fv) (ho : De X (kW V') o fo) (hi : De X (kW V') i fi) (hs : swapsWithSole [.Subscript o i tpos] e pos.line X.env = pure false := by rfl) (hw : swappedStores [.Subscript o i tpos] e X.env = pure none := by rfl)
    (h1 : (assignEach [.Subscript o i tpos] X.env).map (·.2) = [assign (.Subscript o i tpos) X.env] := by rfl)
    (ha : ∀ v, assign (.Subscript o i tpos) X.env v = (do
      let ov ← holding [v] (eval o X.env)
      let iv ← holding [v, ov] (eval i X.env)
      standAt tpos
      holding [v, ov, iv] (setItem ov iv v)
      release [v, ov, iv] []) := by intro _; rfl) : DS X V' (.Assign [.Subscript o i tpos] e pos) (sPut fo fi fv) := by
  refine Jd.mk ?_
  intro pins s σ H r S L Z D I sl st p
  refine wpAny_Assign_stores (hv.stepS I sl st p fun d S1 x u s1 H1 L1 I1 r1 sl1 st1 x1 a1 p1 => ?_) hs hw
  rw [h1]
  show wpAny _ _ (assign (.Subscript o i tpos) X.env u) _ _ _
  rw [ha]
  refine wpAny_bind (wpAny_holding (ho.stepS I1 sl1 st1 p1 fun y S2 yv ov s2 H2 L2 I2 r2 sl2 st2 x2 a2 p2 => ?_))
  refine wpAny_bind (wpAny_holding (hi.stepS I2 sl2 st2 p2 fun z S3 zv iv s3 H3 L3 I3 r3 sl3 st3 x3 a3 p3 => ?_))
  refine wpAny_bind (wpAny_standAt (wpAny_bind (wpAny_holding ?_)))
  have a1 := (a1.mono x2).mono x3
  have a2 := a2.mono x3
  unfold putIx at p3
  cases y with
  | loc k =>
    cases hc : S3[k]? with
    | none => simp only [hc] at p3; exact p3.elim
    | some cl =>
      cases cl with
      | lst ds =>
        simp only [hc] at p3
        cases z with
        | int j =>
          simp only at p3
          cases hm : ixN ds.length j with
          | none => simp only [hm] at p3; exact p3.elim
          | some m =>
            simp only [hm] at p3
            cases a2 with
            | loc hk =>
              cases a3
              obtain ⟨vs, e1, b1⟩ := st3.cells k _ _ hc hk
              have b2 := b1.set a1 m
              obtain ⟨x4, st4⟩ := st3.put hc hk b2
              refine thn (set_list pins s3 σ H3 _ _ x ov iv u (fun H' => H' = upd H3 _ (.lst (vs.set m x))) I3 r2 r3 r1 ⟨_, vs, j, m, rfl, rfl, e1, by rw [← b1.len]; exact hm, rfl⟩) fun _ s4 ⟨H4, I4, e4⟩ => ?_
              subst e4
              exact wpAny_release ⟨σ, _, I4, p3 σ _ L3 x4 (sl3.mono x4) st4⟩
        | _ => exact (show False from p3).elim
      | ins nm fs => simp only [hc] at p3; exact p3.elim
      | dic kvs ep => simp only [hc] at p3; exact p3.elim
      | set ks => simp only [hc] at p3; exact p3.elim
  | _ => exact (show False from p3).elim
def DMt (X : Cx) (W : WX) (T id : String) (g : PV → List PV → Store → Res PV) : Prop :=
  ∀ (pins : List (Addr × Obj)) (s : Shared) (σ : L2.St) (H : Hp) (S : Store) (L Z : List Addr) (Q : VK) (d : PV) (x : V) (ds : List PV) (xs : List V) (v : Value) (us : List Value), Inv X pins σ H s → Sta X.K X.mg H L Z S → At X.K X.mg H L Z d x → Ats X.K X.mg H L Z ds xs → RelV x v → Vals xs us →
    PostV X W σ Z (g d ds S) H L Q → wpAny (model X.prog X.w) X.A (call (.builtin id) (v :: us)) (EP X pins σ Q) X.xe s
def isT (T : String) (S : Store) (d : PV) : Bool := match d with
  | .str _ => T == "str"
  | d => match lstOf S d with
    | some _ => T == "list"
    | none => false
def eMt (T : String) (g : PV → List PV → Store → Res PV) (o : EM) (a : LM) : EM := fun r S => (o r S).bind fun d S1 => if isT T S1 d = true then (a r S1).bind fun ds S2 => g d ds S2 else .bad
theorem isT_ty {K : PySem.W.Frag} {mg : Str → Option Value} {H : Hp} {L Z : List Addr} {S : Store} {d : PV} {v : V} {T : String} (st : Sta K mg H L Z S) (a : At K mg H L Z d v) (h : isT T S d = true) : tyV K T v H := by
  have gen : (match lstOf S d with
    | some _ => T == "list"
    | none => false) = true → tyV K T v H := fun h => by
    cases e : lstOf S d with
    | none => rw [e] at h; cases h
    | some xs =>
      rw [e] at h
      obtain ⟨q, vs, rfl, h1, _⟩ := lst_at st a e
      exact .inl ⟨eq_of_beq h, vs, .of h1⟩
  cases d with
  | str z => cases a; exact eq_of_beq h
  | non => exact gen h
  | bl _ => exact gen h
  | int _ => exact gen h
  | tup _ => exact gen h
  | lst _ => exact gen h
  | obj _ _ => exact gen h
  | loc _ => exact gen h
  | scr _ => exact gen h
  | ty _ => exact gen h
  | cls _ => exact gen h
  | exc _ => exact gen h
  | dic _ => exact gen h
  | tub _ => exact gen h
  | dik _ => exact gen h
theorem De.bm {T id : String} {name : Str} {g : PV → List PV → Store → Res PV} {o : Expr} {fo : EM} {apos cpos : Pos} (pa : PlainAttrs T) (slot : Slot T name id) (hty : typeOf (.builtin id) = pure (.type "method_descriptor")) (hm : DMt X W T id g) (ho : De X W o fo) (ha : DA X W (e :: es) la)
    (hbase : attributeBase o name X.env (eval o X.env) = eval o X.env := by rfl)
    (hfew : ((backTo cpos (starEach (e :: es) X.env)).all (fun x => !x.1) && (backToKw cpos (keywordEach [] X.env)).all (fun x => x.1.isSome)
      && decide ((e :: es).length + ([] : List Keyword).length + (if ([] : List Keyword).isEmpty then 0 else 1) < 30)) = true := by rfl)
    (hline : (apos.endLine == cpos.line) = true := by rfl) (hs : starEach (e :: es) X.env = (false, eval e X.env) :: starEach es X.env := by rfl) (hplain : (backTo cpos (starEach es X.env)).any (·.1) = false := by rfl) :
    De X W (.Call (.Attribute o name apos) (e :: es) [] cpos) (eMt T g fo la) := by
  refine Jd.mk ?_
  intro pins s σ H r S L Z Q I sl st p
  refine wpAny_Call_method_late hbase hfew hline rfl (ho.step I sl st p fun d S1 x v s1 H1 L1 I1 r1 sl1 st1 x1 a1 p1 => ?_)
  by_cases hT : isT T S1 d = true
  · rw [if_pos hT] at p1
    obtain ⟨h1, h2⟩ := tyV_is I1 r1 (isT_ty st1 a1 hT)
    refine ⟨T, id, pa, slot, hty, h1, h2, ?_⟩
    have hA := ha.step cpos I1 sl1 st1 p1 (Qf := fun us s2 => wpAny (model X.prog X.w) X.A (call (.builtin id) (v :: us)) (EP X pins σ Q) X.xe s2) fun ds S2 xs us s2 H2 L2 I2 r2 sl2 st2 x2 a2 p2 => hm pins s2 σ H2 S2 L2 Z Q d x ds xs v us I2 st2 (a1.mono x2) a2 r1 r2 p2
    rw [hs] at hA ⊢
    exact Calls.callWith_builtin (by show (false || (backTo cpos (starEach es X.env)).any (·.1)) = false; rw [hplain] <;> rfl) (Calls.evalArgs_plain hA)
  · rw [if_neg hT] at p1; exact p1.elim
theorem De.bm0 {T id : String} {name : Str} {g : PV → List PV → Store → Res PV} {o : Expr} {fo : EM} {apos cpos : Pos} (pa : PlainAttrs T) (slot : Slot T name id) (hty : typeOf (.builtin id) = pure (.type "method_descriptor")) (hm : DMt X W T id g) (ho : De X W o fo)
    (hbase : attributeBase o name X.env (eval o X.env) = eval o X.env := by rfl) (hline : (apos.endLine == cpos.line) = true := by rfl) :
    De X W (.Call (.Attribute o name apos) [] [] cpos) (eMt T g fo lNil) := by
  refine Jd.mk ?_
  intro pins s σ H r S L Z Q I sl st p
  refine wpAny_Call_method0_late hbase hline (ho.step I sl st p fun d S1 x v s1 H1 L1 I1 r1 sl1 st1 x1 a1 p1 => ?_)
  by_cases hT : isT T S1 d = true
  · rw [if_pos hT] at p1
    obtain ⟨h1, h2⟩ := tyV_is I1 r1 (isT_ty st1 a1 hT)
    exact ⟨T, id, pa, slot, hty, h1, h2, Calls.callWith_builtin rfl (PySem.evalArgs_none (hm pins s1 σ H1 S1 L1 Z Q d x [] [] v [] I1 st1 a1 .nil r1 .nil p1))⟩
  · rw [if_neg hT] at p1; exact p1.elim
def vAppend (o : PV) (ds : List PV) (S : Store) : Res PV := match o, ds with
  | .loc k, [d] => (match S[k]? with
    | some (.lst xs) => if xs.length < sizeLine then .ok .non (S.set k (.lst (xs ++ [d]))) else .bad
    | _ => .bad)
  | _, _ => .bad
theorem dmt_append : DMt X W "list" "list.append" vAppend := by
  intro pins s σ H S L Z Q d x ds xs v us I st a b r r2 p
  unfold vAppend at p
  match ds, d, a, b, p with
  | [y], .loc k, a, b, p =>
    cases hc : S[k]? with
    | none => simp only [hc] at p; exact p.elim
    | some cl =>
      cases cl with
      | lst zs =>
        simp only [hc] at p
        by_cases hz : zs.length < sizeLine
        · rw [if_pos hz] at p
          cases a with
          | loc hk =>
            obtain ⟨yv, rfl, ay⟩ := b.one
            obtain ⟨vs, e1, b1⟩ := st.cells k _ _ hc hk
            obtain ⟨x4, st4⟩ := st.put hc hk (b1.append (.cons ay .nil))
            exact mt_append pins s σ H _ _ v us Q I r r2 ⟨_, vs, yv, rfl, rfl, e1, by rw [← b1.len]; exact hz, p _ _ L x4 st4 .non⟩
        · rw [if_neg hz] at p; exact p.elim
      | ins nm fs => simp only [hc] at p; exact p.elim
      | dic kvs ep => simp only [hc] at p; exact p.elim
      | set ks => simp only [hc] at p; exact p.elim
  | [], d, _, _, p => exact (show False from by cases d <;> exact p).elim
  | _ :: _ :: _, d, _, _, p => exact (show False from by cases d <;> exact p).elim
  | [_], .non, _, _, p => exact p.elim
  | [_], .bl _, _, _, p => exact p.elim
  | [_], .int _, _, _, p => exact p.elim
  | [_], .str _, _, _, p => exact p.elim
  | [_], .tup _, _, _, p => exact p.elim
  | [_], .lst _, _, _, p => exact p.elim
  | [_], .obj _ _, _, _, p => exact p.elim
  | [_], .scr _, _, _, p => exact p.elim
  | [_], .ty _, _, _, p => exact p.elim
  | [_], .cls _, _, _, p => exact p.elim
  | [_], .exc _, _, _, p => exact p.elim
  | [_], .dic _, _, _, p => exact p.elim
  | [_], .tub _, _, _, p => exact p.elim
  | [_], .dik _, _, _, p => exact p.elim
end
inductive Wh where
  | l (k : Nat) | d (k : Nat) | w (k : Nat) (kvs : List (PV × PV))
structure Src where
  ds : List PV
  k : Option Wh
def Src.there (x : Src) (S : Store) : Prop := match x.k with
  | none => True
  | some (.l k) => S[k]? = some (.lst x.ds)
  | some (.d k) => ∃ kvs, S[k]? = some (.dic kvs kvs.length) ∧ kvs.map (·.1) = x.ds
  | some (.w k kvs) => S[k]? = some (.dic kvs kvs.length)
structure Yld (X : Cx) (Z : List Addr) (J : It) (H0 : Hp) (L0 : List Addr) (x : Src) : Prop where
  go : ∀ i H L S, Ext H0 L0 H L → Sta X.K X.mg H L Z S → x.there S → i < x.ds.length → J.go i H
  stop : ∀ H L S, Ext H0 L0 H L → Sta X.K X.mg H L Z S → x.there S → J.stop x.ds.length H
  yld : ∀ (Y : List Addr) i H L S v H', (∀ q ∈ Y, H0 q = none) → Ext H0 L0 H L → Sta X.K X.mg H L (Y ++ Z) S → x.there S → J.yld i H v H' → i < x.ds.length → ∃ d, x.ds[i]? = some d ∧ Ext H L H' L ∧ Sta X.K X.mg H' L (Y ++ Z) S ∧ At X.K X.mg H' L (Y ++ Z) d v
def PostI (X : Cx) (W : WX) (σ : L2.St) (Z : List Addr) (x : Res Src) (H : Hp) (L : List Addr) (R : It → Hp → Prop) : Prop :=
  match x with
  | .ok c S' => ∀ J H' L', Ext H L H' L' → Sta X.K X.mg H' L' Z S' → Yld X Z J H' L' c → R J H'
  | .err c S' => ∀ H' L' cls, Ext H L H' L' → Sta X.K X.mg H' L' Z S' → X.mg c = some cls → W cls none σ H'
  | .bad => False
abbrev IM := Env1 → Store → Res Src
def DI (X : Cx) (W : WX) (tg iter : Expr) (f : IM) : Prop := Jd (
  ∀ (pins : List (Addr × Obj)) (s : Shared) (σ : L2.St) (H : Hp) (r : Env1) (S : Store) (L Z : List Addr) (R : It → Hp → Prop), Inv X pins σ H s → Slots X.K X.mg H L Z r σ → Sta X.K X.mg H L Z S → PostI X W σ Z (f r S) H L R →
    wpAny (model X.prog X.w) X.A (eval iter X.env) (fun v s1 => wpAny (model X.prog X.w) X.A (pyIter v) (PIE X pins σ tg R) X.xe s1) X.xe s)
abbrev rdI (X : Cx) (W : WX) (f : IM) : TI := fun σ H R => ∃ r S L Z, Slots X.K X.mg H L Z r σ ∧ Sta X.K X.mg H L Z S ∧ PostI X W σ Z (f r S) H L R
theorem DI.pi {X : Cx} {W : WX} {tg iter : Expr} {f : IM} (h : DI X W tg iter f) : PI X tg iter (rdI X W f) := ⟨fun pins s σ H R I ⟨r, S, L, Z, sl, st, p⟩ => h.out pins s σ H r S L Z R I sl st p⟩
def srcOf (d : PV) (S : Store) : Res Src := match d with
  | .tup xs => .ok ⟨xs, none⟩ S
  | .lst xs => .ok ⟨xs, none⟩ S
  | .scr ns => .ok ⟨ns.map PV.int, none⟩ S
  | .loc k => (match S[k]? with
    | some (.lst xs) => .ok ⟨xs, some (.l k)⟩ S
    | some (.dic kvs ep) => if ep = kvs.length then .ok ⟨kvs.map (·.1), some (.d k)⟩ S else .bad
    | _ => .bad)
  | .dic kvs => .ok ⟨kvs.map (·.1), none⟩ S
  | _ => .bad
def iVal (a : EM) : IM := fun r S => (a r S).bind srcOf
def rng (lo : Int) (n : Nat) : List PV := (List.range n).map fun (i : Nat) => PV.int (lo + (i : Int))
def iRange1 (a : EM) : IM := fun r S => (a r S).bind fun d S1 => match d with
  | .int n => if -(2 ^ 62) ≤ n ∧ n < 2 ^ 62 then .ok ⟨rng 0 n.toNat, none⟩ S1 else .bad
  | _ => .bad
def rngOf (d e : PV) (S2 : Store) : Res Src := match d with
  | .int n => (match e with
    | .int m => if -(2 ^ 62) ≤ n ∧ n < 2 ^ 62 ∧ -(2 ^ 62) ≤ m ∧ m < 2 ^ 62 then .ok ⟨rng n (m - n).toNat, none⟩ S2 else .bad
    | _ => .bad)
  | _ => .bad
def iRange2 (a b : EM) : IM := fun r S => (a r S).bind fun d S1 => (b r S1).bind fun e S2 => rngOf d e S2
section
variable {X : Cx} {W : WX} {tg e : Expr} {fe : EM} {la : LM} {pos p' : Pos}
theorem yld_list {Z : List Addr} {H : Hp} {L : List Addr} {a : Addr} {ds : List PV} {vs : List V} (h : ∀ H' L', Ext H L H' L' → SqL X.K H' a vs) (b : Ats X.K X.mg H L Z ds vs) : Yld X Z (Itl X.K a) H L ⟨ds, none⟩ := by
  have hl := b.len
  refine ⟨fun i H' L' S x st _ hi => ?_, fun H' L' S x st _ => ?_, fun Y i H' L' S v H2 ny x st _ y hi => ?_⟩
  · exact ⟨vs, vs[i]'(by rw [← hl]; exact hi), h _ _ x, by simp [← hl]⟩
  · exact ⟨vs, h _ _ x, by rw [← hl]; exact Nat.le_refl _⟩
  · obtain ⟨rfl, y⟩ := y
    have q := y vs (h _ _ x)
    have hi' : i < ds.length := hi
    obtain ⟨w, e1, a1⟩ := b.get (i := i) (d := ds[i]) (by simp [hi'])
    rw [e1] at q; cases q
    exact ⟨ds[i], by simp [hi'], Ext.refl _ _, st, (a1.hides ny).mono x⟩
theorem yld_tup {Z : List Addr} {H : Hp} {L : List Addr} {a : Addr} {ds : List PV} {vs : List V} (h : SqT X.K H a vs) (b : Ats X.K X.mg H L Z ds vs) : Yld X Z (Itt X.K a) H L ⟨ds, none⟩ := by
  have hl := b.len
  refine ⟨fun i H' L' S x st _ hi => ?_, fun H' L' S x st _ => ?_, fun Y i H' L' S v H2 ny x st _ y hi => ?_⟩
  · exact ⟨vs, vs[i]'(by rw [← hl]; exact hi), x.sqt h, by simp [← hl]⟩
  · exact ⟨vs, x.sqt h, by rw [← hl]; exact Nat.le_refl _⟩
  · obtain ⟨rfl, y⟩ := y
    have q := y vs (x.sqt h)
    have hi' : i < ds.length := hi
    obtain ⟨w, e1, a1⟩ := b.get (i := i) (d := ds[i]) (by simp [hi'])
    rw [e1] at q; cases q
    exact ⟨ds[i], by simp [hi'], Ext.refl _ _, st, (a1.hides ny).mono x⟩
theorem yld_loc {Z : List Addr} {H : Hp} {L : List Addr} {a : Addr} {k : Nat} {ds : List PV} (hk : L[k]? = some a) : Yld X Z (Itl X.K a) H L ⟨ds, some (.l k)⟩ := by
  have at_ : ∀ {H' : Hp} {L' Z' : List Addr} {S : Store}, Ext H L H' L' → Sta X.K X.mg H' L' Z' S → S[k]? = some (.lst ds) → ∃ vs, H' a = some (.lst vs) ∧ Ats X.K X.mg H' L' Z' ds vs := fun {H' L' Z' S} x st e => by
    obtain ⟨n, e1, _⟩ := x.pre
    exact st.cells k _ a e (by rw [e1, List.getElem?_append_left (List.getElem?_eq_some_iff.mp hk).1]; exact hk)
  refine ⟨fun i H' L' S x st t hi => ?_, fun H' L' S x st t => ?_, fun Y i H' L' S v H2 ny x st t y hi => ?_⟩
  · obtain ⟨vs, h1, b⟩ := at_ x st t
    have hi : i < ds.length := hi
    exact ⟨vs, vs[i]'(by rw [← b.len]; exact hi), .of h1, by simp [← b.len]⟩
  · obtain ⟨vs, h1, b⟩ := at_ x st t
    exact ⟨vs, .of h1, by rw [← b.len]; exact Nat.le_refl _⟩
  · obtain ⟨rfl, y⟩ := y
    obtain ⟨vs, h1, b⟩ := at_ x st t
    have q := y vs (.of h1)
    have hi' : i < ds.length := hi
    obtain ⟨w, e1, a1⟩ := b.get (i := i) (d := ds[i]) (by simp [hi'])
    rw [e1] at q; cases q
    exact ⟨ds[i], by simp [hi'], Ext.refl _ _, st, a1⟩
theorem atd_len {K : PySem.W.Frag} {mg : Str → Option Value} {H : Hp} {L Z : List Addr} : ∀ {kvs : List (PV × PV)} {us : List (PyData × Addr × V)}, Atd K mg H L Z kvs us → kvs.length = us.length
  | _, _, .nil => rfl
  | _, _, .cons _ _ _ _ t => by simp [atd_len t]
theorem atd_key {K : PySem.W.Frag} {mg : Str → Option Value} {H : Hp} {L Z : List Addr} : ∀ {kvs : List (PV × PV)} {us : List (PyData × Addr × V)}, Atd K mg H L Z kvs us → ∀ {i : Nat} {p : PyData × Addr × V}, us[i]? = some p → ∃ k d, kvs[i]? = some (k, d) ∧ At K mg H L Z k (.ref p.2.1)
  | _, _, .nil, i, p, h => by simp at h
  | _, _, .cons (k := k) (d := d) a b c e t, i, p, h => by
    cases i with
    | zero => simp at h; subst h; exact ⟨k, d, rfl, c⟩
    | succ i => simp at h; obtain ⟨k2, d2, e1, e2⟩ := atd_key t h; exact ⟨k2, d2, by simpa using e1, e2⟩
theorem yld_dic {Z : List Addr} {H : Hp} {L : List Addr} {a : Addr} {us : List (PyData × Addr × V)} {kvs : List (PV × PV)} {ep : Nat} (h : H a = some (DicO us ep a)) (hL : a ∉ L) (b : Atd X.K X.mg H L Z kvs us) : Yld X Z (Itkd a us.length ep) H L ⟨kvs.map (·.1), none⟩ := by
  have hl := atd_len b
  have keep : ∀ {H' : Hp} {L' : List Addr}, Ext H L H' L' → H' a = some (DicO us ep a) := fun {H' L'} x => x.keep _ _ h (fun z => absurd z hL) (fun _ => nofun)
  refine ⟨fun i H' L' S x st _ hi => ?_, fun H' L' S x st _ => ?_, fun Y i H' L' S v H2 ny x st _ y hi => ?_⟩
  · have hi : i < (kvs.map (·.1)).length := hi
    exact ⟨by rw [List.length_map] at hi; omega, us, keep x, rfl⟩
  · exact ⟨by show us.length ≤ (kvs.map (·.1)).length; rw [List.length_map]; omega, us, keep x, rfl⟩
  · obtain ⟨rfl, y⟩ := y
    obtain ⟨p, hp, rfl⟩ := y us (keep x)
    obtain ⟨k, d, e1, e2⟩ := atd_key b hp
    exact ⟨k, by show (kvs.map (·.1))[i]? = _; rw [List.getElem?_map, e1]; rfl, Ext.refl _ _, st, (e2.hides ny).mono x⟩
theorem yld_dloc {Z : List Addr} {H : Hp} {L : List Addr} {a : Addr} {k : Nat} {ds : List PV} (hk : L[k]? = some a) : Yld X Z (Itkd a ds.length ds.length) H L ⟨ds, some (.d k)⟩ := by
  have at_ : ∀ {H' : Hp} {L' Z' : List Addr} {S : Store}, Ext H L H' L' → Sta X.K X.mg H' L' Z' S → Src.there ⟨ds, some (.d k)⟩ S → ∃ kvs us, H' a = some (DicO us ds.length a) ∧ us.length = ds.length ∧ kvs.map (·.1) = ds ∧ Atd X.K X.mg H' L' Z' kvs us := fun {H' L' Z' S} x st e => by
    obtain ⟨kvs, e, ek⟩ := e
    obtain ⟨n, e1, _⟩ := x.pre
    obtain ⟨us, h1, b⟩ := st.cells k _ a e (by rw [e1, List.getElem?_append_left (List.getElem?_eq_some_iff.mp hk).1]; exact hk)
    have el : kvs.length = ds.length := by rw [← (show kvs.map (·.1) = ds from ek), List.length_map]
    rw [el] at h1
    exact ⟨kvs, us, h1, by rw [← atd_len b]; exact el, ek, b⟩
  refine ⟨fun i H' L' S x st t hi => ?_, fun H' L' S x st t => ?_, fun Y i H' L' S v H2 ny x st t y hi => ?_⟩
  · obtain ⟨kvs, us, h1, hl, ek, b⟩ := at_ x st t
    exact ⟨hi, us, h1, hl⟩
  · obtain ⟨kvs, us, h1, hl, ek, b⟩ := at_ x st t
    exact ⟨Nat.le_refl _, us, h1, hl⟩
  · obtain ⟨rfl, y⟩ := y
    obtain ⟨kvs, us, h1, hl, ek, b⟩ := at_ x st t
    obtain ⟨p, hp, rfl⟩ := y us h1
    obtain ⟨k2, d2, e1, e2⟩ := atd_key b hp
    exact ⟨k2, by show ds[i]? = _; rw [← ek, List.getElem?_map, e1]; rfl, Ext.refl _ _, st, e2⟩
theorem DI.val (h : De X W e fe) : DI X W tg e (iVal fe) := by
  refine Jd.mk ?_
  intro pins s σ H r S L Z R I sl st p
  unfold iVal at p
  cases q : fe r S with
  | bad => rw [q] at p; exact p.elim
  | err c S1 =>
    rw [q] at p
    exact thn (h.out pins s σ H r S L Z (fun _ _ => False) I sl st (by rw [q]; exact p)) fun u s1 ⟨_, _, _, _, z⟩ => z.elim
  | ok d S1 =>
    rw [q] at p
    have p : PostI X W σ Z (srcOf d S1) H L R := p
    have run : ∀ {Q : VK}, (∀ v H' L', Ext H L H' L' → Sta X.K X.mg H' L' Z S1 → At X.K X.mg H' L' Z d v → Q v H') → rdE X W fe σ H Q := fun {Q} k => ⟨r, S, L, Z, sl, st, by rw [q]; exact k⟩
    cases d with
    | tup xs =>
      refine (pi_tup h.pe).run pins s σ H R I (run fun v H' L' x st' a => ?_)
      cases a with
      | tup h1 h2 => exact ⟨_, rfl, ⟨_, h1⟩, p _ H' L' x st' (yld_tup h1 h2)⟩
    | lst xs =>
      refine (pi_list h.pe).run pins s σ H R I (run fun v H' L' x st' a => ?_)
      cases a with
      | lst h1 h2 h3 h4 => exact ⟨_, rfl, ⟨_, .of h1⟩, p _ H' L' x st' (yld_list (fun H2 L2 y => .of (y.keep _ _ h1 (fun z => absurd z h2) (fun _ => nofun))) h4)⟩
    | scr ns =>
      refine (pi_list h.pe).run pins s σ H R I (run fun v H' L' x st' a => ?_)
      cases a with
      | scr h1 h2 _ => exact ⟨_, rfl, ⟨_, .inl h1⟩, p _ H' L' x st' (yld_list (fun H2 L2 y => .inl (y.rd h1 h2 (fun _ => nofun))) (ats_ints ns))⟩
      | scrk h1 => exact ⟨_, rfl, ⟨_, h1 _⟩, p _ H' L' x st' (yld_list (fun H2 L2 y => h1 H2) (ats_ints ns))⟩
    | dic kvs =>
      refine (pi_keysD h.pe).run pins s σ H R I (run fun v H' L' x st' a => ?_)
      cases a with
      | dic h1 h2 h3 h4 => exact ⟨_, _, _, rfl, h1, p _ H' L' x st' (yld_dic h1 h2 h4)⟩
    | loc k =>
      have p : PostI X W σ Z (match S1[k]? with
        | some (.lst xs) => .ok ⟨xs, some (.l k)⟩ S1
        | some (.dic kvs ep) => if ep = kvs.length then .ok ⟨kvs.map (·.1), some (.d k)⟩ S1 else .bad
        | _ => .bad) H L R := p
      cases hc : S1[k]? with
      | none => rw [hc] at p; exact p.elim
      | some cl =>
        cases cl with
        | lst xs =>
          rw [hc] at p
          refine (pi_list h.pe).run pins s σ H R I (run fun v H' L' x st' a => ?_)
          cases a with
          | loc h1 =>
            obtain ⟨vs, e1, b1⟩ := st'.cells k _ _ hc h1
            exact ⟨_, rfl, ⟨_, .of e1⟩, p _ H' L' x st' (yld_loc h1)⟩
        | ins nm fs => rw [hc] at p; exact p.elim
        | set ks => rw [hc] at p; exact p.elim
        | dic kvs ep =>
          rw [hc] at p
          replace p : PostI X W σ Z (if ep = kvs.length then .ok ⟨kvs.map (·.1), some (.d k)⟩ S1 else .bad) H L R := p
          by_cases hz : ep = kvs.length
          · rw [if_pos hz] at p
            subst hz
            refine (pi_keysD h.pe).run pins s σ H R I (run fun v H' L' x st' a => ?_)
            cases a with
            | loc h1 =>
              obtain ⟨us, e1, b1⟩ := st'.cells k _ _ hc h1
              have y := yld_dloc (X := X) (Z := Z) (H := H') (ds := kvs.map (·.1)) h1
              rw [List.length_map, atd_len b1] at y
              rw [atd_len b1] at e1
              exact ⟨_, us, us.length, rfl, e1, p _ H' L' x st' y⟩
          · rw [if_neg hz] at p; exact p.elim
    | _ => exact (show False from p).elim
theorem yld_range {Z : List Addr} {H : Hp} {L : List Addr} {lo : Int} {n : Nat} : Yld X Z (Itr lo n) H L ⟨rng lo n, none⟩ := by
  refine ⟨fun i H' L' S x st _ hi => by (show i < n; simpa [rng] using hi), fun H' L' S x st _ => by show n ≤ _; simp [rng], fun Y i H' L' S v H2 ny x st _ y hi => ?_⟩
  obtain ⟨rfl, rfl⟩ := y
  have hi : i < n := by simpa [rng] using hi
  exact ⟨.int (lo + i), by simp [rng, hi], Ext.refl _ _, st, .int _⟩
theorem DI.range1 {a : Expr} {fa : EM} (hg : Gl X "range") (hm : X.mg "range" = none) (ha : De X W a fa) (hs : starEach [a] X.env = [(false, eval a X.env)] := by rfl) : DI X W tg (.Call (.Name "range" p') [a] [] pos) (iRange1 fa) := by
  refine Jd.mk ?_
  intro pins s σ H r S L Z R I sl st p
  unfold iRange1 at p
  refine (pi_range1 (p := p') (pos := pos) hg hm (pa_cons ha.pe pa_nil (by rw [hs]; rfl)) hs).run pins s σ H R I ⟨r, S, L, Z, sl, st, ?_⟩
  cases q : fa r S with
  | bad => rw [q] at p; exact p.elim
  | err c S1 => rw [q] at p; exact p
  | ok d S1 =>
    rw [q] at p
    intro v H' L' x st' at'
    cases d with
    | int n =>
      have p : PostI X W σ Z (if -(2 ^ 62) ≤ n ∧ n < 2 ^ 62 then .ok ⟨rng 0 n.toNat, none⟩ S1 else .bad) H L R := p
      cases at'
      by_cases hz : -(2 ^ 62) ≤ n ∧ n < 2 ^ 62
      · rw [if_pos hz] at p
        exact ⟨n, rfl, hz.1, hz.2, p _ H' L' x st' yld_range⟩
      · rw [if_neg hz] at p; exact p.elim
    | _ => exact (show False from p).elim
theorem DI.range2 {a b : Expr} {fa fb : EM} (hg : Gl X "range") (hm : X.mg "range" = none) (ha : De X W a fa) (hb : De X W b fb) (hs : starEach [a, b] X.env = [(false, eval a X.env), (false, eval b X.env)] := by rfl) (hs2 : starEach [b] X.env = [(false, eval b X.env)] := by rfl) :
    DI X W tg (.Call (.Name "range" p') [a, b] [] pos) (iRange2 fa fb) := by
  refine Jd.mk ?_
  intro pins s σ H r S L Z R I sl st p
  unfold iRange2 at p
  refine (pi_range2 (p := p') (pos := pos) hg hm (pa_cons ha.pe (pa_cons hb.pe pa_nil (by rw [hs2]; rfl)) (by rw [hs, hs2])) hs hs2).run pins s σ H R I ⟨r, S, L, Z, sl, st, ?_⟩
  cases q : fa r S with
  | bad => rw [q] at p; exact p.elim
  | err c S1 => rw [q] at p; exact p
  | ok d S1 =>
    rw [q] at p
    have p : PostI X W σ Z ((fb r S1).bind fun e S2 => rngOf d e S2) H L R := p
    intro v H' L' x st' at'
    refine ⟨r, S1, L', Z, sl.mono x, st', ?_⟩
    cases q2 : fb r S1 with
    | bad => rw [q2] at p; exact p.elim
    | err c S2 => rw [q2] at p; exact fun H2 L2 cls y => p H2 L2 cls (x.trans y)
    | ok e S2 =>
      rw [q2] at p
      intro w H2 L2 x2 st2 at2
      cases d with
      | int n =>
        cases e with
        | int m =>
          have p : PostI X W σ Z (if -(2 ^ 62) ≤ n ∧ n < 2 ^ 62 ∧ -(2 ^ 62) ≤ m ∧ m < 2 ^ 62 then .ok ⟨rng n (m - n).toNat, none⟩ S2 else .bad) H L R := p
          cases at'; cases at2
          by_cases hz : -(2 ^ 62) ≤ n ∧ n < 2 ^ 62 ∧ -(2 ^ 62) ≤ m ∧ m < 2 ^ 62
          · rw [if_pos hz] at p
            exact ⟨n, m, rfl, hz, p _ H2 L2 (x.trans x2) st2 yld_range⟩
          · rw [if_neg hz] at p; exact p.elim
        | _ => exact (show False from p).elim
      | _ => exact (show False from p).elim
end
abbrev GM := PV → Env1 → Option Env1
def Chg (vs : List Nat) (σ σ' : L2.St) : Prop := σ'.length = σ.length ∧ ∀ j, j ∉ vs → σ'[j]? = σ[j]?
def DG (X : Cx) (W : WX) (vs : List Nat) (tg : Expr) (g : GM) : Prop := Jd (
  ∀ (pins : List (Addr × Obj)) (s : Shared) (σ : L2.St) (H : Hp) (r r' : Env1) (S : Store) (L Z : List Addr) (d : PV) (v : V) (u : Value) (Q : L2.St → Hp → Prop), Inv X pins σ H s → Slots X.K X.mg H L Z r σ → Sta X.K X.mg H L Z S → At X.K X.mg H L Z d v → RelV v u → g d r = some r' →
    (∀ σ' H' L', Chg vs σ σ' → Ext H L H' L' → Slots X.K X.mg H' L' Z r' σ' → Sta X.K X.mg H' L' Z S → Q σ' H') → wpAny (model X.prog X.w) X.A (assign tg X.env u) (fun _ s' => ∃ σ' H', Inv X pins σ' H' s' ∧ Q σ' H') X.xe s)
abbrev GsM := List PV → Env1 → Option Env1
def DGs (X : Cx) (W : WX) (vs0 : List Nat) (ts : List Expr) (g : GsM) : Prop := Jd (
  ∀ (pins : List (Addr × Obj)) (s : Shared) (σ : L2.St) (H : Hp) (r r' : Env1) (S : Store) (L Z : List Addr) (ds : List PV) (vs : List V) (us : List Value) (Q : L2.St → Hp → Prop), Inv X pins σ H s → Slots X.K X.mg H L Z r σ → Sta X.K X.mg H L Z S → Ats X.K X.mg H L Z ds vs → Vals vs us → g ds r = some r' →
    (∀ σ' H' L', Chg vs0 σ σ' → Ext H L H' L' → Slots X.K X.mg H' L' Z r' σ' → Sta X.K X.mg H' L' Z S → Q σ' H') → wpAny (model X.prog X.w) X.A (assignInOrder ((assignEach ts X.env).map (·.2)) us) (fun _ s' => ∃ σ' H', Inv X pins σ' H' s' ∧ Q σ' H') X.xe s)
def gNm (i : Nat) : GM := fun d r => some (r.set i (some d))
def gsNil : GsM := fun ds r => match ds with
  | [] => some r
  | _ => none
def gsCons (g : GM) (h : GsM) : GsM := fun ds r => match ds with
  | d :: ds => (g d r).bind fun r1 => h ds r1
  | [] => none
def gTp (n : Nat) (g : GsM) : GM := fun d r => match d with
  | .tup ds => if ds.length = n then g ds r else none
  | _ => none
section
variable {X : Cx} {W : WX} {vs0 : List Nat} {tg : Expr} {tgs : List Expr} {pos : Pos} {g : GM} {gs : GsM}
theorem DG.name {i : Nat} {x : Str} (hv : i ∈ vs0) (hN : X.N.Nodup) (hi : X.N[i]? = some x) (hx : Loc X.env.scope x) (hf : X.fn x = true ∨ X.env.scope.names.lookup x = some .local := by first | exact .inl rfl | exact .inr rfl | assumption) : DG X W vs0 (.Name x pos) (gNm i) := by
  refine Jd.mk ?_
  intro pins s σ H r r' S L Z d v u Q I sl st a rv e q
  cases e
  exact wpAny_assign_Name (store_ok I hN hi hx rv (fun s' I' => ⟨_, H, I', q _ H L ⟨by simp, fun j hj => List.getElem?_set_ne fun (e : i = j) => hj (by rw [← e]; exact hv)⟩ (Ext.refl H L) (sl.set a (lt_of_N I hi)) st⟩) hf)
theorem DGs.nil : DGs X W vs0 [] gsNil := by
  refine Jd.mk ?_
  intro pins s σ H r r' S L Z ds vs us Q I sl st a rv e q
  cases a with
  | nil => cases rv; cases e; exact assignInOrder_nil ⟨σ, H, I, q σ H L ⟨rfl, fun _ _ => rfl⟩ (Ext.refl H L) sl st⟩
  | cons _ _ => cases e
theorem DGs.cons (h1 : DG X W vs0 tg g) (h2 : DGs X W vs0 tgs gs) (hs : (assignEach (tg :: tgs) X.env).map (·.2) = assign tg X.env :: (assignEach tgs X.env).map (·.2) := by rfl) : DGs X W vs0 (tg :: tgs) (gsCons g gs) := by
  refine Jd.mk ?_
  intro pins s σ H r r' S L Z ds vs us Q I sl st a rv e q
  cases a with
  | nil => cases e
  | cons a b =>
    cases rv with
    | cons rv rr =>
      simp only [gsCons] at e
      cases e1 : g _ r with
      | none => rw [e1] at e; cases e
      | some r1 =>
        rw [e1] at e
        rw [hs]
        refine assignInOrder_cons (thn (h1.out pins s σ H r r1 S L Z _ _ _ (fun σ1 H1 => Chg vs0 σ σ1 ∧ ∃ L1, Ext H L H1 L1 ∧ Slots X.K X.mg H1 L1 Z r1 σ1 ∧ Sta X.K X.mg H1 L1 Z S) I sl st a rv e1 fun σ' H' L' c x y z => ⟨c, L', x, y, z⟩) fun _ s1 ⟨σ1, H1, I1, c1, L1, x1, sl1, st1⟩ => ?_)
        exact h2.out pins s1 σ1 H1 r1 r' S L1 Z _ _ _ Q I1 sl1 st1 (b.mono x1) rr e fun σ' H' L' c2 y => q σ' H' L' ⟨c2.1.trans c1.1, fun j hj => (c2.2 j hj).trans (c1.2 j hj)⟩ (x1.trans y)
theorem DG.tup {k : Nat} {n : Nat} (hc : X.calm = true) (h : DGs X W vs0 tgs gs) (hn : (assignEach tgs X.env).length = n := by rfl) (hst : (assignEach tgs X.env).findIdx? (·.1) = none := by rfl) : DG X W vs0 (.Tuple tgs k pos) (gTp n gs) := by
  refine Jd.mk ?_
  intro pins s σ H r r' S L Z d v u Q I sl st a rv e q
  cases a with
  | @tup p vs ds h1 b =>
    simp only [gTp] at e
    by_cases hl : ds.length = n
    · rw [if_pos hl] at e
      cases rv
      obtain ⟨its, rv, ht, hz⟩ := I.tuple h1
      refine assign_Tuple_tuple (I.ok.hd hc) ht (by simp [hn, ← hl, b.len, rv.length]) hst fun h' hx => ?_
      have I1 : Inv X pins σ H { s with heap := h' } := I.kept (t' := s.toks) fun b o e => hx b o (Nat.ne_of_lt (Heap.lt_size e)) e
      exact h.out pins _ σ H r r' S L Z ds vs _ Q I1 sl st b (by simpa using rv) e q
    · rw [if_neg hl] at e; cases e
  | _ => cases e
end
noncomputable def forM (b : PV → Env1 → Store → Res Fl) (c : Src) : List PV → Env1 → Store → Res Fl
  | [], r, S => open Classical in if c.there S then .ok (.nx r) S else .bad
  | d :: ds, r, S => open Classical in if c.there S then (b d r S).bind fun f S1 => match f with
    | .nx r1 => forM b c ds r1 S1
    | .ct r1 => forM b c ds r1 S1
    | .bk r1 => .ok (.nx r1) S1
    | .rt v => .ok (.rt v) S1 else .bad
def turn (g : GM) (b : SM) : PV → Env1 → Store → Res Fl := fun d r S => match g d r with
  | some r1 => b r1 S
  | none => .bad
noncomputable def sFor (i : IM) (g : GM) (b : SM) : SM := fun r S => (i r S).bind fun c S1 => forM (turn g b) c c.ds r S1
def whileN (t : BM) (b : SM) : Nat → Env1 → Store → Res Fl
  | 0, _, _ => .bad
  | n + 1, r, S => (t r S).bind fun k S1 => if k = true then (b r S1).bind fun f S2 => match f with
      | .nx r1 => whileN t b n r1 S2
      | .ct r1 => whileN t b n r1 S2
      | .bk r1 => .ok (.nx r1) S2
      | .rt v => .ok (.rt v) S2
    else .ok (.nx r) S1
noncomputable def sWhile (t : BM) (b : SM) : SM := fun r S => open Classical in if h : ∃ n, whileN t b n r S ≠ .bad then whileN t b h.choose r S else .bad
section
variable {X : Cx} {W : XK} {vs0 : List Nat} {e iter tg : Expr} {bt : BM} {i : IM} {g : GM} {b : SM} {body : List Stmt} {pos : Pos}
theorem DS.for (hp : PassesOwn (model X.prog X.w) X.A X.env X.xe) (hc : X.calm = true) (hi : DI X (kW W) tg iter i) (hg : DG X (kW W) vs0 tg g) (hb : DSs X W body b)
    (hs : ∀ x, foldedSetIterable iter X.env x = pure x := by intro _; rfl) : DS X W (.For tg iter body [] pos) (sFor i g b) := by
  refine Jd.mk ?_
  intro pins s σ H r S L Z D I sl st p
  have hpg : PG X tg (fun v σ H Q => ∃ r r' S L Z d, Slots X.K X.mg H L Z r σ ∧ Sta X.K X.mg H L Z S ∧ At X.K X.mg H L Z d v ∧ g d r = some r' ∧ ∀ σ' H' L', Chg vs0 σ σ' → Ext H L H' L' → Slots X.K X.mg H' L' Z r' σ' → Sta X.K X.mg H' L' Z S → Q σ' H') :=
    ⟨fun pins s σ H v u Q I rv ⟨r, r', S, L, Z, d, sl, st, a, e, q⟩ => hg.out pins s σ H r r' S L Z d v u Q I sl st a rv e q⟩
  refine (ps_for (pos := pos) hp hc hi.pi hpg hb.pss hs).run pins s σ H D I ?_
  refine ⟨r, S, L, Z, sl, st, ?_⟩
  unfold sFor at p
  cases q : i r S with
  | bad => rw [q] at p; exact p.elim
  | err c S1 => rw [q] at p; exact p
  | ok c S1 =>
    rw [q] at p
    have p : PostS X W Z (forM (turn g b) c c.ds r S1) H L D := p
    intro J H0 L0 x0 st0 y
    refine ⟨fun i m σ' H' => ∃ r' S' L', i + m = c.ds.length ∧ Ext H0 L0 H' L' ∧ Slots X.K X.mg H' L' Z r' σ' ∧ Sta X.K X.mg H' L' Z S' ∧ PostS X W Z (forM (turn g b) c (c.ds.drop i) r' S') H' L' D,
      ⟨c.ds.length, r, S1, L0, Nat.zero_add _, Ext.refl _ _, sl.mono x0, st0, p.ext x0⟩, ?_⟩
    rintro i m σ1 H1 ⟨r1, S2, L1, hm, x1, sl1, st1, p1⟩
    cases m with
    | zero =>
      have hi : i = c.ds.length := by omega
      subst hi
      rw [List.drop_length] at p1
      unfold forM at p1
      by_cases ht : c.there S2
      · rw [if_pos ht] at p1
        exact .inl ⟨y.stop H1 L1 S2 x1 st1 ht, p1 σ1 H1 L1 (Ext.refl _ _) sl1 st1⟩
      · rw [if_neg ht] at p1; exact p1.elim
    | succ m =>
      have hi : i < c.ds.length := by omega
      rw [List.drop_eq_getElem_cons hi] at p1
      unfold forM at p1
      by_cases ht : c.there S2
      · rw [if_pos ht] at p1
        refine .inr ⟨y.go i H1 L1 S2 x1 st1 ht hi, fun σ' H' => ∃ r' S' L', Ext H0 L0 H' L' ∧ Slots X.K X.mg H' L' Z r' σ' ∧ Sta X.K X.mg H' L' Z S' ∧ PostS X W Z (forM (turn g b) c (c.ds.drop (i + 1)) r' S') H' L' D,
          fun σ' H' ⟨r', S', L', a1, a2, a3, a4⟩ => ⟨m, Nat.lt_succ_self m, r', S', L', by omega, a1, a2, a3, a4⟩, fun v H2 yv => ?_⟩
        obtain ⟨d, hd, x2, st2, a2⟩ := y.yld [] i H1 L1 S2 v H2 (fun _ h => nomatch h) x1 st1 ht yv hi
        have hd' : c.ds[i] = d := by
          rw [List.getElem?_eq_getElem hi] at hd; exact Option.some.inj hd
        rw [hd'] at p1
        cases hg' : g d r1 with
        | none =>
          unfold turn at p1
          rw [hg'] at p1
          exact (show False from p1).elim
        | some r2 =>
          have e0 : turn g b d r1 S2 = b r2 S2 := by unfold turn; rw [hg']
          rw [e0] at p1
          refine ⟨r1, r2, S2, L1, Z, d, sl1.mono x2, st2, a2, hg', fun σ3 H3 L3 _ x3 sl3 st3 => ⟨r2, S2, L3, Z, sl3, st3, ?_⟩⟩
          have p1 := p1.ext (x2.trans x3)
          have x03 := (x1.trans x2).trans x3
          cases q3 : b r2 S2 with
          | bad => rw [q3] at p1; exact p1.elim
          | err cl S3 => rw [q3] at p1; exact p1
          | ok f S3 =>
            rw [q3] at p1
            cases f with
            | nx r3 => exact fun σ4 H4 L4 x4 sl4 st4 => ⟨r3, S3, L4, x03.trans x4, sl4, st4, (show PostS X W Z (forM (turn g b) c (c.ds.drop (i + 1)) r3 S3) H3 L3 D from p1).ext x4⟩
            | ct r3 => exact fun σ4 H4 L4 x4 sl4 st4 => ⟨r3, S3, L4, x03.trans x4, sl4, st4, (show PostS X W Z (forM (turn g b) c (c.ds.drop (i + 1)) r3 S3) H3 L3 D from p1).ext x4⟩
            | bk r3 => exact p1
            | rt d => exact p1
      · rw [if_neg ht] at p1; exact p1.elim
theorem DS.while (hp : PassesOwn (model X.prog X.w) X.A X.env X.xe) (hc : DT X (kW W) e bt) (hb : DSs X W body b) : DS X W (.While e body [] pos) (sWhile bt b) := by
  refine Jd.mk ?_
  intro pins s σ H r S L Z D I sl st p
  refine (ps_while (pos := pos) hp hc.pt hb.pss).run pins s σ H D I ?_
  unfold sWhile at p
  by_cases hn : ∃ n, whileN bt b n r S ≠ .bad
  · rw [dif_pos hn] at p
    generalize hn.choose = n at p
    refine ⟨fun m σ' H' => ∃ r' S' L', Slots X.K X.mg H' L' Z r' σ' ∧ Sta X.K X.mg H' L' Z S' ∧ PostS X W Z (whileN bt b m r' S') H' L' D, ⟨n, r, S, L, sl, st, p⟩, ?_⟩
    rintro m σ1 H1 ⟨r1, S1, L1, sl1, st1, p1⟩
    cases m with
    | zero => exact (show False from p1).elim
    | succ m =>
      unfold whileN at p1
      refine ⟨r1, S1, L1, Z, sl1, st1, ?_⟩
      cases q : bt r1 S1 with
      | bad => rw [q] at p1; exact p1.elim
      | err c S2 => rw [q] at p1; exact p1
      | ok k S2 =>
        rw [q] at p1
        intro k' H2 L2 x2 st2 e2
        have e2 : k = k' := e2
        subst e2
        cases k with
        | false =>
          rw [if_neg Bool.false_ne_true]
          exact (show PostS X W Z (.ok (.nx r1) S2) H1 L1 D from p1) σ1 H2 L2 x2 (sl1.mono x2) st2
        | true =>
          rw [if_pos rfl]
          refine ⟨fun σ' H' => ∃ r' S' L', Slots X.K X.mg H' L' Z r' σ' ∧ Sta X.K X.mg H' L' Z S' ∧ PostS X W Z (whileN bt b m r' S') H' L' D, fun σ' H' h => ⟨m, Nat.lt_succ_self m, h⟩, r1, S2, L2, Z, sl1.mono x2, st2, ?_⟩
          have p1 : PostS X W Z ((b r1 S2).bind fun f S2 => match f with
            | .nx r1 => whileN bt b m r1 S2
            | .ct r1 => whileN bt b m r1 S2
            | .bk r1 => .ok (.nx r1) S2
            | .rt v => .ok (.rt v) S2) H2 L2 D := PostS.ext p1 x2
          cases q3 : b r1 S2 with
          | bad => rw [q3] at p1; exact p1.elim
          | err cl S3 => rw [q3] at p1; exact p1
          | ok f S3 =>
            rw [q3] at p1
            cases f with
            | nx r3 => exact fun σ4 H4 L4 x4 sl4 st4 => ⟨r3, S3, L4, sl4, st4, (show PostS X W Z (whileN bt b m r3 S3) H2 L2 D from p1).ext x4⟩
            | ct r3 => exact fun σ4 H4 L4 x4 sl4 st4 => ⟨r3, S3, L4, sl4, st4, (show PostS X W Z (whileN bt b m r3 S3) H2 L2 D from p1).ext x4⟩
            | bk r3 => exact p1
            | rt d => exact p1
  · rw [dif_neg hn] at p; exact p.elim
end
theorem whileN_more {t : BM} {b : SM} : ∀ {n : Nat} {r : Env1} {S : Store}, whileN t b n r S ≠ .bad → ∀ m, n ≤ m → whileN t b m r S = whileN t b n r S
  | 0, _, _, h, _, _ => absurd rfl h
  | n + 1, r, S, h, 0, hm => absurd hm (by omega)
  | n + 1, r, S, h, m + 1, hm => by
    unfold whileN at h ⊢
    cases q : t r S with
    | bad => rfl
    | err c S1 => rfl
    | ok k S1 =>
      rw [q] at h
      simp only [Res.bind_ok] at h ⊢
      cases k with
      | false => rfl
      | true =>
        simp only [if_true] at h ⊢
        cases q2 : b r S1 with
        | bad => rfl
        | err c S2 => rfl
        | ok f S2 =>
          rw [q2] at h
          simp only [Res.bind_ok] at h ⊢
          cases f with
          | nx r1 => exact whileN_more h m (by omega)
          | ct r1 => exact whileN_more h m (by omega)
          | bk _ => rfl
          | rt _ => rfl
theorem sWhile_of {t : BM} {b : SM} {n : Nat} {r : Env1} {S : Store} (h : whileN t b n r S ≠ .bad) : sWhile t b r S = whileN t b n r S := by
  unfold sWhile
  have hn : ∃ n, whileN t b n r S ≠ .bad := ⟨n, h⟩
  rw [dif_pos hn]
  have h2 := hn.choose_spec
  rcases Nat.le_total n hn.choose with h3 | h3
  · exact whileN_more h _ h3
  · exact (whileN_more h2 _ h3).symm
theorem sWhile_eq (t : BM) (b : SM) (r : Env1) (S : Store) : sWhile t b r S = (t r S).bind fun k S1 => if k = true then (b r S1).bind fun f S2 => match f with
      | .nx r1 => sWhile t b r1 S2
      | .ct r1 => sWhile t b r1 S2
      | .bk r1 => .ok (.nx r1) S2
      | .rt v => .ok (.rt v) S2
    else .ok (.nx r) S1 := by
  -- from a turn more
  have up : ∀ n, whileN t b (n + 1) r S ≠ .bad → whileN t b (n + 1) r S = (t r S).bind fun k S1 => if k = true then (b r S1).bind fun f S2 => match f with
      | .nx r1 => sWhile t b r1 S2
      | .ct r1 => sWhile t b r1 S2
      | .bk r1 => .ok (.nx r1) S2
      | .rt v => .ok (.rt v) S2
    else .ok (.nx r) S1 := fun n h => by
    unfold whileN at h ⊢
    cases q : t r S with
    | bad => rfl
    | err c S1 => rfl
    | ok k S1 =>
      rw [q] at h
      simp only [Res.bind_ok] at h ⊢
      cases k with
      | false => rfl
      | true =>
        simp only [if_true] at h ⊢
        cases q2 : b r S1 with
        | bad => rfl
        | err c S2 => rfl
        | ok f S2 =>
          rw [q2] at h
          simp only [Res.bind_ok] at h ⊢
          cases f with
          | nx r1 => exact (sWhile_of h).symm
          | ct r1 => exact (sWhile_of h).symm
          | bk _ => rfl
          | rt _ => rfl
  by_cases hn : ∃ n, whileN t b n r S ≠ .bad
  · obtain ⟨n, hn⟩ := hn
    have h1 : whileN t b (n + 1) r S = whileN t b n r S := whileN_more hn _ (Nat.le_succ n)
    rw [sWhile_of hn, ← h1]
    exact up n (by rw [h1]; exact hn)
  · have e : sWhile t b r S = .bad := by unfold sWhile; rw [dif_neg hn]
    rw [e]
    cases q : t r S with
    | bad => rfl
    | err c S1 => exact absurd ⟨1, by unfold whileN; rw [q]; simp⟩ hn
    | ok k S1 =>
      simp only [Res.bind_ok]
      cases k with
      | false => exact absurd ⟨1, by unfold whileN; rw [q]; simp⟩ hn
      | true =>
        simp only [if_true]
        cases q2 : b r S1 with
        | bad => rfl
        | err c S2 => exact absurd ⟨1, by unfold whileN; rw [q]; simp [q2]⟩ hn
        | ok f S2 =>
          simp only [Res.bind_ok]
          have more : ∀ r1, (∀ n, whileN t b (n + 1) r S = whileN t b n r1 S2) → Res.bad = sWhile t b r1 S2 := fun r1 h => by
            unfold sWhile
            rw [dif_neg fun ⟨n, z⟩ => hn ⟨n + 1, by rw [h]; exact z⟩]
          cases f with
          | nx r1 => exact more r1 fun n => by rw [whileN]; simp [q, q2]
          | ct r1 => exact more r1 fun n => by rw [whileN]; simp [q, q2]
          | bk r1 => exact absurd ⟨1, by unfold whileN; rw [q]; simp [q2]⟩ hn
          | rt v => exact absurd ⟨1, by unfold whileN; rw [q]; simp [q2]⟩ hn
end Dn
namespace Dn
open PySem PySem.Spec PyProof.Rows L2
mutual
def small (n : Nat) : PV → Bool
  | .loc i => decide (i < n)
  | .tup xs => smalls n xs
  | .lst xs => smalls n xs
  | .obj _ fs => smallf n fs
  | .non => true
  | .bl _ => true
  | .int _ => true
  | .str _ => true
  | .scr _ => true
  | .ty _ => true
  | .cls _ => true
  | .exc _ => true
  | .dic kvs => smalld n kvs
  | .dik kvs => smalld n kvs
  | .tub xs => smalls n xs
def smalls (n : Nat) : List PV → Bool
  | [] => true
  | x :: xs => small n x && smalls n xs
def smallf (n : Nat) : List (Str × PV) → Bool
  | [] => true
  | (_, x) :: xs => small n x && smallf n xs
def smalld (n : Nat) : List (PV × PV) → Bool
  | [] => true
  | (x, y) :: xs => small n x && (small n y && smalld n xs)
end
def cellSmall (n : Nat) : Cell → Bool
  | .lst xs => smalls n xs
  | .ins _ fs => smallf n fs
  | .dic kvs _ => smalld n kvs
  | .set _ => true
theorem small_row (n : Nat) : ∀ ks : List Int, smalls n (ks.map PV.int) = true
  | [] => rfl
  | x :: xs => by simp only [List.map_cons, smalls, small, small_row n xs, Bool.and_self]
mutual
def frz (n : Nat) (S : Store) : PV → Option PV
  | .loc i => if i < n then some (.loc i) else match S[i]? with
    | some (.lst ds) => if smalls n ds = true then some (.lst ds) else none
    | some (.ins nm fs) => if smallf n fs = true then some (.obj nm fs) else none
    | some (.dic kvs _) => if smalld n kvs = true then some (.dic kvs) else none
    | some (.set _) => none
    | none => none
  | .tup xs => (frzs n S xs).map .tup
  | .lst xs => if smalls n xs = true then some (.lst xs) else none
  | .obj m fs => if smallf n fs = true then some (.obj m fs) else none
  | .non => some .non
  | .bl b => some (.bl b)
  | .int i => some (.int i)
  | .str x => some (.str x)
  | .scr a => some (.scr a)
  | .ty a => some (.ty a)
  | .cls a => some (.cls a)
  | .exc a => some (.exc a)
  | .dic kvs => if smalld n kvs = true then some (.dic kvs) else none
  | .dik kvs => if smalld n kvs = true then some (.dik kvs) else none
  | .tub xs => if smalls n xs = true then some (.tub xs) else none
def frzs (n : Nat) (S : Store) : List PV → Option (List PV)
  | [] => some []
  | x :: xs => (frz n S x).bind fun y => (frzs n S xs).map (y :: ·)
end
def shutR (n : Nat) (d : PV) (S : Store) : Res PV := if S.length ≤ n then .ok d S else if (S.take n).all (cellSmall n) = true then (match frz n S d with
  | some d' => .ok d' (S.take n)
  | none => .bad) else .bad
def shutE (n : Nat) (c : Str) (S : Store) : Res PV := if S.length ≤ n then .err c S else if (S.take n).all (cellSmall n) = true then .err c (S.take n) else .bad
def start1 (N : Nat) (ds : List PV) : Env1 := ds.map some ++ List.replicate (N - ds.length) none
def endOf (kp : Bool) (n : Nat) (x : Res Fl) : Res PV := match x with
  | .ok (.nx _) S => if kp then .ok .non S else shutR n .non S
  | .ok (.rt d) S => if kp then .ok d S else shutR n d S
  | .ok (.bk _) _ => .bad
  | .ok (.ct _) _ => .bad
  | .err c S => if kp then .err c S else shutE n c S
  | .bad => .bad
def fnM (kp : Bool) (N : Nat) (b : SM) : Fn := fun ds S => endOf kp S.length (b (start1 N ds) S)
section
variable {K : PySem.W.Frag} {mg : Str → Option Value} {H : Hp} {L Z : List Addr} {n : Nat}
mutual
theorem At.small : ∀ {d : PV} {v : V}, At K mg H L Z d v → Dn.small n d = true → At K mg H (L.take n) Z d v
  | _, _, .non, _ => .non
  | _, _, .bl b, _ => .bl b
  | _, _, .int i, _ => .int i
  | _, _, .str s, _ => .str s
  | _, _, .tup h1 h2, h => .tup h1 (Ats.small h2 (by simpa [Dn.small] using h))
  | _, _, .lst h1 h2 h3 h4, h => .lst h1 (fun z => h2 (List.mem_of_mem_take z)) h3 (Ats.small h4 (by simpa [Dn.small] using h))
  | _, _, .obj h0 h1 h2 h3 h4, h => .obj h0 h1 (fun z => h2 (List.mem_of_mem_take z)) h3 (Atf.small h4 (by simpa [Dn.small] using h))
  | _, _, .loc h1, h => .loc (by
      simp only [Dn.small, decide_eq_true_eq] at h
      rw [List.getElem?_take_of_lt h]; exact h1)
  | _, _, .scr h1 h2 h3, _ => .scr h1 (fun z => h2 (List.mem_of_mem_take z)) h3
  | _, _, .scrk h, _ => .scrk h
  | _, _, .ty n, _ => .ty n
  | _, _, .cls h, _ => .cls h
  | _, _, .exc h0 h1 h2 h3 h4 h5, _ => .exc h0 h1 h2 h3 (fun z => h4 (List.mem_of_mem_take z)) h5
  | _, _, .dic h1 h2 h3 h4, h => .dic h1 (fun z => h2 (List.mem_of_mem_take z)) h3 (Atd.small h4 (by simpa [Dn.small] using h))
  | _, _, .dik h1 h2 h3 h4, h => .dik h1 (fun z => h2 (List.mem_of_mem_take z)) h3 (Atk.small h4 (by simpa [Dn.small] using h))
  | _, _, .tub h1 h2 h3, h => .tub h1 h2 (Ats.small h3 (by simpa [Dn.small] using h))
theorem Ats.small : ∀ {ds : List PV} {vs : List V}, Ats K mg H L Z ds vs → smalls n ds = true → Ats K mg H (L.take n) Z ds vs
  | _, _, .nil, _ => .nil
  | _, _, .cons h1 h2, h => by
    simp only [smalls, Bool.and_eq_true] at h
    exact .cons (At.small h1 h.1) (Ats.small h2 h.2)
theorem Atf.small : ∀ {ds : List (Str × PV)} {vs : List (Str × V)}, Atf K mg H L Z ds vs → smallf n ds = true → Atf K mg H (L.take n) Z ds vs
  | _, _, .nil, _ => .nil
  | _, _, .cons h1 h2, h => by
    simp only [smallf, Bool.and_eq_true] at h
    exact .cons (At.small h1 h.1) (Atf.small h2 h.2)
theorem Atd.small : ∀ {ds : List (PV × PV)} {vs : List (PyData × Addr × V)}, Atd K mg H L Z ds vs → smalld n ds = true → Atd K mg H (L.take n) Z ds vs
  | _, _, .nil, _ => .nil
  | _, _, .cons q1 q2 h0 h1 h2, h => by
    simp only [smalld, Bool.and_eq_true] at h
    exact .cons q1 q2 (At.small h0 h.1) (At.small h1 h.2.1) (Atd.small h2 h.2.2)
theorem Atk.small : ∀ {ds : List (PV × PV)} {vs : List (Key × V)}, Atk K mg H L Z ds vs → smalld n ds = true → Atk K mg H (L.take n) Z ds vs
  | _, _, .nil, _ => .nil
  | _, _, .cons h1 h2, h => by
    simp only [smalld, Bool.and_eq_true] at h
    exact .cons (At.small h1 h.2.1) (Atk.small h2 h.2.2)
end
theorem take_not {i : Nat} {a : Addr} (nd : L.Nodup) (h : L[i]? = some a) (hi : n ≤ i) : a ∉ L.take n := fun z => by
  obtain ⟨j, hj, e⟩ := List.mem_iff_getElem.mp z
  rw [List.getElem_take] at e
  have hj' : j < n ∧ j < L.length := by rw [List.length_take] at hj; omega
  obtain ⟨n1, e1⟩ := List.getElem?_eq_some_iff.mp h
  have := (List.getElem_inj nd (h₀ := hj'.2) (h₁ := n1)).mp (e.trans e1.symm)
  omega
mutual
theorem At.frz {S : Store} (st : Sta K mg H L Z S) : ∀ {d d' : PV} {v : V}, At K mg H L Z d v → Dn.frz n S d = some d' → At K mg H (L.take n) Z d' v
  | _, _, _, .non, h => by simp [Dn.frz] at h; subst h; exact .non
  | _, _, _, .bl b, h => by simp [Dn.frz] at h; subst h; exact .bl b
  | _, _, _, .int i, h => by simp [Dn.frz] at h; subst h; exact .int i
  | _, _, _, .str s, h => by simp [Dn.frz] at h; subst h; exact .str s
  | _, _, _, .tup (ds := ds) h1 h2, h => by
    simp only [Dn.frz] at h
    cases e : frzs n S ds with
    | none => rw [e] at h; cases h
    | some xs => rw [e] at h; cases h; exact .tup h1 (Ats.frz st h2 e)
  | _, _, _, .lst h1 h2 h3 h4, h => by
    simp only [Dn.frz] at h
    split at h
    · rename_i hs
      cases h
      exact .lst h1 (fun z => h2 (List.mem_of_mem_take z)) h3 (Ats.small h4 hs)
    · cases h
  | _, _, _, .obj h0 h1 h2 h3 h4, h => by
    simp only [Dn.frz] at h
    split at h
    · rename_i hs
      cases h
      exact .obj h0 h1 (fun z => h2 (List.mem_of_mem_take z)) h3 (Atf.small h4 hs)
    · cases h
  | _, _, _, .loc (i := i) (a := a) h1, h => by
    simp only [Dn.frz] at h
    by_cases hi : i < n
    · rw [if_pos hi] at h
      cases h
      exact .loc (by rw [List.getElem?_take_of_lt hi]; exact h1)
    · rw [if_neg hi] at h
      cases e : S[i]? with
      | none => rw [e] at h; cases h
      | some c =>
        cases c with
        | lst ds =>
          simp only [e] at h
          split at h
          · rename_i hs
            cases h
            obtain ⟨vs, e1, b⟩ := st.cells i _ a e h1
            exact .lst e1 (take_not st.nd h1 (Nat.le_of_not_lt hi)) (st.dj a (List.mem_of_getElem? h1)) (Ats.small b hs)
          · cases h
        | ins nm fs =>
          simp only [e] at h
          split at h
          · rename_i hs
            cases h
            obtain ⟨C, dx, vs, e0, e1, b⟩ := st.cells i _ a e h1
            exact .obj e0 e1 (take_not st.nd h1 (Nat.le_of_not_lt hi)) (st.dj a (List.mem_of_getElem? h1)) (Atf.small b hs)
          · cases h
        | dic kvs ep =>
          simp only [e] at h
          split at h
          · rename_i hs
            cases h
            obtain ⟨us, e1, b⟩ := st.cells i _ a e h1
            exact .dic e1 (take_not st.nd h1 (Nat.le_of_not_lt hi)) (st.dj a (List.mem_of_getElem? h1)) (Atd.small b hs)
          · cases h
        | set ks => simp only [e] at h; cases h
  | _, _, _, .scr h1 h2 h3, h => by simp [Dn.frz] at h; subst h; exact .scr h1 (fun z => h2 (List.mem_of_mem_take z)) h3
  | _, _, _, .scrk h1, h => by simp [Dn.frz] at h; subst h; exact .scrk h1
  | _, _, _, .ty n, h => by simp [Dn.frz] at h; subst h; exact .ty n
  | _, _, _, .cls h', h => by simp [Dn.frz] at h; subst h; exact .cls h'
  | _, _, _, .exc h0 h1 h2 h3 h4 h5, h => by simp [Dn.frz] at h; subst h; exact .exc h0 h1 h2 h3 (fun z => h4 (List.mem_of_mem_take z)) h5
  | _, _, _, .dic h1 h2 h3 h4, h => by
    simp only [Dn.frz] at h
    split at h
    · rename_i hs
      cases h
      exact .dic h1 (fun z => h2 (List.mem_of_mem_take z)) h3 (Atd.small h4 hs)
    · cases h
  | _, _, _, .dik h1 h2 h3 h4, h => by
    simp only [Dn.frz] at h
    split at h
    · rename_i hs
      cases h
      exact .dik h1 (fun z => h2 (List.mem_of_mem_take z)) h3 (Atk.small h4 hs)
    · cases h
  | _, _, _, .tub h1 h2 h3, h => by
    simp only [Dn.frz] at h
    split at h
    · rename_i hs
      cases h
      exact .tub h1 h2 (Ats.small h3 hs)
    · cases h
theorem Ats.frz {S : Store} (st : Sta K mg H L Z S) : ∀ {ds ds' : List PV} {vs : List V}, Ats K mg H L Z ds vs → frzs n S ds = some ds' → Ats K mg H (L.take n) Z ds' vs
  | _, _, _, .nil, h => by simp [frzs] at h; subst h; exact .nil
  | _, _, _, .cons (d := d) (ds := ds) h1 h2, h => by
    simp only [frzs] at h
    cases e : Dn.frz n S d with
    | none => rw [e] at h; cases h
    | some x =>
      cases e2 : frzs n S ds with
      | none => rw [e, e2] at h; cases h
      | some xs => rw [e, e2] at h; cases h; exact .cons (At.frz st h1 e) (Ats.frz st h2 e2)
end
theorem Sta.take {S : Store} (st : Sta K mg H L Z S) (h : (S.take n).all (cellSmall n) = true) : Sta K mg H (L.take n) Z (S.take n) := by
  refine ⟨st.nd.sublist (List.take_sublist _ _), by simp [st.len], fun i c a h1 h2 => ?_, st.zt, fun a ha => st.dj a (List.mem_of_mem_take ha), st.tabs⟩
  have hc : cellSmall n c = true := (List.all_eq_true.mp h) c (List.mem_of_getElem? h1)
  have hi : i < n := by
    have := (List.getElem?_eq_some_iff.mp h1).1
    simp at this; omega
  rw [List.getElem?_take_of_lt hi] at h1 h2
  have := st.cells i c a h1 h2
  cases c with
  | lst ds => obtain ⟨vs, e, b⟩ := this; exact ⟨vs, e, b.small hc⟩
  | ins nm fs => obtain ⟨C, dx, vs, e0, e, b⟩ := this; exact ⟨C, dx, vs, e0, e, b.small hc⟩
  | dic kvs ep => obtain ⟨us, e, b⟩ := this; exact ⟨us, e, b.small hc⟩
  | set ks => obtain ⟨M, e, b1, b2, b3⟩ := this; exact ⟨M, e, b1, b2, fun p hp => (b3 p hp).small (by show smalls n _ = true; exact small_row n _)⟩
end
theorem Ext.take {H H' : Hp} {L L' : List Addr} (x : Ext H L H' L') : Ext H L H' (L'.take L.length) := by
  obtain ⟨n, e, _⟩ := x.pre
  exact ⟨⟨[], by rw [e]; simp, fun _ h => nomatch h⟩, x.keep, x.dom⟩
structure RoomG (k : Nat) (A : Around) : Prop where
  rm : Room k A
  gd : A.guards = some []
def PostK (K : PySem.W.Frag) (mg : Str → Option Value) (E : XK) (Z : List Addr) (r : Res PV) (H : Hp) (L : List Addr) (Q : VK) : Prop :=
  match r with
  | .ok d S' => ∀ v H' L', Ext H L H' L' → Sta K mg H' L' Z S' → At K mg H' L' Z d v → Q v H'
  | .err c S' => ∀ H' L' cls, Ext H L H' L' → Sta K mg H' L' Z S' → mg c = some cls → E cls none H'
  | .bad => False
theorem PostK.of {X : Cx} {W : WX} {E : XK} {σ : L2.St} {Z : List Addr} {r : Res PV} {H : Hp} {L : List Addr} {Q : VK} (h : PostV X W σ Z r H L Q) (hE : ∀ cls H', W cls none σ H' → E cls none H') : PostK X.K X.mg E Z r H L Q := by
  cases r with
  | ok d S => exact h
  | err c S => exact fun H' L' cls a b e => hE _ _ (h H' L' cls a b e)
  | bad => exact h
structure FnG (P : Program) (w : World) (K : PySem.W.Frag) (mg : Str → Option Value) (base : Heap) (k : Nat) (f : Addr) (fd : FuncData) (ps : List Str) (m : Fn) : Prop where
  run : ∀ (A : Around) (outer : List Env) (s : Shared) (H : Hp) (args : Args) (us : List Value) (vs : List V) (ds : List PV) (S : Store) (L Z : List Addr) (Q : VK) (E : XK), RoomG k A → Env0 P w K mg base A outer s H → BindsTo s fd args (ps.zip us) → Vals vs us →
    Sta K mg H L Z S → Ats K mg H L Z ds vs → ds.length = ps.length → PostK K mg E Z (m ds S) H L Q → codeAny (model P w) A (.call (.ref f) args) (CR (CX P w) outer P w H s Q E) s
theorem FnG.mono {P : Program} {w : World} {K : PySem.W.Frag} {mg : Str → Option Value} {base : Heap} {j k : Nat} {f : Addr} {fd : FuncData} {ps : List Str} {m : Fn} (F : FnG P w K mg base j f fd ps m) (h : j ≤ k) : FnG P w K mg base k f fd ps m :=
  ⟨fun A outer s H args us vs ds S L Z Q E hr => F.run A outer s H args us vs ds S L Z Q E ⟨hr.rm.mono h, hr.gd⟩⟩
theorem start_slots {K : PySem.W.Frag} {mg : Str → Option Value} {H : Hp} {L Z : List Addr} {N : List Str} {ds : List PV} {vs : List V} (a : Ats K mg H L Z ds vs) : Slots K mg H L Z (start1 N.length ds) (L2.start N vs) := fun i d e => by
  unfold start1 at e
  unfold L2.start
  by_cases hi : i < ds.length
  · rw [List.getElem?_append_left (by simpa using hi), List.getElem?_map] at e
    cases q : ds[i]? with
    | none => rw [q] at e; cases e
    | some d' =>
      rw [q] at e; cases e
      obtain ⟨v, e1, a1⟩ := a.get q
      exact ⟨v, by rw [List.getElem?_append_left (by rw [List.length_map, ← a.len]; exact hi), List.getElem?_map, e1]; rfl, a1⟩
  · rw [List.getElem?_append_right (by simpa using hi), List.getElem?_replicate] at e
    split at e <;> cases e
section
variable {P : Program} {w : World} {K : PySem.W.Frag} {mg : Str → Option Value} {base : Heap} {x qual : Str} {params : Arguments} {body : List Stmt} {scope : Scope} {dvs : List V} {kws : List (Str × V)} {f : Addr} {fd : FuncData}
abbrev cxG (P : Program) (w : World) (K : PySem.W.Frag) (mg : Str → Option Value) (base : Heap) (N : List Str) (qual : Str) (scope : Scope) (f : Addr) (cd : Value) (A : Around) (outer : List Env) (s : Shared) (H : Hp) (E : XK) : Cx := cxOf (CX P w) P w K mg base N qual scope f cd A outer s H E
theorem shut_post {X : Cx} {E : XK} {Z L : List Addr} {kp : Bool} {n : Nat} {b : SM} {ds : List PV} {S : Store} {H : Hp} {Q : VK} (st : Sta X.K X.mg H L Z S) (p : PostK X.K X.mg E Z (fnM kp n b ds S) H L Q) :
    PostS X E Z (b (start1 n ds) S) H L { nx := fun _ H' => Q .non H', rt := Q } := by
  unfold fnM at p
  cases q : b (start1 n ds) S with
  | bad => rw [q] at p; exact p.elim
  | err c S' =>
    rw [q] at p
    intro H' L' cls x' st' e'
    cases kp with
    | true => exact p H' L' cls x' st' e'
    | false =>
      have p : PostK X.K X.mg E Z (shutE S.length c S') H L Q := p
      unfold shutE at p
      by_cases h1 : S'.length ≤ S.length
      · rw [if_pos h1] at p; exact p H' L' cls x' st' e'
      · rw [if_neg h1] at p
        by_cases h2 : (S'.take S.length).all (cellSmall S.length) = true
        · rw [if_pos h2] at p
          have := st'.take h2
          rw [st.len] at this p
          exact p H' _ cls x'.take this e'
        · rw [if_neg h2] at p; exact p.elim
  | ok fl S' =>
    rw [q] at p
    -- the end with a value
    have fin : ∀ (d : PV), PostK X.K X.mg E Z (if kp = true then .ok d S' else shutR S.length d S') H L Q → ∀ v H' L', Ext H L H' L' → Sta X.K X.mg H' L' Z S' → At X.K X.mg H' L' Z d v → Q v H' := fun d p v H' L' x' st' a' => by
      cases kp with
      | true => exact p v H' L' x' st' a'
      | false =>
        have p : PostK X.K X.mg E Z (shutR S.length d S') H L Q := p
        unfold shutR at p
        by_cases h1 : S'.length ≤ S.length
        · rw [if_pos h1] at p; exact p v H' L' x' st' a'
        · rw [if_neg h1] at p
          by_cases h2 : (S'.take S.length).all (cellSmall S.length) = true
          · rw [if_pos h2] at p
            cases q2 : frz S.length S' d with
            | none => simp only [q2] at p; exact p.elim
            | some d' =>
              simp only [q2] at p
              have s2 := st'.take h2
              have a2 := At.frz st' a' q2
              rw [st.len] at s2 a2 p
              exact p v H' _ x'.take s2 a2
          · rw [if_neg h2] at p; exact p.elim
    cases fl with
    | nx r' => exact fun σ' H' L' x' sl' st' => fin .non p .non H' L' x' st' .non
    | rt d => exact fun v H' L' x' st' a' => fin d p v H' L' x' st' a'
    | bk r' => exact (show False from p).elim
    | ct r' => exact (show False from p).elim
theorem fn_okc {N ps : List Str} {k : Nat} {kp : Bool} {b : SM} (F : FunD K x qual params body scope dvs kws f fd) (Sc : FnScope N ps scope)
    (hbody : ∀ (cdv : Value) (A : Around) (outer : List Env) (s : Shared) (H : Hp) (E : XK), fd.code = cdv → RoomG k (A.deeper (envOfC qual scope s.heap.objs.size f cdv)) → DSs (cxG P w K mg base N qual scope f cdv A outer s H E) E body b) : FnG P w K mg base (k + 1) f fd ps (fnM kp N.length b) := by
  obtain ⟨oc, od, dV, kV, doc, pm, an, cdv, ct, osl, rfl, lk, hcd, _, _⟩ := F.ex
  refine ⟨fun A outer s H args us vs ds S L Z Q E hr e0 hb r st a hl p => ?_⟩
  have hlv : vs.length = ps.length := by rw [← a.len]; exact hl
  have KX : K.In s.heap := e0.mod.kin.keeps fun b o e => (e0.bs b o e).1
  have lim : s.heap.NoLimit := e0.mod.nolimit.keeps fun b o e => (e0.bs b o e).1
  have hkind : ∀ y ∈ ps.zip us, scope.names.lookup y.1 = some .local ∨ (scope.names.lookup y.1 = some .cell ∧ ((cellsFrom (s.heap.objs.size + 1) scope.names []).lookup y.1).isSome = true) := fun ⟨n, v⟩ hy => by
    rcases Sc.par n (List.of_mem_zip hy).1 with q | q
    · exact .inl q
    · exact .inr ⟨q, PySem.W.cellsFrom_some _ _ _ (.inl q)⟩
  refine codeAny_call_function hr.rm.depth (KX _ _ lk) rfl Sc.co Sc.gen rfl (PySem.W.codeRec_of KX hcd) (hb _ _ _ _ ?_)
  refine wpAny_newFunctionEnv_cells Sc.kind hkind fun env he s1 x => ?_
  subst he
  refine ⟨lim.keeps x.toInCall.keep, codeAny_func ?_⟩
  have hr2 : RoomG k (A.deeper (envOfC qual scope s.heap.objs.size f cdv)) := ⟨hr.rm.deeper _, hr.gd⟩
  have ht := hbody cdv A outer s H E rfl hr2
  have I : Inv (cxG P w K mg base N qual scope f cdv A outer s H E) [] (L2.start N vs) H s1 := inv_start Sc hr.rm.hd e0 hlv r x
  have sl := start_slots (N := N) a
  have p' : PostS (cxG P w K mg base N qual scope f cdv A outer s H E) E Z (b (start1 N.length ds) S) H L { nx := fun _ H' => Q .non H', rt := Q } := shut_post (X := cxG P w K mg base N qual scope f cdv A outer s H E) st p
  refine wpAny_mono (ht.out [] s1 (L2.start N vs) H (start1 N.length ds) S L Z _ I sl st p') (fun fl s' hs => ?_) fun e s' hs => hs
  have fin : ∀ {σ' : L2.St} {H' : Hp} {v : V} {u : Value}, Inv (cxG P w K mg base N qual scope f cdv A outer s H E) [] σ' H' s' → RelV v u → Q v H' → CE outer P w H s Q u s' :=
    fun {σ' H' v u} J rv q => ⟨v, H', J.os, J.bare, J.base, J.hok, rv, q⟩
  cases fl with
  | ret u =>
    obtain ⟨v, σ', H', J, rv, q⟩ := hs
    exact fin J rv q
  | next =>
    obtain ⟨σ', H', J, q⟩ := hs
    exact fin (v := V.non) (u := Value.none) J rfl q
  | brk =>
    obtain ⟨_, _, _, q⟩ := hs
    exact False.elim q
  | cont =>
    obtain ⟨_, _, _, q⟩ := hs
    exact False.elim q
theorem fn_ok {N ps : List Str} {k : Nat} {kp : Bool} {b : SM} (F : FunD K x qual params body scope dvs kws f fd) (Sc : FnScope N ps scope)
    (hbody : ∀ (cdv : Value) (A : Around) (outer : List Env) (s : Shared) (H : Hp) (E : XK), RoomG k (A.deeper (envOfC qual scope s.heap.objs.size f cdv)) → DSs (cxG P w K mg base N qual scope f cdv A outer s H E) E body b) : FnG P w K mg base (k + 1) f fd ps (fnM kp N.length b) :=
  fn_okc F Sc fun cdv A outer s H E _ hr => hbody cdv A outer s H E hr
end
def sV : PV → V
  | .bl b => .bl b
  | .int i => .int i
  | .str x => .str x
  | _ => .non
def isSc : PV → Bool
  | .non => true
  | .bl _ => true
  | .int _ => true
  | .str _ => true
  | _ => false
theorem sc_at {K : PySem.W.Frag} {mg : Str → Option Value} {H : Hp} {L Z : List Addr} : ∀ {ds : List PV}, ds.all isSc = true → Ats K mg H L Z ds (ds.map sV)
  | [], _ => .nil
  | d :: ds, h => by
    simp only [List.all_cons, Bool.and_eq_true] at h
    refine .cons ?_ (sc_at h.2)
    cases d with
    | non => exact .non
    | bl b => exact .bl b
    | int i => exact .int i
    | str x => exact .str x
    | _ => exact absurd h.1 (by simp [isSc])
section
variable {X : Cx} {W : XK} {k : Nat} {f C : Addr} {fd : FuncData} {ps : List Str} {m : Fn} {dv : List PV} {us0 : List Value} {x mn : Str} {p' pos apos : Pos} {e o : Expr} {es : List Expr} {fo : EM} {la : LM} {n : Nat}
theorem run_m {pins : List (Addr × Obj)} {σ : L2.St} {H : Hp} {s : Shared} {Q : VK} {us : List Value} {vs : List V} {ds : List PV} {S : Store} {L Z : List Addr} (F : FnG X.prog X.w X.K X.mg X.base k f fd ps m) (hr : RoomG k X.A) (hb : Binds X.K fd ps us0) (hd : Vals (dv.map sV) us0) (hsc : dv.all isSc = true)
    (tk : Takes X (kW W)) (I : Inv X pins σ H s) (st : Sta X.K X.mg H L Z S) (a : Ats X.K X.mg H L Z ds vs) (r : Vals vs us) (hl : ds.length + dv.length = ps.length) (h : PostV X (kW W) σ Z (m (ds ++ dv) S) H L Q) : wpAny (model X.prog X.w) X.A (call (.ref f) us) (EP X pins σ Q) X.xe s := by
  have r2 : Vals (vs ++ dv.map sV) (us ++ us0) := r.append hd
  have hl2 : (us ++ us0).length = ps.length := by rw [← r2.length, List.length_append, ← a.len, List.length_map]; exact hl
  refine wpAny_call (codeAny_mono (F.run X.A X.stack s H ⟨us, []⟩ (us ++ us0) _ (ds ++ dv) S L Z Q W hr I.env0 (hb s us I.kIn hl2) r2 st (a.append (sc_at hsc)) (by rw [List.length_append]; exact hl) (PostK.of h fun _ _ z => z)) fun r s' hq => ?_)
  cases r with
  | error e => exact passes_call (W := kW W) tk (fun _ _ _ _ z => z) pins σ H s e s' I hq
  | ok fl =>
    cases fl with
    | ret u => exact I.after hq
    | next => exact False.elim hq
    | brk => exact False.elim hq
    | cont => exact False.elim hq
def eCallN (n : Nat) (m : Fn) (dv : List PV) (a : LM) : EM := fun r S => (a r S).bind fun ds S1 => if ds.length + dv.length = n then m (ds ++ dv) S1 else .bad
theorem De.call (F : FnG X.prog X.w X.K X.mg X.base k f fd ps m) (hr : RoomG k X.A) (hg : Gl X x) (hm : X.mg x = some (.ref f)) (hk : PySem.W.keepIn X.K (.ref f) = true) (hb : Binds X.K fd ps us0) (hd : Vals (dv.map sV) us0) (hsc : dv.all isSc = true) (tk : Takes X (kW W)) (hn : n = ps.length)
    (ha : DA X (kW W) (e :: es) la) (hdb : (x == ("__debug__" : Str)) = false := by decide) (he : starEach (e :: es) X.env = (false, eval e X.env) :: starEach es X.env := by rfl) (hpl : (backTo pos (starEach es X.env)).any (·.1) = false := by rfl) :
    De X (kW W) (.Call (.Name x p') (e :: es) [] pos) (eCallN n m dv la) := by
  refine Jd.mk ?_
  intro pins s σ H r S L Z Q I sl st p
  refine wpAny_Call_Name_kw (ld_glob I hg hm ?_ hdb)
  refine PySem.W.callWith_K (h₀ := X.base) I.ok.mod.kin hk (ha.step pos I sl st p fun ds S1 vs us s1 H1 L1 I1 r1 sl1 st1 x1 a1 p1 => ⟨I1.kIn, ?_⟩) he hpl
  by_cases hl : ds.length + dv.length = n
  · rw [if_pos hl] at p1
    exact run_m F hr hb hd hsc tk I1 st1 a1 r1 (hl.trans hn) p1
  · rw [if_neg hl] at p1; exact p1.elim
def ofC (nm : Str) (d : PV) : Bool := match d with
  | .obj n _ => decide (n = nm)
  | _ => false
theorem obj_at {K : PySem.W.Frag} {mg : Str → Option Value} {H : Hp} {L Z : List Addr} {nm : Str} {C : Addr} {d : PV} {v : V} (hm : mg nm = some (.ref C)) (a : At K mg H L Z d v) (h : ofC nm d = true) : ∃ p dx fs, v = .ref p ∧ H p = some (.ins C dx fs) ∧ ∃ vs, d = .obj nm vs ∧ Atf K mg H L Z vs fs := by
  cases a with
  | obj h0 h1 h2 h3 h4 =>
    have h : _ = nm := of_decide_eq_true h
    subst h
    rw [hm] at h0; cases h0
    exact ⟨_, _, _, rfl, h1, _, rfl, h4⟩
  | _ => cases h
def eFld (nm f : Str) (o : EM) : EM := fun r S => (o r S).bind fun d S1 => match d with
  | .obj n fs => if n = nm then ofO (fs.lookup f) S1 else .bad
  | _ => .bad
def noErr (x : Res PV) : Res PV := match x with
  | .ok d S => .ok d S
  | _ => .bad
def eProp (nm : Str) (m : Fn) (o : EM) : EM := fun r S => (o r S).bind fun d S1 => if ofC nm d = true then noErr (m [d] S1) else .bad
def ofM (nm mn : Str) (d : PV) : Bool := match d with
  | .obj n fs => decide (n = nm) && (fs.lookup mn).isNone
  | _ => false
def eMeth (nm mn : Str) (n : Nat) (m : Fn) (dv : List PV) (o : EM) (a : LM) : EM := fun r S => (o r S).bind fun d S1 => if ofM nm mn d = true then (a r S1).bind fun ds S2 => (if (d :: ds).length + dv.length = n then m (d :: ds ++ dv) S2 else .bad) else .bad
theorem Atf.look {K : PySem.W.Frag} {mg : Str → Option Value} {H : Hp} {L Z : List Addr} {f : Str} {d : PV} : ∀ {ds : List (Str × PV)} {vs : List (Str × V)}, Atf K mg H L Z ds vs → ds.lookup f = some d → ∃ v, vs.lookup f = some v ∧ At K mg H L Z d v
  | _, _, .nil, h => by cases h
  | _, _, .cons (n := n) h1 h2, h => by
    simp only [List.lookup] at h ⊢
    cases e : f == n with
    | true => rw [e] at h; cases h; exact ⟨_, rfl, h1⟩
    | false => rw [e] at h; exact Atf.look h2 h
theorem De.fld {nm fl : Str} (hm : X.mg nm = some (.ref C)) (c : Cls X.K C) (na : NoAttr X.K C fl) (ho : De X (kW W) o fo) (hb : attributeBase o fl X.env (eval o X.env) = eval o X.env := by rfl) : De X (kW W) (.Attribute o fl pos) (eFld nm fl fo) := by
  refine Jd.mk ?_
  intro pins s σ H r S L Z Q I sl st p
  refine attr_of hb (ho.step I sl st p fun d S1 v u s1 H1 L1 I1 r1 sl1 st1 x1 a1 p1 => ?_)
  cases d with
  | obj nm' fs =>
    replace p1 : PostV X (kW W) σ Z (if nm' = nm then ofO (fs.lookup fl) S1 else .bad) H1 L1 Q := p1
    by_cases hn : nm' = nm
    · rw [if_pos hn] at p1
      subst hn
      obtain ⟨q, dx, vs, rfl, hq, _, e, b⟩ := obj_at hm a1 (by simp [ofC])
      cases e
      cases hl : fs.lookup fl with
      | none => rw [hl] at p1; exact p1.elim
      | some d' =>
        rw [hl] at p1
        obtain ⟨v', e', a'⟩ := b.look hl
        cases r1
        exact getattr_ok I1 hq c na e' fun u' s2 I2 ru => ⟨v', H1, I2, ru, post_val p1 st1 a'⟩
    · rw [if_neg hn] at p1; exact p1.elim
  | _ => exact (show False from p1).elim
theorem post_noerr {σ : L2.St} {Z : List Addr} {x : Res PV} {H : Hp} {L : List Addr} {Q : VK} {W' : WX} (p : PostV X W' σ Z (noErr x) H L Q) : PostK X.K X.mg E0 Z x H L Q := by
  cases x with
  | ok d S => exact p
  | err c S => exact p.elim
  | bad => exact p
theorem De.prop {nm fl : Str} {pp g : Addr} (hm : X.mg nm = some (.ref C)) (c : Cls X.K C) (hp : PropOf X.K C fl pp g) (F : FnG X.prog X.w X.K X.mg X.base k g fd ps m) (hr : RoomG (k + 1) X.A) (hb : Binds X.K fd ps []) (h1 : ps.length = 1) (ho : De X (kW W) o fo)
    (hab : attributeBase o fl X.env (eval o X.env) = eval o X.env := by rfl) : De X (kW W) (.Attribute o fl pos) (eProp nm m fo) := by
  refine Jd.mk ?_
  intro pins s σ H r S L Z Q I sl st p
  refine attr_of hab (ho.step I sl st p fun d S1 v u s1 H1 L1 I1 r1 sl1 st1 x1 a1 p1 => ?_)
  by_cases hn : ofC nm d = true
  · rw [if_pos hn] at p1
    obtain ⟨a, dx, vs, rfl, ea, _, rfl, b⟩ := obj_at hm a1 hn
    cases r1
    obtain ⟨mA, O, _, _, _, _⟩ := ins_get I1.hok ea
    obtain ⟨od, J, _⟩ := O.look
    obtain ⟨rest, hrec⟩ := hp.rec_
    have I2 := I1.tok (s1.toks + 1)
    have hc : (PySem.W.clsIn X.K C).isSome = true := by
      obtain ⟨cd, hc, _⟩ := PySem.W.any_some c.hd
      rw [hc]
      rfl
    refine PySem.W.get_bind I1.kIn J (PySem.W.plainGet_of (c.get fl)).1 (PySem.W.findObj_data hc hp.at_ hp.get hp.tak) (PySem.W.plainGet_of (c.get fl)).2 (wpAny_call (PySem.W.prop_get (s := { s1 with toks := s1.toks + 1 }) I1.kIn hrec ?_))
    refine codeAny_mono (F.run X.A.in1 X.stack { s1 with toks := s1.toks + 1 } H1 ⟨[.ref a], []⟩ [.ref a] [.ref a] _ S1 L1 Z Q E0 ⟨hr.rm.in1, hr.gd⟩ I2.env0.in1 (hb _ [.ref a] I2.kIn (by rw [h1]; rfl)) (.cons rfl .nil) st1 (.cons a1 .nil) (by rw [h1]; rfl) (post_noerr p1)) fun r s' hq => ?_
    cases r with
    | error er =>
      obtain ⟨_, _, _, _, _, _, _, _, _, _, _, _, z⟩ := hq
      exact z.elim
    | ok fl =>
      cases fl with
      | ret u =>
        obtain ⟨v, H', I3, rv, q3⟩ := I2.after hq
        show wpAny _ _ (handedOut u) _ _ _
        rw [PySem.W.handedOut_of (handed_of rv)]
        exact wpAny_pure ⟨v, H', I3, rv, q3⟩
      | next => exact False.elim hq
      | brk => exact False.elim hq
      | cont => exact False.elim hq
  · rw [if_neg hn] at p1; exact p1.elim
theorem Atf.none {K : PySem.W.Frag} {mg : Str → Option Value} {H : Hp} {L Z : List Addr} {f : Str} : ∀ {ds : List (Str × PV)} {vs : List (Str × V)}, Atf K mg H L Z ds vs → ds.lookup f = Option.none → vs.lookup f = Option.none
  | _, _, .nil, _ => rfl
  | _, _, .cons (n := n) h1 h2, h => by
    simp only [List.lookup] at h ⊢
    cases e : f == n with
    | true => rw [e] at h; cases h
    | false => rw [e] at h; exact Atf.none h2 h
theorem De.meth {nm : Str} {pl : Sem Bool} (hm : X.mg nm = some (.ref C)) (c : Cls X.K C) (hme : Meth X.K C mn f) (F : FnG X.prog X.w X.K X.mg X.base k f fd ps m) (hr : RoomG k X.A) (hb : Binds X.K fd ps us0) (hd : Vals (dv.map sV) us0) (hsc : dv.all isSc = true) (tk : Takes X (kW W)) (hn : n = ps.length)
    (ho : De X (kW W) o fo) (ha : DA X (kW W) (e :: es) la)
    (hst : starEach (e :: es) X.env = (false, eval e X.env) :: starEach es X.env := by rfl) (hpl : (backTo pos (starEach es X.env)).any (·.1) = false := by rfl)
    (ht : eval (.Call (.Attribute o mn apos) (e :: es) [] pos) X.env = (do
      let ov ← eval o X.env
      standAt apos.atName
      let (f, first) ← holding [ov] (getMethod ov mn pl)
      callWith pos f first (backTo pos (starEach (e :: es) X.env)) (backToKw pos (keywordEach [] X.env))) := by rfl) :
    De X (kW W) (.Call (.Attribute o mn apos) (e :: es) [] pos) (eMeth nm mn n m dv fo la) := by
  refine Jd.mk ?_
  intro pins s σ H r S L Z Q I sl st p
  refine PySem.W.methodCall_KW (pl := pl) (ho.step I sl st p fun d S1 v u s1 H1 L1 I1 r1 sl1 st1 x1 a1 p1 => ?_) ht
  by_cases hM : ofM nm mn d = true
  · rw [if_pos hM] at p1
    have hC : ofC nm d = true := by
      cases d with
      | obj n' fs => simp only [ofM, Bool.and_eq_true] at hM; exact hM.1
      | _ => cases hM
    obtain ⟨a, dx, vs, rfl, ea, fs, rfl, b⟩ := obj_at hm a1 hC
    have hl : vs.lookup mn = none := by
      simp only [ofM, Bool.and_eq_true, Option.isNone_iff_eq_none] at hM
      exact Atf.none b hM.2
    cases r1
    refine getmeth_ok I1 ea c hme hl ?_
    refine PySem.W.callWith_K (first := [.ref a]) (h₀ := X.base) I.ok.mod.kin hme.kp (ha.step pos I1 sl1 st1 p1 fun ds S2 xs us s2 H2 L2 I2 r2 sl2 st2 x2 a2 p2 => ⟨I2.kIn, ?_⟩) hst hpl
    by_cases hz : (PV.obj nm fs :: ds).length + dv.length = n
    · have p2 : PostV X (kW W) σ Z (if (PV.obj nm fs :: ds).length + dv.length = n then m (PV.obj nm fs :: ds ++ dv) S2 else .bad) H2 L2 Q := p2
      rw [if_pos hz] at p2
      exact run_m (us := .ref a :: us) (vs := .ref a :: xs) (ds := PV.obj nm fs :: ds) F hr hb hd hsc tk I2 st2 (.cons (a1.mono x2) a2) (.cons rfl r2) (hz.trans hn) p2
    · have p2 : PostV X (kW W) σ Z (if (PV.obj nm fs :: ds).length + dv.length = n then m (PV.obj nm fs :: ds ++ dv) S2 else .bad) H2 L2 Q := p2
      rw [if_neg hz] at p2; exact p2.elim
  · rw [if_neg hM] at p1; exact p1.elim
theorem Sta.newI {K : PySem.W.Frag} {mg : Str → Option Value} {H : Hp} {L Z : List Addr} {S : Store} {p : Addr} {nm : Str} {C dx : Addr} (st : Sta K mg H L Z S) (n : H p = none) (hm : mg nm = some (.ref C)) : Sta K mg (upd H p (.ins C dx [])) (L ++ [p]) Z (S ++ [.ins nm []]) := by
  have x : Ext H L (upd H p (.ins C dx [])) (L ++ [p]) := Ext.own n
  have st1 := st.laid (o := .ins C dx []) n
  refine ⟨?_, by simp [st.len], fun i c b h1 h2 => ?_, st1.zt, fun b hb => ?_, st1.tabs⟩
  · rw [List.nodup_append]
    exact ⟨st.nd, by simp, fun b hb c hc => by simp at hc; subst hc; exact fun z => (st.fresh n).1 (z ▸ hb)⟩
  · by_cases hi : i < S.length
    · rw [List.getElem?_append_left hi] at h1
      rw [List.getElem?_append_left (by rw [← st.len]; exact hi)] at h2
      obtain ⟨u, hu⟩ := st.has (List.mem_of_getElem? h2)
      exact (st.cells i c b h1 h2).mono x (by rw [upd_ne (ne_of_none hu n)])
    · have hi' : i = S.length := by
        have := (List.getElem?_eq_some_iff.mp h1).1
        simp at this; omega
      subst hi'
      rw [List.getElem?_append_right (Nat.le_refl _)] at h1
      rw [st.len, List.getElem?_append_right (Nat.le_refl _)] at h2
      simp at h1 h2
      subst h1 h2
      exact ⟨C, dx, [], hm, upd_same, .nil⟩
  · rcases List.mem_append.mp hb with hb | hb
    · exact st.dj b hb
    · simp at hb; subst hb; exact (st.fresh n).2
def makeM (fz : Bool) (nm : Str) (init : Fn) : Fn := fun ds S => match init (.loc S.length :: ds) (S ++ [.ins nm []]) with
  | .ok .non S' => if fz then shutR S.length (.loc S.length) S' else .ok (.loc S.length) S'
  | .err c S' => shutE S.length c S'
  | _ => .bad
theorem postK_shut {K : PySem.W.Frag} {mg : Str → Option Value} {E : XK} {H : Hp} {L Z : List Addr} {Q : VK} {d : PV} {S' : Store} {n : Nat} (hn : n = L.length) (p : PostK K mg E Z (shutR n d S') H L Q) {v : V} {H' : Hp} {L' : List Addr} (x' : Ext H L H' L') (st' : Sta K mg H' L' Z S') (a' : At K mg H' L' Z d v) : Q v H' := by
  unfold shutR at p
  by_cases h1 : S'.length ≤ n
  · rw [if_pos h1] at p; exact p v H' L' x' st' a'
  · rw [if_neg h1] at p
    by_cases h2 : (S'.take n).all (cellSmall n) = true
    · rw [if_pos h2] at p
      cases q2 : frz n S' d with
      | none => simp only [q2] at p; exact p.elim
      | some d' =>
        simp only [q2] at p
        have s2 := st'.take h2
        have a2 := At.frz st' a' q2
        rw [hn] at s2 a2 p
        exact p v H' _ x'.take s2 a2
    · rw [if_neg h2] at p; exact p.elim
theorem postK_shutE {K : PySem.W.Frag} {mg : Str → Option Value} {E : XK} {H : Hp} {L Z : List Addr} {Q : VK} {c : Str} {S' : Store} {n : Nat} (hn : n = L.length) (p : PostK K mg E Z (shutE n c S') H L Q) {cls : Value} {H' : Hp} {L' : List Addr} (x' : Ext H L H' L') (st' : Sta K mg H' L' Z S') (e : mg c = some cls) : E cls none H' := by
  unfold shutE at p
  by_cases h1 : S'.length ≤ n
  · rw [if_pos h1] at p; exact p H' L' cls x' st' e
  · rw [if_neg h1] at p
    by_cases h2 : (S'.take n).all (cellSmall n) = true
    · rw [if_pos h2] at p
      have := st'.take h2
      rw [hn] at this p
      exact p H' _ cls x'.take this e
    · rw [if_neg h2] at p; exact p.elim
theorem De.make {fz : Bool} (M : Mk X.K C f) (F : FnG X.prog X.w X.K X.mg X.base k f fd ps m) (hr : RoomG (k + 1) X.A) (hg : Gl X x) (hm : X.mg x = some (.ref C)) (hb : Binds X.K fd ps us0) (hd : Vals (dv.map sV) us0) (hsc : dv.all isSc = true) (tk : Takes X (kW W)) (hn : n + 1 = ps.length)
    (ha : DA X (kW W) (e :: es) la) (hdb : (x == ("__debug__" : Str)) = false := by decide) (he : starEach (e :: es) X.env = (false, eval e X.env) :: starEach es X.env := by rfl) (hpl : (backTo pos (starEach es X.env)).any (·.1) = false := by rfl) :
    De X (kW W) (.Call (.Name x p') (e :: es) [] pos) (eCallN n (makeM fz x m) dv la) := by
  refine Jd.mk ?_
  intro pins s σ H r S L Z Q I sl st p
  refine wpAny_Call_Name_kw (ld_glob I hg hm ?_ hdb)
  refine PySem.W.callWith_K (h₀ := X.base) I.ok.mod.kin M.kp (ha.step pos I sl st p fun ds S1 vs us s1 H1 L1 I1 r1 sl1 st1 x1 a1 p1 => ⟨I1.kIn, ?_⟩) he hpl
  by_cases hl : ds.length + dv.length = n
  · rw [if_pos hl] at p1
    have hdx : H1 s1.heap.objs.size = none := I1.hok.fresh (Nat.le_refl _)
    have ne : s1.heap.objs.size ≠ s1.heap.objs.size + 1 := Nat.ne_of_lt (Nat.lt_succ_self _)
    have hx : (upd H1 s1.heap.objs.size (.own (s1.heap.objs.size + 1))) (s1.heap.objs.size + 1) = none := by rw [upd_ne ne.symm]; exact I1.hok.fresh (Nat.le_succ _)
    have I2 := Inv.made (C := C) I1
    have r2 : Vals (V.ref (s1.heap.objs.size + 1) :: (vs ++ dv.map sV)) (Value.ref (s1.heap.objs.size + 1) :: (us ++ us0)) := .cons rfl (r1.append hd)
    have e3 : (us ++ us0).length + 1 = ps.length := by
      have := (r1.append hd).length
      rw [← this, List.length_append, ← a1.len, List.length_map, hl]; exact hn
    have x2 : Ext H1 L1 (upd (upd H1 s1.heap.objs.size (.own (s1.heap.objs.size + 1))) (s1.heap.objs.size + 1) (.ins C s1.heap.objs.size [])) (L1 ++ [s1.heap.objs.size + 1]) := (Ext.laid hdx).trans (Ext.own hx)
    have st2 : Sta X.K X.mg (upd (upd H1 s1.heap.objs.size (.own (s1.heap.objs.size + 1))) (s1.heap.objs.size + 1) (.ins C s1.heap.objs.size [])) (L1 ++ [s1.heap.objs.size + 1]) Z (S1 ++ [.ins x []]) := (st1.laid hdx).newI hx hm
    have aself : At X.K X.mg (upd (upd H1 s1.heap.objs.size (.own (s1.heap.objs.size + 1))) (s1.heap.objs.size + 1) (.ins C s1.heap.objs.size [])) (L1 ++ [s1.heap.objs.size + 1]) Z (.loc S1.length) (.ref (s1.heap.objs.size + 1)) := .loc (by rw [st1.len, List.getElem?_append_right (Nat.le_refl _)]; simp)
    have p3 : PostK X.K X.mg W Z (m (.loc S1.length :: (ds ++ dv)) (S1 ++ [.ins x []])) (upd (upd H1 s1.heap.objs.size (.own (s1.heap.objs.size + 1))) (s1.heap.objs.size + 1) (.ins C s1.heap.objs.size [])) (L1 ++ [s1.heap.objs.size + 1]) (fun v H2 => v = .non ∧ Q (.ref (s1.heap.objs.size + 1)) H2) := by
      have p1 : PostV X (kW W) σ Z (makeM fz x m (ds ++ dv) S1) H1 L1 Q := p1
      unfold makeM at p1
      cases q : m (.loc S1.length :: (ds ++ dv)) (S1 ++ [.ins x []]) with
      | bad => rw [q] at p1; exact p1.elim
      | err c S' =>
        rw [q] at p1
        exact fun H' L' cls x' st' e => postK_shutE (Q := Q) st1.len (PostK.of p1 fun _ _ z => z) (x2.trans x') st' e
      | ok d S' =>
        rw [q] at p1
        cases d with
        | non =>
          intro v H' L' x' st' a'
          cases a'
          refine ⟨rfl, ?_⟩
          have p1 : PostV X (kW W) σ Z (if fz = true then shutR S1.length (.loc S1.length) S' else .ok (.loc S1.length) S') H1 L1 Q := p1
          cases fz with
          | true => exact postK_shut (E := W) st1.len (PostK.of (show PostV X (kW W) σ Z (shutR S1.length (.loc S1.length) S') H1 L1 Q from p1) fun _ _ z => z) (x2.trans x') st' (aself.mono x')
          | false => exact (show PostV X (kW W) σ Z (.ok (.loc S1.length) S') H1 L1 Q from p1) _ H' L' (x2.trans x') st' (aself.mono x')
        | _ => exact (show False from p1).elim
    refine wpAny_call (make_map (f := f) I1.kIn M.makes M.init (beq_iff_eq.mp M.fn) (codeAny_mono (F.run _ X.stack _ _ ⟨Value.ref (s1.heap.objs.size + 1) :: us, []⟩ (Value.ref (s1.heap.objs.size + 1) :: (us ++ us0)) _ (.loc S1.length :: (ds ++ dv)) (S1 ++ [.ins x []]) (L1 ++ [s1.heap.objs.size + 1]) Z _ W
      ⟨hr.rm.make C us [], by first | exact hr.gd | (simpa [Around.under, Code.guards, Code.isGuard, guardIds, pushGuards] using hr.gd)⟩ (I2.env0.make C us []) (hb _ (Value.ref (s1.heap.objs.size + 1) :: us) I2.kIn (by simpa using e3)) r2 st2 (.cons aself ((a1.append (sc_at hsc)).mono x2)) (by rw [List.length_cons, List.length_append, hl]; exact hn) p3) fun r s' hq' => ?_))
    cases r with
    | error e => exact passes_call (W := kW W) tk (fun _ _ _ _ z => z) pins σ _ _ e s' I2 hq'
    | ok fl =>
      cases fl with
      | ret u =>
        obtain ⟨v, H', I3, rv, ev, q3⟩ := I2.after hq'
        subst ev
        exact ⟨rv, ⟨V.ref (s1.heap.objs.size + 1), H', I3, rfl, q3⟩⟩
      | next => exact False.elim hq'
      | brk => exact False.elim hq'
      | cont => exact False.elim hq'
  · rw [if_neg hl] at p1; exact p1.elim
def putA (f : Str) (d : PV) : List (Str × PV) → List (Str × PV)
  | [] => [(f, d)]
  | (g, x) :: r => if g = f then (g, d) :: r else (g, x) :: putA f d r
theorem Atf.put {K : PySem.W.Frag} {mg : Str → Option Value} {H : Hp} {L Z : List Addr} {f : Str} {d : PV} {v : V} (a : At K mg H L Z d v) : ∀ {ds : List (Str × PV)} {vs : List (Str × V)}, Atf K mg H L Z ds vs → Atf K mg H L Z (putA f d ds) (putF f v vs)
  | _, _, .nil => .cons a .nil
  | _, _, .cons (n := n) h1 h2 => by
    show Atf K mg H L Z (if n = f then _ else _) (if n = f then _ else _)
    by_cases e : n = f
    · rw [if_pos e, if_pos e]; exact .cons a h2
    · rw [if_neg e, if_neg e]; exact .cons h1 (Atf.put a h2)
theorem Atf.len {K : PySem.W.Frag} {mg : Str → Option Value} {H : Hp} {L Z : List Addr} : ∀ {ds : List (Str × PV)} {vs : List (Str × V)}, Atf K mg H L Z ds vs → ds.length = vs.length
  | _, _, .nil => rfl
  | _, _, .cons h1 h2 => by simp [h2.len]
def sFldSet (nms : List Str) (f : Str) (o v : EM) : SM := fun r S => (v r S).bind fun d S1 => (o r S1).bind fun x S2 => match x with
  | .loc k => (match S2[k]? with
    | some (.ins nm fs) => if nm ∈ nms ∧ fs.length < 1000 then .ok (.nx r) (S2.set k (.ins nm (putA f d fs))) else .bad
    | _ => .bad)
  | _ => .bad
theorem Sta.putI {K : PySem.W.Frag} {mg : Str → Option Value} {H : Hp} {L Z : List Addr} {S : Store} {k : Nat} {p C dx : Addr} {nm : Str} {fs fs' : List (Str × PV)} {vs' : List (Str × V)} (st : Sta K mg H L Z S) (e : S[k]? = some (.ins nm fs)) (hk : L[k]? = some p) (hm : mg nm = some (.ref C)) (a : Atf K mg H L Z fs' vs') :
    Ext H L (upd H p (.ins C dx vs')) L ∧ Sta K mg (upd H p (.ins C dx vs')) L Z (S.set k (.ins nm fs')) := by
  have hp : p ∈ L := List.mem_of_getElem? hk
  obtain ⟨C1, dx1, vs, _, h1, _⟩ := st.cells k _ p e hk
  have x : Ext H L (upd H p (.ins C dx vs')) L := by
    refine ⟨⟨[], by simp, fun _ h => nomatch h⟩, fun b u h hm _ => ?_, fun b u h => ?_⟩
    · by_cases hb : b = p
      · subst hb; rw [h1] at h; cases h; exact absurd trivial (hm hp)
      · rw [upd_ne hb]; exact h
    · by_cases hb : b = p
      · subst hb; exact ⟨_, upd_same⟩
      · exact ⟨u, by rw [upd_ne hb]; exact h⟩
  refine ⟨x, st.nd, by simp [st.len], fun i c b h2 h3 => ?_, fun b h => ?_, st.dj, fun p' hp' => tab_but (st.tabs p' hp') h1 fun a ha => upd_ne ha⟩
  · by_cases hi : k = i
    · subst hi
      rw [hk] at h3; cases h3
      have hl : k < S.length := (List.getElem?_eq_some_iff.mp e).1
      rw [List.getElem?_set_self hl] at h2; cases h2
      exact ⟨C, dx, vs', hm, upd_same, a.mono x⟩
    · rw [List.getElem?_set_ne hi] at h2
      have hb : b ≠ p := fun z => by
        subst z
        obtain ⟨n1, e1⟩ := List.getElem?_eq_some_iff.mp hk
        obtain ⟨n2, e2⟩ := List.getElem?_eq_some_iff.mp h3
        exact hi ((List.getElem_inj st.nd).mp (e1.trans e2.symm))
      exact (st.cells i c b h2 h3).mono x (by rw [upd_ne hb])
  · obtain ⟨u, hu⟩ := st.zt b h
    by_cases hb : b = p
    · subst hb; exact ⟨_, upd_same⟩
    · exact ⟨u, by rw [upd_ne hb]; exact hu⟩
theorem DS.fldSet {nms : List Str} {fl : Str} {fv : EM} {pos' : Pos} (hc : ∀ nm ∈ nms, ∀ C, X.mg nm = some (.ref C) → Cls X.K C ∧ NoAttr X.K C fl) (ho : De X (kW W) o fo) (hv : De X (kW W) e fv) (hs : swapsWith e (some (.Attribute o fl pos')) pos.line X.env = pure false := by rfl) :
    DS X W (.Assign [.Attribute o fl pos'] e pos) (sFldSet nms fl fo fv) := by
  refine Jd.mk ?_
  intro pins s σ H r S L Z D I sl st p
  refine plainObj_wpAny_Assign_Attribute (hv.stepS I sl st p fun d S1 y u s1 H1 L1 I1 r1 sl1 st1 x1 a1 p1 => ho.stepS I1 sl1 st1 p1 fun x S2 ov w s2 H2 L2 I2 r2 sl2 st2 x2 a2 p2 => ?_) hs
  have a1 := a1.mono x2
  cases x with
  | loc k' =>
    cases hc2 : S2[k']? with
    | none => simp only [hc2] at p2; exact p2.elim
    | some cl =>
      cases cl with
      | lst ds => simp only [hc2] at p2; exact p2.elim
      | dic kvs ep => simp only [hc2] at p2; exact p2.elim
      | set ks => simp only [hc2] at p2; exact p2.elim
      | ins nm fs =>
        simp only [hc2] at p2
        by_cases hz : nm ∈ nms ∧ fs.length < 1000
        · rw [if_pos hz] at p2
          cases a2 with
          | loc hk =>
            obtain ⟨C', dx, vs, e0, e1, b1⟩ := st2.cells k' _ _ hc2 hk
            obtain ⟨c, na⟩ := hc nm hz.1 C' e0
            cases r2
            obtain ⟨x4, st4⟩ := st2.putI (dx := dx) hc2 hk e0 (b1.put (f := fl) a1)
            exact setattr_ok I2 e1 c na (by rw [← b1.len]; exact hz.2) r1 fun s3 I3 => ⟨σ, _, I3, p2 σ _ L2 x4 (sl2.mono x4) st4⟩
        · rw [if_neg hz] at p2; exact p2.elim
  | _ => exact (show False from p2).elim
end
end Dn
namespace Dn
open PySem PySem.Spec PyProof.Rows L2
abbrev WN : XK := fun _ _ _ => False
def okOnly {α : Type} : Res α → Res α
  | .ok a S => .ok a S
  | _ => .bad
@[simp] theorem okOnly_ok {α : Type} (a : α) (S : Store) : okOnly (.ok a S) = .ok a S := nr rfl
def wipeE (r : Env1) : List Nat → Env1
  | [] => r
  | v :: vs => (wipeE r vs).set v none
def bYes : BM := fun _ S => .ok true S
noncomputable def compM (g : GM) (t : BM) (f : EM) (c : Src) (r0 : Env1) : List PV → Store → Res (List PV)
  | [], S => open Classical in if c.there S then .ok [] S else .bad
  | d :: ds, S => open Classical in if c.there S then (match g d r0 with
    | some r1 => (okOnly (t r1 S)).bind fun k S1 => if k = true then (okOnly (f r1 S1)).bind fun v S2 => (compM g t f c r0 ds S2).bind fun vs S3 => .ok (v :: vs) S3
        else compM g t f c r0 ds S1
    | none => .bad) else .bad
noncomputable def lComp (own : List Nat) (i : IM) (g : GM) (t : BM) (f : EM) : LM := fun r S => (i r S).bind fun c S1 => if c.ds.length ≤ sizeLine then compM g t f c (wipeE r own) c.ds S1 else .bad
def DTs (X : Cx) (W : WX) (es : List Expr) (f : BM) : Prop := PTs X es (rdT X W f)
section
variable {X : Cx} {W : WX}
theorem DTs.nil : DTs X W [] bYes := ⟨fun pins s σ H Q I ⟨r, S, L, Z, sl, st, p⟩ => pts_nil.run pins s σ H Q I (p true H L (Ext.refl H L) st rfl)⟩
theorem DTs.one {e : Expr} {b : BM} (h : DT X W e b) : DTs X W [e] b := pts_one h.pt
theorem takes_never {X : Cx} : Takes X (kW WN) := fun u s' x => by
  obtain ⟨_, _, _, _, _, _, _, _, _, _, _, _, _, _, _, _, z⟩ := x
  exact z.elim
theorem wipeE_get {r : Env1} {i : Nat} {d : PV} : ∀ {vs : List Nat}, (wipeE r vs)[i]? = some (some d) → r[i]? = some (some d) ∧ i ∉ vs
  | [], h => ⟨h, by simp⟩
  | v :: vs, h => by
    unfold wipeE at h
    by_cases hi : v = i
    · subst hi
      by_cases hv : v < (wipeE r vs).length
      · rw [List.getElem?_set_self hv] at h; cases h
      · rw [List.getElem?_eq_none (by simpa using hv)] at h; cases h
    · rw [List.getElem?_set_ne hi] at h
      obtain ⟨h1, h2⟩ := wipeE_get h
      exact ⟨h1, by simp only [List.mem_cons, not_or]; exact ⟨fun e => hi e.symm, h2⟩⟩
theorem Slots.wipe {K : PySem.W.Frag} {mg : Str → Option Value} {H : Hp} {L Z : List Addr} {r : Env1} {σ : L2.St} (sl : Slots K mg H L Z r σ) (vs : List Nat) : Slots K mg H L Z (wipeE r vs) (wipe σ vs) := fun i d e => by
  obtain ⟨e1, n⟩ := wipeE_get e
  obtain ⟨v, e2, a⟩ := sl i d e1
  exact ⟨v, by rw [wipe_out n]; exact e2, a⟩
theorem wipe_in {σ : L2.St} {i : Nat} : ∀ {vs : List Nat}, i ∈ vs → (wipe σ vs)[i]? = if i < σ.length then some none else none
  | v :: vs, h => by
    unfold wipe
    by_cases e : v = i
    · subst e
      by_cases hl : v < σ.length
      · rw [if_pos hl, List.getElem?_set_self (by rw [wipe_length]; exact hl)]
      · rw [if_neg hl, List.getElem?_eq_none (by rw [List.length_set, wipe_length]; omega)]
    · rw [List.getElem?_set_ne e]
      exact wipe_in ((List.mem_cons.mp h).elim (fun z => absurd z.symm e) id)
theorem wipe_chg {σ σ' : L2.St} {vs : List Nat} (h : Chg vs (wipe σ vs) σ') : wipe σ' vs = wipe σ vs := by
  refine List.ext_getElem? fun i => ?_
  have hl : σ'.length = σ.length := by rw [h.1, wipe_length]
  by_cases hi : i ∈ vs
  · rw [wipe_in hi, wipe_in hi, hl]
  · rw [wipe_out hi, wipe_out hi, h.2 i hi, wipe_out hi]
variable {tg iter elt : Expr} {ifs : List Expr} {scope : Scope} {own : List (Str × Nat)} {pos : Pos} {i : IM} {g : GM} {t : BM} {f : EM}
abbrev rdG (X : Cx) (vs : List Nat) (g : GM) : TG := fun v σ H Q => ∃ r r' S L Z d, Slots X.K X.mg H L Z r σ ∧ Sta X.K X.mg H L Z S ∧ At X.K X.mg H L Z d v ∧ g d r = some r' ∧ ∀ σ' H' L', Chg vs σ σ' → Ext H L H' L' → Slots X.K X.mg H' L' Z r' σ' → Sta X.K X.mg H' L' Z S → Q σ' H'
theorem DG.pg {vs : List Nat} (h : DG X W vs tg g) : PG X tg (rdG X vs g) := ⟨fun pins s σ H v u Q I rv ⟨r, r', S, L, Z, d, sl, st, a, e, q⟩ => h.out pins s σ H r r' S L Z d v u Q I sl st a rv e q⟩
theorem lc_rd {σ : L2.St} {H : Hp} {r : Env1} {S : Store} {L Z : List Addr} {Q : VK} (sl : Slots X.K X.mg H L Z r σ) (st : Sta X.K X.mg H L Z S) (p : PostF X W σ Z (lComp (own.map (·.2)) i g t f r S) H L Q) :
    tLc (rdI X W i) (rdG X (own.map (·.2)) g) (rdT X (kW WN) t) (rdE X (kW WN) f) (own.map (·.2)) σ H Q := by
  refine ⟨r, S, L, Z, sl, st, ?_⟩
  unfold lComp at p
  cases q : i r S with
  | bad => rw [q] at p; exact p.elim
  | err c S1 => rw [q] at p; exact p
  | ok c S1 =>
    rw [q] at p
    replace p : PostF X W σ Z (if c.ds.length ≤ sizeLine then compM g t f c (wipeE r (own.map (·.2))) c.ds S1 else .bad) H L Q := p
    by_cases hz : c.ds.length ≤ sizeLine
    rotate_left
    · rw [if_neg hz] at p; exact p.elim
    rw [if_pos hz] at p
    intro J H0 L0 x0 st0 y D hD
    -- what is wanted at the end, by the items so far
    refine ⟨fun k m H' => ∃ S' L' acc vs, k + m = c.ds.length ∧ Ext H0 L0 H' L' ∧ H' D = some (.lst vs) ∧ Ats X.K X.mg H' L' (D :: Z) acc vs ∧ Sta X.K X.mg H' L' (D :: Z) S' ∧ acc.length ≤ k ∧
        ∃ res : Res (List PV), compM g t f c (wipeE r (own.map (·.2))) (c.ds.drop k) S' = res ∧ (match res with
          | .ok ds S2 => PostF X W σ Z (.ok (acc ++ ds) S2) H L Q
          | _ => False), ⟨c.ds.length, S1, L0, [], [], Nat.zero_add _, Ext.laid hD, upd_same, .nil, st0.hid hD, Nat.zero_le _, _, rfl, ?_⟩, ?_⟩
    · cases q2 : compM g t f c (wipeE r (own.map (·.2))) (c.ds.drop 0) S1 with
      | ok ds S2 => rw [List.drop_zero] at q2; rw [q2] at p; exact p
      | err cl S2 =>
        -- nothing is raised there
        exfalso
        have noerr : ∀ (l : List PV) (S : Store) (cl : Str) (S2 : Store), compM g t f c (wipeE r (own.map (·.2))) l S ≠ .err cl S2 := by
          intro l
          induction l with
          | nil => intro S cl S2; unfold compM; split <;> (intro z; cases z)
          | cons d ds ih =>
            intro S cl S2
            unfold compM
            split
            · cases g d (wipeE r (own.map (·.2))) with
              | none => intro z; cases z
              | some r1 =>
                dsimp only
                cases t r1 S with
                | bad => intro z; cases z
                | err _ _ => intro z; cases z
                | ok k S3 =>
                  simp only [okOnly_ok, Res.bind_ok]
                  cases k with
                  | false => exact ih S3 cl S2
                  | true =>
                    simp only [if_true]
                    cases f r1 S3 with
                    | bad => intro z; cases z
                    | err _ _ => intro z; cases z
                    | ok v S4 =>
                      simp only [okOnly_ok, Res.bind_ok]
                      cases q5 : compM g t f c (wipeE r (own.map (·.2))) ds S4 with
                      | bad => intro z; cases z
                      | err a b => exact absurd q5 (ih S4 a b)
                      | ok a b => intro z; cases z
            · intro z; cases z
        exact noerr _ _ _ _ q2
      | bad => rw [List.drop_zero] at q2; rw [q2] at p; exact p
    · rintro k m H1 ⟨S2, L1, acc, vs, hm, x1, h1, a1, st1, hl, res, hres, pr⟩
      have x1' := x1
      have there : c.there S2 := by
        refine Classical.byContradiction fun z => ?_
        cases hd : c.ds.drop k with
        | nil => rw [hd] at hres; unfold compM at hres; rw [if_neg z] at hres; subst hres; exact pr
        | cons d ds => rw [hd] at hres; unfold compM at hres; rw [if_neg z] at hres; subst hres; exact pr
      have yst : Sta X.K X.mg H1 L1 Z S2 := st1.unhide
      cases m with
      | zero =>
        have hk : k = c.ds.length := by omega
        subst hk
        rw [List.drop_length] at hres
        unfold compM at hres
        rw [if_pos there] at hres
        subst hres
        refine .inl ⟨y.stop H1 L1 S2 x1 yst there, ?_⟩
        have pz : D ∉ Z := fun z => by obtain ⟨u, hu⟩ := st0.zt D z; rw [hD] at hu; cases hu
        have := pr vs D (cut H1 D) L1 (x0.trans (x1.but hD h1 (cut_but H1 D))) (st1.drop pz h1 trivial) (by rw [List.append_nil]; exact (Ats.stirB h1 trivial (cut_but H1 D) a1).unhide) (cut_at H1 D)
        rw [cut_upd h1] at this
        exact this
      | succ m =>
        have hk : k < c.ds.length := by omega
        rw [List.drop_eq_getElem_cons hk] at hres
        unfold compM at hres
        rw [if_pos there] at hres
        refine .inr ⟨y.go k H1 L1 S2 x1 yst there hk, fun H' => ∃ S' L' acc vs, Ext H0 L0 H' L' ∧ H' D = some (.lst vs) ∧ Ats X.K X.mg H' L' (D :: Z) acc vs ∧ Sta X.K X.mg H' L' (D :: Z) S' ∧ acc.length ≤ k + 1 ∧
          ∃ res : Res (List PV), compM g t f c (wipeE r (own.map (·.2))) (c.ds.drop (k + 1)) S' = res ∧ (match res with
          | .ok ds S2 => PostF X W σ Z (.ok (acc ++ ds) S2) H L Q
          | _ => False), fun H' ⟨S', L', acc', vs', b1, b2, b3, b4, b5, b6⟩ => ⟨m, Nat.lt_succ_self m, S', L', acc', vs', by omega, b1, b2, b3, b4, b5, b6⟩, fun v H2 yv => ?_⟩
        obtain ⟨d, hd, x2, st2', a2⟩ := y.yld [D] k H1 L1 S2 v H2 (fun q hq => by simp at hq; subst hq; exact hD) x1 st1 there yv hk
        have hd' : c.ds[k] = d := by
          rw [List.getElem?_eq_getElem hk] at hd; exact Option.some.inj hd
        rw [hd'] at hres
        have x12 := x1.trans x2
        have hD2 : H2 D = some (.lst vs) := x2.keep D _ h1 (fun z => absurd List.mem_cons_self (st1.dj D z)) (fun _ => nofun)
        have sl0 : Slots X.K X.mg H2 L1 (D :: Z) (wipeE r (own.map (·.2))) (wipe σ (own.map (·.2))) := ((((sl.mono x0).wipe (own.map (·.2))).hide hD).mono x12)
        have acc2 := a1.mono x2
        cases hg' : g d (wipeE r (own.map (·.2))) with
        | none => simp only [hg'] at hres; subst hres; exact pr.elim
        | some r1 =>
          simp only [hg'] at hres
          refine ⟨_, r1, S2, L1, D :: Z, d, sl0, st2', a2, hg', fun σ3 H3 L3 chg x3 sl3 st3 => ⟨wipe_chg chg, r1, S2, L3, D :: Z, sl3, st3, ?_⟩⟩
          cases qt : t r1 S2 with
          | bad => rw [qt] at hres; subst hres; exact pr.elim
          | err _ _ => rw [qt] at hres; subst hres; exact pr.elim
          | ok kb S3 =>
            rw [qt] at hres
            simp only [okOnly_ok, Res.bind_ok] at hres
            intro kb' H4 L4 x4 st4 e4
            have e4 : kb = kb' := e4
            subst e4
            have x34 := x3.trans x4
            cases kb with
            | false =>
              rw [if_neg Bool.false_ne_true] at hres ⊢
              exact ⟨S3, L4, acc, vs, x12.trans x34, x34.keep D _ hD2 (fun z => absurd List.mem_cons_self (st2'.dj D z)) (fun _ => nofun), acc2.mono x34, st4, Nat.le_succ_of_le hl, res, hres, pr⟩
            | true =>
              rw [if_pos rfl] at hres ⊢
              refine ⟨r1, S3, L4, D :: Z, sl3.mono x4, st4, ?_⟩
              cases qf : f r1 S3 with
              | bad => rw [qf] at hres; subst hres; exact pr.elim
              | err _ _ => rw [qf] at hres; subst hres; exact pr.elim
              | ok w S5 =>
                rw [qf] at hres
                simp only [okOnly_ok, Res.bind_ok] at hres
                intro yv H5 L5 x5 st5 a5
                have x35 := x34.trans x5
                have hD5 : H5 D = some (.lst vs) := x35.keep D _ hD2 (fun z => absurd List.mem_cons_self (st2'.dj D z)) (fun _ => nofun)
                have acc5 := acc2.mono x35
                cases qc : compM g t f c (wipeE r (own.map (·.2))) (c.ds.drop (k + 1)) S5 with
                | bad => rw [qc] at hres; subst hres; exact pr.elim
                | err _ _ => rw [qc] at hres; subst hres; exact pr.elim
                | ok ds S6 =>
                  rw [qc] at hres
                  simp only [Res.bind_ok] at hres
                  subst hres
                  refine ⟨vs, hD5, by rw [← acc5.len]; omega, S5, L5, acc ++ [w], vs ++ [yv], (x12.trans x35).but hD hD5 (But.upd D H5 _), upd_same, Ats.stir hD5 trivial (acc5.append (.cons a5 .nil)), Sta.stir st5 hD5 trivial, by simp; omega, _, qc, ?_⟩
                  simpa [List.append_assoc] using pr
section
variable (hc : X.calm = true) (hN : X.N.Nodup) (hi : DI X W tg iter i) (ok : BlkOk X.N X.env.scope scope own)
    (hg : ∀ (s : Shared) (H : Hp) (C : Addr) (cl : List (Str × Addr)) (fp : List Addr), DG (X.blk s H scope (compEnvC scope cl C X.env) fp) (kW WN) (own.map (·.2)) tg g)
    (ht : ∀ (s : Shared) (H : Hp) (C : Addr) (cl : List (Str × Addr)) (fp : List Addr), DTs (X.blk s H scope (compEnvC scope cl C X.env) fp) (kW WN) ifs t)
    (he : ∀ (s : Shared) (H : Hp) (C : Addr) (cl : List (Str × Addr)) (fp : List Addr), De (X.blk s H scope (compEnvC scope cl C X.env) fp) (kW WN) elt f)
include hc hN hi ok hg ht he
theorem DF.comp (hs : ∀ x, foldedSetIterable iter X.env x = pure x := by intro _; rfl) : DF X W (.ListComp elt [⟨tg, iter, ifs, 0⟩] scope pos) (lComp (own.map (·.2)) i g t f) := by
  refine Jd.mk ?_
  intro pins s σ H r S L Z Q I sl st p
  exact (pe_lc (pos := pos) (g := rdG X (own.map (·.2)) g) (tt := rdT X (kW WN) t) (te := rdE X (kW WN) f) hc hN hi.pi ok (fun s H C cl fp => (hg s H C cl fp).pg) ht (fun s H C cl fp => (he s H C cl fp).pe) hs).run pins s σ H Q I (lc_rd sl st p)
end
end
section
variable {X : Cx} {W : XK} {tg iter elt : Expr} {ifs : List Expr} {scope : Scope} {own : List (Str × Nat)} {pos spos py : Pos} {i : IM} {g : GM} {t : BM} {f : EM} {j : Nat} {y : Str}
variable (hc : X.calm = true) (hN : X.N.Nodup) (hy : X.N[j]? = some y) (hyl : X.env.scope.names.lookup y = some .local) (hi : DI X (kW W) tg iter i) (ok : BlkOk X.N X.env.scope scope own)
    (hg : ∀ (s : Shared) (H : Hp) (C : Addr) (cl : List (Str × Addr)) (fp : List Addr), DG (X.blk s H scope (compEnvC scope cl C X.env) fp) (kW WN) (own.map (·.2)) tg g)
    (ht : ∀ (s : Shared) (H : Hp) (C : Addr) (cl : List (Str × Addr)) (fp : List Addr), DTs (X.blk s H scope (compEnvC scope cl C X.env) fp) (kW WN) ifs t)
    (he : ∀ (s : Shared) (H : Hp) (C : Addr) (cl : List (Str × Addr)) (fp : List Addr), De (X.blk s H scope (compEnvC scope cl C X.env) fp) (kW WN) elt f)
include hc hN hy hyl hi ok hg ht he
theorem DS.setComp (hsw : swapsWith (.ListComp elt [⟨tg, iter, ifs, 0⟩] scope pos) (some (.Name y py)) spos.line X.env = pure true) (hs : ∀ x, foldedSetIterable iter X.env x = pure x := by intro _; rfl) :
    DS X W (.Assign [.Name y py] (.ListComp elt [⟨tg, iter, ifs, 0⟩] scope pos) spos) (sSet j (eNew (lComp (own.map (·.2)) i g t f))) := by
  refine Jd.mk ?_
  intro pins s σ H r S L Z D I sl st p
  refine (ps_setLc (g := rdG X (own.map (·.2)) g) (tt := rdT X (kW WN) t) (te := rdE X (kW WN) f) hc hN hy hyl hsw hi.pi ok (fun s H C cl fp => (hg s H C cl fp).pg) ht (fun s H C cl fp => (he s H C cl fp).pe) hs).run pins s σ H D I ?_
  have hj := lt_of_N I hy
  refine lc_rd (W := kW W) (Q := fun x H1 => gName j x σ H1 D.nx) sl st ?_
  unfold sSet eNew at p
  rw [Res.bind_assoc] at p
  cases q : lComp (own.map (·.2)) i g t f r S with
  | bad => rw [q] at p; exact p.elim
  | err c S1 => rw [q] at p; exact p
  | ok ds S1 =>
    rw [q] at p
    exact fun vs q' H' L' x st' at' n => (show PostS X W Z (.ok (.nx (r.set j (some (.lst ds)))) S1) H L D from p) _ _ L' (x.trans (Ext.laid n)) (((sl.mono x).mono (Ext.laid n)).set (.lst upd_same (st'.fresh n).1 (st'.fresh n).2 (at'.mono (Ext.laid n))) hj) (st'.laid n)
theorem DS.setCompC (hsw : swapsWith (.ListComp elt [⟨tg, iter, ifs, 0⟩] scope pos) (some (.Name y py)) spos.line X.env = pure true) (hs : ∀ x, foldedSetIterable iter X.env x = pure x := by intro _; rfl) :
    DS X W (.Assign [.Name y py] (.ListComp elt [⟨tg, iter, ifs, 0⟩] scope pos) spos) (sSet j (eCell (lComp (own.map (·.2)) i g t f))) := by
  refine Jd.mk ?_
  intro pins s σ H r S L Z D I sl st p
  refine (ps_setLc (g := rdG X (own.map (·.2)) g) (tt := rdT X (kW WN) t) (te := rdE X (kW WN) f) hc hN hy hyl hsw hi.pi ok (fun s H C cl fp => (hg s H C cl fp).pg) ht (fun s H C cl fp => (he s H C cl fp).pe) hs).run pins s σ H D I ?_
  have hj := lt_of_N I hy
  refine lc_rd (W := kW W) (Q := fun x H1 => gName j x σ H1 D.nx) sl st ?_
  unfold sSet eCell at p
  rw [Res.bind_assoc] at p
  cases q : lComp (own.map (·.2)) i g t f r S with
  | bad => rw [q] at p; exact p.elim
  | err c S1 => rw [q] at p; exact p
  | ok ds S1 =>
    rw [q] at p
    exact fun vs q' H' L' x st' at' n => (show PostS X W Z (.ok (.nx (r.set j (some (.loc S1.length)))) (S1 ++ [.lst ds])) H L D from p) _ _ (L' ++ [q']) (x.trans (Ext.own n)) (((sl.mono x).mono (Ext.own n)).set (.loc (by rw [st'.len, List.getElem?_append_right (Nat.le_refl _)]; simp)) hj) (st'.new n at')
end
end Dn
namespace Dn
open PySem PySem.Spec PyProof.Rows L2
structure Spc (X : Cx) (sp : Str) (k : Nat) (nm : Str) (n : Nat) (m : Fn) : Prop where
  ex : ∃ (C f : Addr) (fd : FuncData) (ps : List Str), X.mg nm = some (.ref C) ∧ PySem.W.findIn X.K (.ref C) sp = some (some (.ref f)) ∧ PySem.W.isFn X.K (.ref f) = true ∧ FnG X.prog X.w X.K X.mg X.base k f fd ps m ∧ Binds X.K fd ps [] ∧ ps.length = n
section
variable {X : Cx} {W : XK}
theorem PostV.step {W : WX} {σ : L2.St} {Z : List Addr} {x : Res PV} {k : PV → Store → Res PV} {H : Hp} {L : List Addr} {Q : VK} (p : PostV X W σ Z (x.bind k) H L Q) :
    PostV X W σ Z x H L (fun v H1 => ∃ d S1 L1, Sta X.K X.mg H1 L1 Z S1 ∧ At X.K X.mg H1 L1 Z d v ∧ PostV X W σ Z (k d S1) H1 L1 Q) := by
  cases x with
  | ok d S1 => exact fun v H1 L1 x1 st1 a1 => ⟨d, S1, L1, st1, a1, Post.ext p x1⟩
  | err c S1 => exact p
  | bad => exact p
def flat? : PV → Option V
  | .non => some .non
  | .bl b => some (.bl b)
  | .int i => some (.int i)
  | .str x => some (.str x)
  | _ => none
def flats? : List PV → Option (List V)
  | [] => some []
  | d :: ds => (flat? d).bind fun v => (flats? ds).map (v :: ·)
theorem flat_at {K : PySem.W.Frag} {mg : Str → Option Value} {H : Hp} {L Z : List Addr} {d : PV} {v w : V} (a : At K mg H L Z d v) (h : flat? d = some w) : v = w ∧ flatV v = true := by
  cases d with
  | non => cases a; cases h; exact ⟨rfl, rfl⟩
  | bl b => cases a; cases h; exact ⟨rfl, rfl⟩
  | int i => cases a; cases h; exact ⟨rfl, rfl⟩
  | str x => cases a; cases h; exact ⟨rfl, rfl⟩
  | _ => cases h
theorem flats_at {K : PySem.W.Frag} {mg : Str → Option Value} {H : Hp} {L Z : List Addr} : ∀ {ds : List PV} {vs ws : List V}, Ats K mg H L Z ds vs → flats? ds = some ws → vs = ws ∧ vs.all flatV = true
  | _, _, _, .nil, h => by simp [flats?] at h; subst h; exact ⟨rfl, rfl⟩
  | _, _, _, .cons (d := d) (ds := ds) h1 h2, h => by
    simp only [flats?] at h
    cases e : flat? d with
    | none => rw [e] at h; cases h
    | some w =>
      cases e2 : flats? ds with
      | none => rw [e, e2] at h; cases h
      | some ws =>
        rw [e, e2] at h; cases h
        obtain ⟨rfl, f1⟩ := flat_at h1 e
        obtain ⟨rfl, f2⟩ := flats_at h2 e2
        exact ⟨rfl, by rw [List.all_cons, f1, f2]; rfl⟩
def vIn (neg : Bool) (d e : PV) (S : Store) : Res PV := match flat? d, (seqOf S e).bind flats? with
  | some x, some xs => .ok (.bl (if neg then !inV x xs else inV x xs)) S
  | _, _ => .bad
theorem dop_in {W : WX} : DOp X W (compareOp .In) (vIn false) := by
  intro pins s σ H S L Z Q d e x y u v I st a1 a2 r1 r2 p
  unfold vIn at p
  cases h1 : flat? d with
  | none => rw [h1] at p; exact p.elim
  | some x' =>
    cases h2 : seqOf S e with
    | none => rw [h1, h2] at p; exact p.elim
    | some ds =>
      cases h3 : flats? ds with
      | none => rw [h1, h2] at p; simp only [Option.bind_some, h3] at p; exact p.elim
      | some xs =>
        rw [h1, h2] at p
        simp only [Option.bind_some, h3] at p
        obtain ⟨rfl, f1⟩ := flat_at a1 h1
        obtain ⟨q, vs, rfl, hq, b⟩ := seq_at st a2 h2
        obtain ⟨rfl, f2⟩ := flats_at b h3
        exact op_in_seq pins s σ H _ _ u v Q I r1 r2 ⟨q, _, rfl, hq, f1, f2, post_val p st (.bl _)⟩
def tyN (S : Store) : PV → Option String
  | .non => some "NoneType"
  | .bl _ => some "bool"
  | .int _ => some "int"
  | .str _ => some "str"
  | .tup _ => some "tuple"
  | .dik _ => some "dict"
  | d => match lstOf S d with
    | some _ => some "list"
    | none => none
structure InsF (K : PySem.W.Frag) (C : Addr) : Prop where
  cl : Cls K C
  ha : PySem.W.findIn K (.ref C) "__class__" = some (some (.builtin "object.__class__"))
  hn : PySem.W.specialIn K (.builtin "object.__class__") "__get__" = some (some (.builtin "getset_descriptor.__get__"))
  htk : PySem.W.takesIn K (.builtin "object.__class__") = some true
  hm : PySem.W.mroIn K C (.type "object") = some true
structure IsiF (X : Cx) (cl : List Str) : Prop where
  ins : ∀ nm ∈ cl, ∀ C, X.mg nm = some (.ref C) → InsF X.K C
  ty : ∀ nm ∈ cl, ∀ C, X.mg nm = some (.ref C) → ∀ n ∈ (["int", "bool", "str", "tuple", "list", "dict"] : List String), PySem.W.kitOne X.K (.ref C) (.type n) = some false
  own : ∀ nm ∈ cl, ∀ C, X.mg nm = some (.ref C) → ∀ n ∈ (["NoneType", "bool", "int", "str", "tuple", "list", "dict"] : List String), PySem.W.kitOne X.K (.type n) (.ref C) = some false
  two : ∀ nm ∈ cl, ∀ nm' ∈ cl, ∀ C C', X.mg nm = some (.ref C) → X.mg nm' = some (.ref C') → PySem.W.kitOne X.K (.ref C) (.ref C') = some (subC nm nm')
@[simp] theorem subC_self (a : Str) : subC a a = true := by simp [subC]
def isiT (t n : String) : Bool := t == n || (t == "bool" && n == "int")
def isi0 (o : Option String) (f : String → Bool) (S : Store) : Res PV := match o with
  | some t => .ok (.bl (f t)) S
  | none => .bad
def isi1 (cl : List Str) (f : String → Bool) (g : Str → Bool) (d : PV) (S : Store) : Res PV := match d with
  | .obj nm _ => if nm ∈ cl then .ok (.bl (g nm)) S else .bad
  | .loc i => (match S[i]? with
    | some (.ins nm _) => if nm ∈ cl then .ok (.bl (g nm)) S else .bad
    | _ => isi0 (tyN S (.loc i)) f S)
  | d => isi0 (tyN S d) f S
def vIsi (cl : List Str) (ds : List PV) (S : Store) : Res PV := match ds with
  | [d, .ty n] => if n ∈ (["int", "bool", "str", "tuple", "list", "dict"] : List String) then isi1 cl (fun t => isiT t n) (fun _ => false) d S else .bad
  | [d, .cls nm'] => if nm' ∈ cl then isi1 cl (fun _ => false) (fun nm => subC nm nm') d S else .bad
  | _ => .bad
theorem tyN_at {K : PySem.W.Frag} {mg : Str → Option Value} {H : Hp} {L Z : List Addr} {S : Store} {d : PV} {v : V} {t : String} (st : Sta K mg H L Z S) (a : At K mg H L Z d v) (h : tyN S d = some t) : TyX K H v (.type t) ∧ t ∈ (["NoneType", "bool", "int", "str", "tuple", "list", "dict"] : List String) := by
  have gen : (match lstOf S d with
    | some _ => some "list"
    | none => none) = some t → TyX K H v (.type t) ∧ t ∈ (["NoneType", "bool", "int", "str", "tuple", "list", "dict"] : List String) := fun h => by
    cases e : lstOf S d with
    | none => rw [e] at h; cases h
    | some xs =>
      rw [e] at h; cases h
      obtain ⟨q, vs, rfl, h1, _⟩ := lst_at st a e
      exact ⟨.base (.lst h1), by simp⟩
  cases d with
  | non => cases a; cases h; exact ⟨.base .non, by simp⟩
  | bl b => cases a; cases h; exact ⟨.base (.bl b), by simp⟩
  | int i => cases a; cases h; exact ⟨.base (.int i), by simp⟩
  | str x => cases a; cases h; exact ⟨.base (.str x), by simp⟩
  | tup xs =>
    cases h
    cases a with
    | tup h1 h2 =>
      refine ⟨?_, by simp⟩
      rcases h1 with (h1 | ⟨o, h1⟩) | ⟨o, its, n, h1, h2, _⟩
      · exact .base (.tup h1)
      · exact .fTuple h1
      · exact .kTuple h1 h2
  | lst _ => exact gen h
  | obj _ _ => exact gen h
  | loc _ => exact gen h
  | scr _ => exact gen h
  | ty _ => exact gen h
  | cls _ => exact gen h
  | exc _ => exact gen h
  | dic _ => exact gen h
  | tub _ => exact gen h
  | dik _ =>
    cases h
    cases a with
    | dik h1 _ _ _ => exact ⟨.base (.dK h1), by simp⟩
theorem kit_two {K : PySem.W.Frag} {t n : String} (ht : t ∈ (["NoneType", "bool", "int", "str", "tuple", "list", "dict"] : List String)) (hn : n ∈ (["int", "bool", "str", "tuple", "list", "dict"] : List String)) : PySem.W.kitOne K (.type t) (.type n) = some (isiT t n) := by
  have all : ∀ t ∈ (["NoneType", "bool", "int", "str", "tuple", "list", "dict"] : List String), ∀ n ∈ (["int", "bool", "str", "tuple", "list", "dict"] : List String), kitB t n = some (isiT t n) := by decide +kernel
  exact kit_ty (all t ht n hn)
theorem dc_isi {W : WX} {cl : List Str} (hi : IsiF X cl) : DC X W (.builtin "isinstance") (vIsi cl) := DC.of call_isi fun σ H S L Z Q ds xs st a p => by
  match ds, a, p with
  | [d, .ty n], .cons a1 (.cons a2 .nil), p =>
    cases a2
    replace p : PostV X W σ Z (if n ∈ (["int", "bool", "str", "tuple", "list", "dict"] : List String) then isi1 cl (fun t => isiT t n) (fun _ => false) d S else .bad) H L Q := p
    by_cases hn : n ∈ (["int", "bool", "str", "tuple", "list", "dict"] : List String)
    · rw [if_pos hn] at p
      have gen : PostV X W σ Z (isi0 (tyN S d) (fun t => isiT t n) S) H L Q → ∀ v, At X.K X.mg H L Z d v → rIsi X.K [v, .ty n] H Q := fun p v a1 => by
        cases h : tyN S d with
        | none => rw [h] at p; exact p.elim
        | some t =>
          rw [h] at p
          obtain ⟨ty, ht⟩ := tyN_at st a1 h
          exact ⟨v, .ty n, .type t, .type n, _, rfl, .ty n, ty, kit_two ht hn, post_val p st (.bl _)⟩
      cases d with
      | obj nm fs =>
        replace p : PostV X W σ Z (if nm ∈ cl then .ok (.bl false) S else .bad) H L Q := p
        by_cases hc : nm ∈ cl
        · rw [if_pos hc] at p
          cases a1 with
          | obj h0 h1 _ _ _ =>
            have z := hi.ins nm hc _ h0
            exact ⟨_, .ty n, _, .type n, false, rfl, .ty n, .base (.ins h1 z.cl z.ha z.hn z.htk z.hm), hi.ty nm hc _ h0 n hn, post_val p st (.bl _)⟩
        · rw [if_neg hc] at p; exact p.elim
      | non => exact gen p _ a1
      | bl _ => exact gen p _ a1
      | int _ => exact gen p _ a1
      | str _ => exact gen p _ a1
      | tup _ => exact gen p _ a1
      | lst _ => exact gen p _ a1
      | loc j =>
        replace p : PostV X W σ Z (match S[j]? with
          | some (.ins nm _) => if nm ∈ cl then .ok (.bl false) S else .bad
          | _ => isi0 (tyN S (.loc j)) (fun t => isiT t n) S) H L Q := p
        cases e : S[j]? with
        | none => rw [e] at p; exact gen p _ a1
        | some c => cases c with
          | lst _ => rw [e] at p; exact gen p _ a1
          | dic _ _ => rw [e] at p; exact gen p _ a1
          | set _ => rw [e] at p; exact gen p _ a1
          | ins nm fs =>
            rw [e] at p
            replace p : PostV X W σ Z (if nm ∈ cl then .ok (.bl false) S else .bad) H L Q := p
            by_cases hc : nm ∈ cl
            · rw [if_pos hc] at p
              cases a1 with
              | loc hl =>
                obtain ⟨C', dx, vs, h0, h1, _⟩ := st.cells _ _ _ e hl
                have z := hi.ins nm hc _ h0
                exact ⟨_, .ty n, _, .type n, false, rfl, .ty n, .base (.ins h1 z.cl z.ha z.hn z.htk z.hm), hi.ty nm hc _ h0 n hn, post_val p st (.bl _)⟩
            · rw [if_neg hc] at p; exact p.elim
      | scr _ => exact gen p _ a1
      | ty _ => exact gen p _ a1
      | cls _ => exact gen p _ a1
      | exc _ => exact gen p _ a1
      | dic _ => exact gen p _ a1
      | tub _ => exact gen p _ a1
      | dik _ => exact gen p _ a1
    · rw [if_neg hn] at p; exact p.elim
  | [d, .cls nm'], .cons a1 (.cons a2 .nil), p =>
    replace p : PostV X W σ Z (if nm' ∈ cl then isi1 cl (fun _ => false) (fun nm => subC nm nm') d S else .bad) H L Q := p
    by_cases hn : nm' ∈ cl
    · rw [if_pos hn] at p
      cases a2 with
      | cls h2 =>
        have gen : PostV X W σ Z (isi0 (tyN S d) (fun _ => false) S) H L Q → ∀ v, At X.K X.mg H L Z d v → rIsi X.K [v, .ref _] H Q := fun p v a1 => by
          cases h : tyN S d with
          | none => rw [h] at p; exact p.elim
          | some t =>
            rw [h] at p
            obtain ⟨ty, ht⟩ := tyN_at st a1 h
            exact ⟨v, .ref _, .type t, .ref _, _, rfl, .own _, ty, hi.own nm' hn _ h2 t ht, post_val p st (.bl _)⟩
        cases d with
        | obj nm fs =>
          replace p : PostV X W σ Z (if nm ∈ cl then .ok (.bl (subC nm nm')) S else .bad) H L Q := p
          by_cases hc : nm ∈ cl
          · rw [if_pos hc] at p
            cases a1 with
            | obj h0 h1 _ _ _ =>
              have z := hi.ins nm hc _ h0
              exact ⟨_, .ref _, _, .ref _, _, rfl, .own _, .base (.ins h1 z.cl z.ha z.hn z.htk z.hm), hi.two nm hc nm' hn _ _ h0 h2, post_val p st (.bl _)⟩
          · rw [if_neg hc] at p; exact p.elim
        | non => exact gen p _ a1
        | bl _ => exact gen p _ a1
        | int _ => exact gen p _ a1
        | str _ => exact gen p _ a1
        | tup _ => exact gen p _ a1
        | lst _ => exact gen p _ a1
        | loc j =>
          replace p : PostV X W σ Z (match S[j]? with
            | some (.ins nm _) => if nm ∈ cl then .ok (.bl (subC nm nm')) S else .bad
            | _ => isi0 (tyN S (.loc j)) (fun _ => false) S) H L Q := p
          cases e : S[j]? with
          | none => rw [e] at p; exact gen p _ a1
          | some c => cases c with
            | lst _ => rw [e] at p; exact gen p _ a1
            | dic _ _ => rw [e] at p; exact gen p _ a1
            | set _ => rw [e] at p; exact gen p _ a1
            | ins nm fs =>
              rw [e] at p
              replace p : PostV X W σ Z (if nm ∈ cl then .ok (.bl (subC nm nm')) S else .bad) H L Q := p
              by_cases hc : nm ∈ cl
              · rw [if_pos hc] at p
                cases a1 with
                | loc hl =>
                  obtain ⟨C', dx, vs, h0, h1, _⟩ := st.cells _ _ _ e hl
                  have z := hi.ins nm hc _ h0
                  exact ⟨_, .ref _, _, .ref _, _, rfl, .own _, .base (.ins h1 z.cl z.ha z.hn z.htk z.hm), hi.two nm hc nm' hn _ _ h0 h2, post_val p st (.bl _)⟩
              · rw [if_neg hc] at p; exact p.elim
        | scr _ => exact gen p _ a1
        | ty _ => exact gen p _ a1
        | cls _ => exact gen p _ a1
        | exc _ => exact gen p _ a1
        | dic _ => exact gen p _ a1
        | tub _ => exact gen p _ a1
        | dik _ => exact gen p _ a1
    · rw [if_neg hn] at p; exact p.elim
  | [], _, p => exact (show False from p).elim
  | [_], _, p => exact (show False from p).elim
  | _ :: _ :: _ :: _, _, p => exact (show False from by first | exact p | (rename_i y _ _ _; cases y <;> exact p)).elim
  | [_, .non], _, p => exact p.elim
  | [_, .bl _], _, p => exact p.elim
  | [_, .int _], _, p => exact p.elim
  | [_, .str _], _, p => exact p.elim
  | [_, .tup _], _, p => exact p.elim
  | [_, .lst _], _, p => exact p.elim
  | [_, .obj _ _], _, p => exact p.elim
  | [_, .loc _], _, p => exact p.elim
  | [_, .scr _], _, p => exact p.elim
  | [_, .exc _], _, p => exact p.elim
  | [_, .dic _], _, p => exact p.elim
  | [_, .tub _], _, p => exact p.elim
  | [_, .dik _], _, p => exact p.elim
end
end Dn
namespace Dn
open PySem PySem.Spec PyProof.Rows L2
def fmtOf (d : PV) (S : Store) : Res PV := match d with
  | .str y => if y.length ≤ sizeLine then .ok (.str y) S else .bad
  | .int i => if i.natAbs.log2 < 1920 then .ok (.str (toString i)) S else .bad
  | _ => .bad
def eFmt (a : EM) : EM := fun r S => (a r S).bind fmtOf
def joinM : List EM → Str → Env1 → Store → Res PV
  | [], acc, _, S => .ok (.str acc) S
  | f :: fs, acc, r, S => (f r S).bind fun d S1 => match d with
    | .str y => if (acc ++ y).length ≤ sizeLine then joinM fs (acc ++ y) r S1 else .bad
    | _ => .bad
def eJoin (fs : List EM) : EM := joinM fs Str.empty
inductive DJ (X : Cx) (W : WX) : List Expr → List EM → Prop where
  | nil : DJ X W [] []
  | cons {e : Expr} {f : EM} {es : List Expr} {fs : List EM} (h : De X W e f) (r : DJ X W es fs) : DJ X W (e :: es) (f :: fs)
section
variable {X : Cx} {W : WX} {e : Expr} {f : EM} {pos : Pos}
end
def sAsg (g : GM) (a : EM) : SM := fun r S => (a r S).bind fun d S1 => match g d r with
  | some r1 => .ok (.nx r1) S1
  | none => .bad
def sPar (i j : Nat) (a : LM) : SM := fun r S => (a r S).bind fun ds S1 => match ds with
  | [d, e] => .ok (.nx ((r.set i (some d)).set j (some e))) S1
  | _ => .bad
def sRaise (c : Str) : SM := fun _ S => .err c S
section
variable {X : Cx} {W : XK} {e tg : Expr} {fe : EM} {la : LM} {g : GM} {pos : Pos} {vs0 : List Nat}
theorem DS.asg (he : De X (kW W) e fe) (hg : DG X (kW W) vs0 tg g) (hs : swapsWithSole [tg] e pos.line X.env = pure false := by rfl) (hw : swappedStores [tg] e X.env = pure none := by rfl)
    (h1 : (assignEach [tg] X.env).map (·.2) = [assign tg X.env] := by rfl) : DS X W (.Assign [tg] e pos) (sAsg g fe) := by
  refine Jd.mk ?_
  intro pins s σ H r S L Z D I sl st p
  refine wpAny_Assign_stores (he.stepS I sl st p fun d S1 x u s1 H1 L1 I1 r1 sl1 st1 x1 a1 p1 => ?_) hs hw
  rw [h1]
  cases q : g d r with
  | none => rw [q] at p1; exact p1.elim
  | some r2 =>
    rw [q] at p1
    exact thn (hg.out pins s1 σ H1 r r2 S1 L1 Z d x u (fun σ' H' => D.nx σ' H') I1 sl1 st1 a1 r1 q fun σ' H' L' _ x' sl' st' => p1 σ' H' L' x' sl' st') fun _ s2 q => q
theorem DS.par {i j : Nat} {x y : Str} {a b : Expr} {px py pt : Pos} {kt k2 pt2} (hc : X.calm = true) (hN : X.N.Nodup) (hi : X.N[i]? = some x) (hj : X.N[j]? = some y) (hij : i ≠ j)
    (hx : X.env.scope.names.lookup x = some .local) (hy : X.env.scope.names.lookup y = some .local) (ha : DA X (kW W) [a, b] la)
    (hw : swappedStores [.Tuple [.Name x px, .Name y py] kt pt] (.Tuple [a, b] k2 pt2) X.env = pure (some [x, y]))
    (hs : swapsWithSole [.Tuple [.Name x px, .Name y py] kt pt] (.Tuple [a, b] k2 pt2) pos.line X.env = pure false := by rfl) :
    DS X W (.Assign [.Tuple [.Name x px, .Name y py] kt pt] (.Tuple [a, b] k2 pt2) pos) (sPar i j la) := by
  refine Jd.mk ?_
  intro pins s σ H r S L Z D I sl st p
  refine (ps_par hc hN hi hj hij hx hy ha.pa hw hs).run pins s σ H D I ⟨r, S, L, Z, sl, st, ?_⟩
  have li := lt_of_N I hi
  have lj := lt_of_N I hj
  unfold sPar at p
  cases q : la r S with
  | bad => rw [q] at p; exact p.elim
  | err c S1 => rw [q] at p; exact p
  | ok ds S1 =>
    rw [q] at p
    intro vs H' L' x' st' a'
    match ds, a', p with
    | [d, e], .cons a1 (.cons a2 .nil), p =>
      exact ⟨_, _, rfl, (show PostS X W Z (.ok (.nx ((r.set i (some d)).set j (some e))) S1) H L D from p) _ H' L' x' (((sl.mono x').set a1 li).set a2 (by rw [List.length_set]; exact lj)) st'⟩
    | [], _, p => exact (show False from p).elim
    | [_], _, p => exact (show False from p).elim
    | _ :: _ :: _ :: _, _, p => exact (show False from p).elim
theorem DS.raise {c : Str} {C : Addr} (hc : X.calm = true) (tk : Takes X (kW W)) (hm : X.mg c = some (.ref C)) (he : PMk X e (fun _ H Q => Q (.ref C) none H)) : DS X W (.Raise (some e) none pos) (sRaise c) := by
  refine Jd.mk ?_
  intro pins s σ H r S L Z D I sl st p
  exact (ps_raise hc tk he).run pins s σ H D I (p H L _ (Ext.refl H L) st hm)
end
end Dn
namespace Dn
open PySem PySem.Spec PyProof.Rows L2
def tadr (K : PySem.W.Frag) : List Addr := (tabsOf K).map (·.1)
def hp0 (K : PySem.W.Frag) (a : Addr) (so : Obj) (ns : List Int) : Hp := fun b =>
  if b = a then (if (K.lookup a).isSome then none else some (.frz so (.lst (ns.map V.int)))) else if b ∈ tadr K then some (.tbl #[]) else none
theorem hp0_cases {K : PySem.W.Frag} {a b : Addr} {so : Obj} {ns : List Int} {u : HO} (h : hp0 K a so ns b = some u) : (b = a ∧ K.lookup a = none ∧ u = .frz so (.lst (ns.map V.int))) ∨ (b ≠ a ∧ b ∈ tadr K ∧ u = .tbl #[]) := by
  unfold hp0 at h
  by_cases z : b = a
  · rw [if_pos z] at h
    cases q : K.lookup a with
    | some o => rw [q] at h; simp at h
    | none => rw [q] at h; simp at h; exact .inl ⟨z, rfl, h.symm⟩
  · rw [if_neg z] at h
    by_cases z2 : b ∈ tadr K
    · rw [if_pos z2] at h; cases h; exact .inr ⟨z, z2, rfl⟩
    · rw [if_neg z2] at h; cases h
theorem law_run {P : Program} {w : World} {K : PySem.W.Frag} {mg mb : Str → Option Value} {k : Nat} {fa a : Addr} {fd : FuncData} {x : Str} {m : Fn} {s₁ : Shared} {vs : List Value} {ns : List Int}
    (KX : K.In s₁.heap) (hns : s₁.heap.Ns mainGlobals mg) (hb : s₁.heap.Ns builtinsNs mb) (hbb : ∀ x : Str, x ≠ "__name__" → mb x = bootBuiltins x) (hlim : s₁.heap.NoLimit) (hg : s₁.gens = #[])
    (bmn : ∃ (bm : Addr) (ob : Obj), mg "__builtins__" = some (.ref bm) ∧ bm ≠ builtinsNs ∧ s₁.heap.get? bm = some ob ∧ ob.cls = .type "module" ∧ ob.dict = some builtinsNs ∧ ob.data = .plain)
    (tE : ∀ b ∈ tadr K, s₁.heap.get? b = some { cls := .none, data := .fields #[] }) (tN : ∀ b ∈ tadr K, K.lookup b = none) (tC : ∀ b ∈ tadr K, ∃ c, PySem.W.CodeHd s₁.heap c b)
    (ha : s₁.heap.get? a = some { cls := .type "list", data := .seq vs.toArray }) (hi : IntsAre vs ns) (hl : ns.length ≤ sizeLine) (hr : Room k callerA)
    (F : ∀ base : Heap, K.In base → base.Ns mainGlobals mg → (∀ b ∈ tadr K, base.BuiltinsAt mg b) → FnG P w K mg base k fa fd [x] m) (hbind : ∀ (s : Shared) (u : Value), BindsTo s fd ⟨[u], []⟩ [(x, u)]) (hm : ∃ S, m [.scr ns] [] = .ok (.bl true) S) :
    codeAny (model P w) callerA (.call (.ref fa) ⟨[.ref a], []⟩) (fun r s' => r = .ok (.ret (.bool true)) ∧ OldK s₁.heap s'.heap ∧ s'.os = s₁.os ∧ AllBare s'.gens) s₁ := by
  obtain ⟨Sm, hm⟩ := hm
  have rv := vals_ints hi
  let so : Obj := { cls := .type "list", data := .seq vs.toArray }
  let H : Hp := hp0 K a so ns
  have aT : a ∉ tadr K := fun z => by
    have q := tE a z
    rw [ha] at q
    cases (show Data.seq vs.toArray _ = Data.fields #[] from congrArg Obj.data (Option.some.inj q))
  have hTab : ∀ b ∈ tadr K, H b = some (.tbl #[]) := fun b hb => by
    show hp0 K a so ns b = _
    unfold hp0
    rw [if_neg (fun z : b = a => aT (z ▸ hb)), if_pos hb]
  have hok : HOk P w H s₁.heap := fun b u h => by
    rcases hp0_cases h with ⟨rfl, _, rfl⟩ | ⟨_, hb, rfl⟩
    · exact ⟨ha, by rw [List.length_map]; exact hl, vs, _, rv, ha⟩
    · exact tE b hb
  have at_ : At K mg H [] [] (.scr ns) (.ref a) := by
    cases hk : K.lookup a with
    | some o =>
      have e := KX a o hk
      rw [ha] at e; cases e
      exact .scrk fun H' => .inr ⟨_, vs.toArray, _, hk, rfl, rfl, rfl, by rw [List.size_toArray, hi.length]; exact hl, by simpa using rv⟩
    | none =>
      refine .scr (.inr ⟨so, ?_⟩) (fun h => nomatch h) (fun h => nomatch h)
      show hp0 K a so ns a = _
      unfold hp0
      rw [if_pos rfl, hk]; rfl
  have kept : ∀ {b : Addr} {o : Obj}, s₁.heap.get? b = some o → H b = none → (hidT s₁.heap H).get? b = some o := fun e h => hidT_get e h
  -- an object of another kind isn't tracked
  have free : ∀ {b : Addr} {o : Obj}, s₁.heap.get? b = some o → o.data ≠ .seq vs.toArray → o.data ≠ .fields #[] → H b = none := fun {b o} e n1 n2 => by
    cases q : H b with
    | none => rfl
    | some u =>
      rcases hp0_cases q with ⟨rfl, _, _⟩ | ⟨_, hb, _⟩
      · rw [ha] at e; cases e; exact absurd rfl n1
      · rw [tE b hb] at e; cases e; exact absurd rfl n2
  have dicts : ∀ {b : Addr} {m : Str → Option Value}, s₁.heap.Ns b m → (hidT s₁.heap H).Ns b m := fun {b m} ⟨o, es, ep, e, d, r⟩ =>
    ⟨o, es, ep, kept e (free e (fun z => by rw [d] at z; cases z) (fun z => by rw [d] at z; cases z)), d, r⟩
  have KH : K.In (hidT s₁.heap H) := fun b o e => kept (KX b o e) (by
    cases q : H b with
    | none => rfl
    | some u =>
      rcases hp0_cases q with ⟨rfl, z, _⟩ | ⟨_, hb, _⟩
      · rw [z] at e; cases e
      · rw [tN b hb] at e; cases e)
  have md : Mod K mg (hidT s₁.heap H) := ⟨KH, dicts hns, ⟨mb, dicts hb, hbb⟩, let ⟨mc, h1, h2⟩ := hlim; ⟨mc, dicts h1, h2⟩⟩
  have bAt : ∀ b ∈ tadr K, (hidT s₁.heap H).BuiltinsAt mg b := fun b hb => by
    obtain ⟨bm, ob, b1, b2, b3, b4, b5, b6⟩ := bmn
    refine ⟨bm, ob, b1, b2, fun q => ?_, fun q => ?_, kept b3 (free b3 (fun z => by rw [b6] at z; cases z) (fun z => by rw [b6] at z; cases z)), b4, b5, b6⟩
    · obtain ⟨o, es, ep, e, hd, _⟩ := hns
      rw [q, e] at b3; cases b3
      rw [hd] at b6; cases b6
    · rw [q, tE b hb] at b3; cases b3; cases b6
  have e0 : Env0 P w K mg (hidT s₁.heap H) callerA [] s₁ H := ⟨rfl, md, fun b o e => of_hidT e, Nat.le_of_eq (hidT_size _ _), trivial, fun b hb => absurd (show b ∈ ([] : List Addr) from hb) (by simp), hok, .of_eq hg⟩
  have tabs : LamX.Tabs (tabsOf K) H := fun p hp => LamX.TabS.nil (hTab p.1 (List.mem_map.mpr ⟨p, hp, rfl⟩))
  have st : Sta K mg H [] [] [] := ⟨List.nodup_nil, rfl, fun i c b h => by simp at h, fun _ h => (nomatch h), fun _ h => (nomatch h), tabs⟩
  refine codeAny_mono ((F _ KH (dicts hns) bAt).run callerA [] s₁ H ⟨[.ref a], []⟩ [.ref a] [.ref a] [.scr ns] [] [] [] (fun v _ => v = .bl true) (fun _ _ _ => False) ⟨hr, rfl⟩ e0 (hbind s₁ (.ref a)) (.cons rfl .nil) st (.cons at_ .nil) rfl (by
    rw [hm]
    exact fun v H' L' _ _ at' => by cases at'; rfl)) fun r s' h => ?_
  cases r with
  | error e =>
    obtain ⟨_, _, _, _, _, _, _, _, _, _, _, _, z⟩ := h
    exact z.elim
  | ok fl =>
    cases fl with
    | next => exact False.elim h
    | brk => exact False.elim h
    | cont => exact False.elim h
    | ret u =>
      obtain ⟨v, H', os, bare, un, hok', r', q⟩ := h
      have q' : v = .bl true := q
      subst q'
      obtain rfl : u = Value.bool true := r'
      have stay : ∀ b o, b ∉ tadr K → s₁.heap.get? b = some o → s'.heap.get? b = some o := fun b o nb e => by
        cases q : H b with
        | none => exact un.keep b o e q (fun z => absurd (show b ∈ ([] : List Addr) from z) (by simp)) (by simp)
        | some u =>
          rcases hp0_cases q with ⟨rfl, _, rfl⟩ | ⟨_, hb, _⟩
          · obtain ⟨e1, _⟩ := hok b _ q
            obtain ⟨e2, _⟩ := hok' b _ (un.frzs b so _ q)
            rw [e] at e1; cases e1
            exact e2
          · exact absurd hb nb
      have more : ∀ b ∈ tadr K, ∃ ps : Array Value, s'.heap.get? b = some { cls := .none, data := .fields ps } := fun b hb => by
        obtain ⟨ps, z⟩ := un.tbls b #[] (hTab b hb)
        exact ⟨_, hok' b _ z⟩
      refine ⟨rfl, ⟨fun b o e => ?_, fun b o e => ?_⟩, os, bare⟩
      · by_cases hb : b ∈ tadr K
        · obtain ⟨ps, z⟩ := more b hb
          obtain ⟨c, hc⟩ := tC b hb
          have z0 := tE b hb
          rw [z0] at e; cases e
          exact .inr (.inl ⟨(hc.tab z0).isCodeTable, rfl, #[], ps, rfl, by rw [Array.empty_append]; exact z⟩)
        · exact .inl (stay b o hb e)
      · by_cases hb : b ∈ tadr K
        · obtain ⟨ps, z⟩ := more b hb
          exact ⟨_, z⟩
        · exact ⟨o, stay b o hb e⟩
theorem walk_G {l : PySem.W.OpenLaw} {n k : Nat} {q : Program} {loose : List Str} {XP : (Str → Option Value) → Heap → Prop} {YP : World → Heap → Prop} {d : DefRec} {x : Str} {m : Fn}
    (hn : l.most = some n) (hn2 : n ≤ sizeLine) (hdf : d.params.defaults = []) (hr : Room k callerA)
    (F : ∀ (w : World) (mg : Str → Option Value) (fa : Addr) (h : Heap), YP w h → h.Ns mainGlobals mg → mg d.name = some (.ref fa) →
      ∃ (K : PySem.W.Frag) (fd : FuncData), K.In h ∧ ((∀ b ∈ tadr K, h.get? b = some { cls := .none, data := .fields #[] }) ∧ (∀ b ∈ tadr K, K.lookup b = none) ∧ ∀ b ∈ tadr K, ∃ c, PySem.W.CodeHd h c b) ∧ (∀ (s : Shared) (u : Value), BindsTo s fd ⟨[u], []⟩ [(x, u)]) ∧
        ∀ base : Heap, K.In base → base.Ns mainGlobals mg → (∀ b ∈ tadr K, base.BuiltinsAt mg b) → FnG l.prog w K mg base k fa fd [x] m)
    (hm : ∀ ns : List Int, ns.length ≤ n → (∀ z ∈ ns, Builtin.Int.intBits z ≤ 1048576) → ∃ S, m [.scr ns] [] = .ok (.bl true) S) :
    PySem.W.WalkO q loose XP YP l.row.toRowW d [] (fun f vs => PySem.call f vs) := by
  refine Att.attach_callB hn hdf fun w s₀ s₁ mg mb fa o pm cd doc a vs ns G Y ho hd hcd hmg hobj hints hlen hbits hg => ?_
  obtain ⟨K, fd, KX, ⟨t1, t2, t3⟩, hb, hF⟩ := F w mg fa _ Y G.T.g hmg
  exact law_run KX G.T.g G.T.b G.T.builtins G.T.nolimit hg G.T.bmain t1 t2 t3 hobj hints (Nat.le_trans hlen hn2) hr hF hb (hm ns hlen hbits)
end Dn
namespace Dn
open PySem PySem.Spec PyProof.Rows L2
theorem Df.funD {K : PySem.W.Frag} {d : Df} (e : fvAt K (d.pl.ad K) = d.val) (c : d.ok K = true) (hc : d.clo = []) : FunD K d.name d.qual d.params d.body d.scope (d.dvs K) [] (d.pl.ad K) (fdAt K (d.pl.ad K)) := by
  obtain ⟨kp, c⟩ := He.ba c
  unfold fvAt at e
  unfold fdAt
  generalize d.pl.ad K = a at *
  cases q : K.lookup a with
  | none => rw [q] at e; cases e
  | some o =>
    obtain ⟨oc, od, dt, osl⟩ := o
    rw [q] at e c
    cases dt with
    | func fd =>
      obtain ⟨m1, m2, m3, m4, m5, m6, m7, m8, m9, m10, m11, m12, m13, m14, m15⟩ := fd
      have e2 : (some (m1, m2, m3, m4, m5, m6, m7.map (·.1), m15) : FV) = some (d.name, d.qual, d.params, .stmts d.body, d.scope, mainGlobals, d.clo, builtinsNs) := e
      rw [hc] at e2
      simp only [Option.some.injEq, Prod.mk.injEq] at e2
      obtain ⟨h1, h2, h3, h4, h5, h6, h7, h8⟩ := e2
      have h7 : m7 = [] := List.map_eq_nil_iff.mp h7
      subst h1 h2 h3 h4 h5 h6 h7 h8
      obtain ⟨k1, k2⟩ := He.ba (show (PySem.W.codeIn K m13 d.qual && He.dflB K m8 (d.dvs K)) = true from c)
      exact ⟨⟨oc, od, m8, m9, m10, m11, m12, m13, m14, osl, rfl, q, k1, He.dflB_ok k2, .inl rfl⟩, kp⟩
    | _ => cases e
theorem propB_ok {c m : Str} {K : PySem.W.Frag} (h : propB c m K = true) : PropOf K (ga K c) m (ma K c m) ((Pl.get c m).ad K) := by
  obtain ⟨h1, h⟩ := He.ba h
  obtain ⟨h2, h⟩ := He.ba h
  obtain ⟨h3, h4⟩ := He.ba h
  refine ⟨He.eqO_ok h1, He.eqO_ok h2, of_decide_eq_true h3, ?_⟩
  show ∃ rest, PySem.W.recIn K (ma K c m) "property" = some (.ref (recFst K (ma K c m) "property") :: rest)
  unfold recFst
  split at h4
  · rename_i a rest e
    rw [e]
    exact ⟨rest, rfl⟩
  · cases h4
theorem insB_ok {c : Str} {K : PySem.W.Frag} (h : insB c K = true) : InsF K (ga K c) := by
  obtain ⟨h1, h⟩ := He.ba h
  obtain ⟨h2, h⟩ := He.ba h
  obtain ⟨h3, h⟩ := He.ba h
  obtain ⟨h4, h5⟩ := He.ba h
  exact ⟨He.cls_ok h1, He.eqO_ok h2, He.eqO_ok h3, of_decide_eq_true h4, of_decide_eq_true h5⟩
theorem isiB_ok {cl : List Str} {X : Cx} {h : Heap} (KX : X.K.In h) (G : h.Ns mainGlobals X.mg) (e : isiB cl X.K = true) : IsiF X cl := by
  obtain ⟨h1, e⟩ := He.ba e
  obtain ⟨h2, e⟩ := He.ba e
  obtain ⟨h3, h4⟩ := He.ba e
  have ad : ∀ nm ∈ cl, ∀ C, X.mg nm = some (.ref C) → C = ga X.K nm := fun nm hn C hC => by
    have z := (He.ba (List.all_eq_true.mp h1 nm hn)).2
    rw [PySem.W.mg_of KX G (He.eqO_ok z)] at hC
    cases hC; rfl
  refine ⟨fun nm hn C hC => ?_, fun nm hn C hC n hN => ?_, fun nm hn C hC n hN => ?_, fun nm hn nm' hn' C C' hC hC' => ?_⟩
  · rw [ad nm hn C hC]; exact insB_ok (He.ba (List.all_eq_true.mp h1 nm hn)).1
  · rw [ad nm hn C hC]; exact of_decide_eq_true (List.all_eq_true.mp (List.all_eq_true.mp h2 nm hn) n hN)
  · rw [ad nm hn C hC]; exact of_decide_eq_true (List.all_eq_true.mp (List.all_eq_true.mp h3 nm hn) n hN)
  · rw [ad nm hn C hC, ad nm' hn' C' hC']; exact of_decide_eq_true (List.all_eq_true.mp (List.all_eq_true.mp h4 nm hn) nm' hn')
theorem look_filter {K : PySem.W.Frag} {f : Addr → Bool} {a : Addr} {o : Obj} : (K.filter fun p => f p.1).lookup a = some o → K.lookup a = some o ∧ f a = true := by
  induction K with
  | nil => intro h; cases h
  | cons p K ih =>
    obtain ⟨b, u⟩ := p
    intro h
    by_cases hf : f b = true
    · rw [List.filter_cons_of_pos (p := fun p : Addr × Obj => f p.1) (show (fun p : Addr × Obj => f p.1) (b, u) = true from hf), List.lookup_cons] at h
      rw [List.lookup_cons]
      cases hab : a == b with
      | true => rw [hab] at h; rw [beq_iff_eq.mp hab]; exact ⟨h, hf⟩
      | false => rw [hab] at h; exact ih h
    · rw [List.filter_cons_of_neg (p := fun p : Addr × Obj => f p.1) (show ¬ (fun p : Addr × Obj => f p.1) (b, u) = true from hf)] at h
      obtain ⟨h1, h2⟩ := ih h
      refine ⟨?_, h2⟩
      rw [List.lookup_cons]
      cases hab : a == b with
      | true => rw [beq_iff_eq.mp hab] at h2; exact absurd h2 hf
      | false => exact h1
theorem look_marks {a b : Addr} {o : Obj} {cs : List (Addr × Addr × Str)} (h : (cs.map fun c => (a, markO c.2.1 c.2.2)).lookup b = some o) : b = a := by
  induction cs with
  | nil => cases h
  | cons c cs ih =>
    rw [List.map_cons, List.lookup_cons] at h
    cases hab : b == a with
    | true => exact beq_iff_eq.mp hab
    | false => rw [hab] at h; exact ih h
theorem look_app {a : Addr} {o : Obj} {K K' : PySem.W.Frag} (h : (K ++ K').lookup a = some o) : K.lookup a = some o ∨ K'.lookup a = some o := by
  induction K with
  | nil => exact .inr h
  | cons p K ih =>
    obtain ⟨b, u⟩ := p
    rw [List.cons_append, List.lookup_cons] at h
    rw [List.lookup_cons]
    cases hab : a == b with
    | true => rw [hab] at h; exact .inl h
    | false => rw [hab] at h; exact ih h
theorem mkT_look {ls : List (Pl × Str)} {K : PySem.W.Frag} {a : Addr} {o : Obj} (h : (mkT ls K).lookup a = some o) : K.lookup a = some o ∧ ((lamsOf ls K).any fun c => c.2.1 == a) = false := by
  unfold mkT at h
  cases q : K.filter (fun p => !((lamsOf ls K).any fun c => c.2.1 == p.1)) with
  | nil => rw [q] at h; cases h
  | cons p r =>
    obtain ⟨b, u⟩ := p
    rw [q] at h
    have fin : ∀ o, ((b, u) :: r).lookup a = some o → K.lookup a = some o ∧ ((lamsOf ls K).any fun c => c.2.1 == a) = false := fun o h => by
      rw [← q] at h
      obtain ⟨h1, h2⟩ := look_filter (f := fun a => !((lamsOf ls K).any fun c => c.2.1 == a)) h
      exact ⟨h1, by simpa using h2⟩
    simp only [List.lookup_cons] at h fin
    cases hab : a == b with
    | true => rw [hab] at h; have := fin o (by rw [hab]; exact h); exact this
    | false =>
      rw [hab] at h
      rcases look_app h with h | h
      · exact fin o (by rw [hab]; exact h)
      · rw [look_marks h] at hab; simp at hab
theorem mkT_in {ls : List (Pl × Str)} {K : PySem.W.Frag} {h : Heap} (k : K.In h) : (mkT ls K).In h := fun a o e => k a o (mkT_look e).1
theorem isE_ok {o : Obj} (h : isE o = true) : o = { cls := .none, data := .fields #[] } := by
  unfold isE at h
  split at h
  · rename_i vs sl
    obtain ⟨h1, h2⟩ := He.ba h
    have e1 : vs = #[] := by simpa using h1
    have e2 : sl = #[] := by simpa using h2
    subst e1 e2; rfl
  · cases h
theorem codeB_ok {K : PySem.W.Frag} {c P : Addr} {h : Heap} (k : K.In h) (e : codeB K c P = true) : PySem.W.CodeHd h c P := by
  unfold codeB at e
  obtain ⟨e1, e2⟩ := He.ba e
  cases q : K.lookup c with
  | none => rw [q] at e1; cases e1
  | some o =>
    rw [q] at e1
    obtain ⟨a1, a2⟩ := He.ba e1
    have hc : o.cls = .type "code" := by
      unfold isTy at a1
      split at a1
      · rename_i m hm; rw [hm, beq_iff_eq.mp a1]
      · cases a1
    cases hd : o.data with
    | fields vs =>
      rw [hd] at a2
      obtain ⟨b1, a2⟩ := He.ba a2
      obtain ⟨b2, a2⟩ := He.ba a2
      obtain ⟨b3, a2⟩ := He.ba a2
      obtain ⟨b4, a2⟩ := He.ba a2
      obtain ⟨b5, b6⟩ := He.ba a2
      have c1 : vs[11]? = some (.ref P) := by
        split at b1
        · rename_i p hp; rw [hp, beq_iff_eq.mp b1]
        · cases b1
      have c2 : vs.getD 11 .none = .ref P := by
        split at b2
        · rename_i p hp; rw [hp, beq_iff_eq.mp b2]
        · cases b2
      have c3 : ∃ f t, vs.getD 18 .none = .str f t := by
        split at b3
        · rename_i f t hp; exact ⟨f, t, hp⟩
        · cases b3
      have c4 : ∃ f t, vs.getD 7 .none = .int f t := by
        split at b4
        · rename_i f t hp; exact ⟨f, t, hp⟩
        · cases b4
      have c5 : ∃ f, vs.getD 9 .none = .bool f := by
        split at b5
        · rename_i f hp; exact ⟨f, hp⟩
        · cases b5
      have c6 : ∃ f t, vs.getD 10 .none = .int f t := by
        split at b6
        · rename_i f t hp; exact ⟨f, t, hp⟩
        · cases b6
      obtain ⟨f3, t3, c3⟩ := c3
      obtain ⟨f4, t4, c4⟩ := c4
      obtain ⟨f5, c5⟩ := c5
      obtain ⟨f6, t6, c6⟩ := c6
      exact ⟨o, vs, f3, t3, f4, t4, f5, f6, t6, k _ _ q, hc, hd, c1, c2, c3, c4, c5, c6, by simpa using e2⟩
    | _ => rw [hd] at a2; cases a2
theorem tchk_ok {ls : List (Pl × Str)} {K : PySem.W.Frag} {h : Heap} (k : K.In h) (e : tchk ls K = true) : (∀ b ∈ tadr (mkT ls K), h.get? b = some { cls := .none, data := .fields #[] }) ∧ (∀ b ∈ tadr (mkT ls K), (mkT ls K).lookup b = none) ∧ ∀ b ∈ tadr (mkT ls K), ∃ c, PySem.W.CodeHd h c b := by
  obtain ⟨e1, e2⟩ := He.ba e
  have e1 := of_decide_eq_true e1
  have mem : ∀ b ∈ tadr (mkT ls K), ∃ c ∈ lamsOf ls K, c.2.1 = b := fun b hb => by
    unfold tadr at hb
    rw [e1, List.map_map] at hb
    obtain ⟨c, hc, rfl⟩ := List.mem_map.mp hb
    exact ⟨c, hc, rfl⟩
  refine ⟨fun b hb => ?_, fun b hb => ?_, fun b hb => ?_⟩
  · obtain ⟨c, hc, rfl⟩ := mem b hb
    obtain ⟨q1, _⟩ := He.ba (List.all_eq_true.mp e2 c hc)
    cases q : K.lookup c.2.1 with
    | none => rw [q] at q1; cases q1
    | some o => rw [q] at q1; rw [k _ _ q, isE_ok q1]
  · obtain ⟨c, hc, rfl⟩ := mem b hb
    cases q : (mkT ls K).lookup c.2.1 with
    | none => rfl
    | some o =>
      have := (mkT_look q).2
      rw [List.any_eq_false] at this
      exact absurd (by simp) (this c hc)
  · obtain ⟨c, hc, rfl⟩ := mem b hb
    obtain ⟨_, q2⟩ := He.ba (List.all_eq_true.mp e2 c hc)
    exact ⟨c.1, codeB_ok k q2⟩
section
variable {fs : List Ft} {ds : List Df} {K : PySem.W.Frag}
theorem SaysN.fact (c : SaysN fs ds K) (i : Nat) {f : Ft} (h : fs[i]? = some f := by rfl) : f K = true := by
  have c1 := (He.ba (show ((fs.all fun f => f K) && ds.all fun d => d.ok K) = true from congrArg (fun z : AlN => z.1) c)).1
  exact List.all_eq_true.mp c1 f (List.mem_of_getElem? h)
theorem SaysN.defV (c : SaysN fs ds K) (i : Nat) {d : Df} (h : ds[i]? = some d := by rfl) : fvAt K (d.pl.ad K) = d.val ∧ d.ok K = true := by
  have c2 := (He.ba (show ((fs.all fun f => f K) && ds.all fun d => d.ok K) = true from congrArg (fun z : AlN => z.1) c)).2
  have e : ds.map (fun d => fvAt K (d.pl.ad K)) = ds.map Df.val := congrArg (fun z : AlN => z.2) c
  have e2 : (ds.map fun d => fvAt K (d.pl.ad K))[i]? = (ds.map Df.val)[i]? := by rw [e]
  rw [List.getElem?_map, List.getElem?_map, h] at e2
  exact ⟨Option.some.inj e2, List.all_eq_true.mp c2 d (List.mem_of_getElem? h)⟩
theorem SaysN.def_ (c : SaysN fs ds K) (i : Nat) {d : Df} (h : ds[i]? = some d := by rfl) (hc : d.clo = [] := by rfl) : FunD K d.name d.qual d.params d.body d.scope (d.dvs K) [] (d.pl.ad K) (fdAt K (d.pl.ad K)) := by
  have c2 := (He.ba (show ((fs.all fun f => f K) && ds.all fun d => d.ok K) = true from congrArg (fun z : AlN => z.1) c)).2
  have e : ds.map (fun d => fvAt K (d.pl.ad K)) = ds.map Df.val := congrArg (fun z : AlN => z.2) c
  have e2 : (ds.map fun d => fvAt K (d.pl.ad K))[i]? = (ds.map Df.val)[i]? := by rw [e]
  rw [List.getElem?_map, List.getElem?_map, h] at e2
  exact Df.funD (Option.some.inj e2) (List.all_eq_true.mp c2 d (List.mem_of_getElem? h)) hc
end
structure Bas (fs : List Ft) (ds : List Df) (K : PySem.W.Frag) (mg : Str → Option Value) (base : Heap) : Prop where
  c : SaysN fs ds K
  k : K.In base
  g : base.Ns mainGlobals mg
  bt : ∀ b ∈ tadr K, base.BuiltinsAt mg b
theorem RoomG.le {j k : Nat} {A : Around} (r : RoomG k A) (h : j ≤ k) : RoomG j A := ⟨r.rm.mono h, r.gd⟩
section
variable {fs : List Ft} {ds : List Df} {K : PySem.W.Frag} {mg : Str → Option Value} {base : Heap}
theorem Bas.glo (b : Bas fs ds K mg base) (i : Nat) {x : Str} (h : fs[i]? = some (fa (.glo x)) := by rfl) : mg x = some (.ref (ga K x)) := He.glo_ok b.k b.g (b.c.fact i h)
theorem Bas.free (b : Bas fs ds K mg base) (i : Nat) {x : Str} (h : fs[i]? = some (fa (.free x)) := by rfl) : mg x = none := He.free_ok b.k b.g (b.c.fact i h)
theorem Bas.int (b : Bas fs ds K mg base) (i : Nat) {x : Str} {j : Int} (h : fs[i]? = some (fa (.int x j)) := by rfl) : ∃ t, mg x = some (.int j t) := He.int_ok b.k b.g (b.c.fact i h)
theorem Bas.str (b : Bas fs ds K mg base) (i : Nat) {x z : Str} (h : fs[i]? = some (fa (.str x z)) := by rfl) : ∃ t, mg x = some (.str z t) := He.str_ok b.k b.g (b.c.fact i h)
end
theorem De.gInt' {X : Cx} {W : WX} {x : Str} {i : Int} {pos : Pos} (hm : ∃ t, X.mg x = some (.int i t)) (hg : Gl X x) (hd : (x == ("__debug__" : Str)) = false := by decide) : De X W (.Name x pos) (eC (.int i)) := let ⟨_, h⟩ := hm; De.gInt hg h hd
theorem De.gStr' {X : Cx} {W : WX} {x : Str} {i : Str} {pos : Pos} (hm : ∃ t, X.mg x = some (.str i t)) (hg : Gl X x) (hd : (x == ("__debug__" : Str)) = false := by decide) : De X W (.Name x pos) (eC (.str i)) := let ⟨_, h⟩ := hm; De.gStr hg h hd
section
variable {P : Program} {w : World} {K : PySem.W.Frag} {mg : Str → Option Value} {base : Heap} {N : List Str} {qual : Str} {scope : Scope} {f : Addr} {cd : Value} {A : Around} {outer : List Env} {s : Shared} {H : Hp} {E : XK}
theorem takesG : Takes (cxG P w K mg base N qual scope f cd A outer s H E) (kW E) := takes_of (X := cxG P w K mg base N qual scope f cd A outer s H E) rfl rfl rfl rfl
theorem passesG : PassesOwn (model P w) (cxG P w K mg base N qual scope f cd A outer s H E).A (cxG P w K mg base N qual scope f cd A outer s H E).env (cxG P w K mg base N qual scope f cd A outer s H E).xe :=
  passes_of (X := cxG P w K mg base N qual scope f cd A outer s H E) (K := fun e s'' => CX P w outer H s E e s'') rfl
end
end Dn
namespace Dn
open PySem PySem.Spec PyProof.Rows L2
theorem RoomG.h64 {k : Nat} {A : Around} (r : RoomG k A) : A.units + 64 < cLine := r.rm.units
theorem RoomG.h100 {k : Nat} {A : Around} (r : RoomG k A) : A.units + 100 < cLine := by have := r.rm.un; omega
theorem gl {X : Cx} {x : Str} (h : X.env.kindOf x = some .globalImplicit) : Gl X x := h
structure Fx (P : Program) (w : World) (K : PySem.W.Frag) (mg : Str → Option Value) (base : Heap) (j : Nat) (x : Str) (n : Nat) (dv : List PV) (m : Fn) : Prop where
  ex : ∃ (f : Addr) (fd : FuncData) (ps : List Str) (us0 : List Value), mg x = some (.ref f) ∧ PySem.W.keepIn K (.ref f) = true ∧ FnG P w K mg base j f fd ps m ∧ Binds K fd ps us0 ∧ Vals (dv.map sV) us0 ∧ dv.all isSc = true ∧ n = ps.length
structure Mx (P : Program) (w : World) (K : PySem.W.Frag) (mg : Str → Option Value) (base : Heap) (j : Nat) (x : Str) (n : Nat) (dv : List PV) (m : Fn) : Prop where
  ex : ∃ (C f : Addr) (fd : FuncData) (ps : List Str) (us0 : List Value), mg x = some (.ref C) ∧ Mk K C f ∧ FnG P w K mg base j f fd ps m ∧ Binds K fd ps us0 ∧ Vals (dv.map sV) us0 ∧ dv.all isSc = true ∧ n + 1 = ps.length
structure Ox (P : Program) (w : World) (K : PySem.W.Frag) (mg : Str → Option Value) (base : Heap) (j : Nat) (nm mn : Str) (n : Nat) (dv : List PV) (m : Fn) : Prop where
  ex : ∃ (C f : Addr) (fd : FuncData) (ps : List Str) (us0 : List Value), mg nm = some (.ref C) ∧ Cls K C ∧ Meth K C mn f ∧ FnG P w K mg base j f fd ps m ∧ Binds K fd ps us0 ∧ Vals (dv.map sV) us0 ∧ dv.all isSc = true ∧ n = ps.length
structure Px (P : Program) (w : World) (K : PySem.W.Frag) (mg : Str → Option Value) (base : Heap) (j : Nat) (nm pn : Str) (m : Fn) : Prop where
  ex : ∃ (C g p : Addr) (fd : FuncData) (ps : List Str), mg nm = some (.ref C) ∧ Cls K C ∧ PropOf K C pn p g ∧ FnG P w K mg base j g fd ps m ∧ Binds K fd ps [] ∧ ps.length = 1
section
variable {X : Cx} {W : XK} {j k n : Nat} {x nm mn : Str} {m : Fn} {dv : List PV} {p' pos apos : Pos} {e o : Expr} {es : List Expr} {fo : EM} {la : LM}
theorem De.fx (F : Fx X.prog X.w X.K X.mg X.base j x n dv m) (hr : RoomG k X.A) (tk : Takes X (kW W)) (ha : DA X (kW W) (e :: es) la) (hg : Gl X x) (hjk : j ≤ k := by decide)
    (hdb : (x == ("__debug__" : Str)) = false := by decide) (he : starEach (e :: es) X.env = (false, eval e X.env) :: starEach es X.env := by rfl) (hpl : (backTo pos (starEach es X.env)).any (·.1) = false := by rfl) :
    De X (kW W) (.Call (.Name x p') (e :: es) [] pos) (eCallN n m dv la) := by
  obtain ⟨f, fd, ps, us0, hm, hk, F, hb, hd, hsc, hn⟩ := F.ex
  exact De.call F (hr.le hjk) hg hm hk hb hd hsc tk hn ha hdb he hpl
theorem De.mx (fz : Bool) (F : Mx X.prog X.w X.K X.mg X.base j x n dv m) (hr : RoomG k X.A) (tk : Takes X (kW W)) (ha : DA X (kW W) (e :: es) la) (hg : Gl X x) (hjk : j + 1 ≤ k := by decide)
    (hdb : (x == ("__debug__" : Str)) = false := by decide) (he : starEach (e :: es) X.env = (false, eval e X.env) :: starEach es X.env := by rfl) (hpl : (backTo pos (starEach es X.env)).any (·.1) = false := by rfl) :
    De X (kW W) (.Call (.Name x p') (e :: es) [] pos) (eCallN n (makeM fz x m) dv la) := by
  obtain ⟨C, f, fd, ps, us0, hm, M, F, hb, hd, hsc, hn⟩ := F.ex
  exact De.make M F (hr.le hjk) hg hm hb hd hsc tk hn ha hdb he hpl
theorem De.ox {pl : Sem Bool} (F : Ox X.prog X.w X.K X.mg X.base j nm mn n dv m) (hr : RoomG k X.A) (tk : Takes X (kW W)) (ho : De X (kW W) o fo) (ha : DA X (kW W) (e :: es) la) (hjk : j ≤ k := by decide)
    (hst : starEach (e :: es) X.env = (false, eval e X.env) :: starEach es X.env := by rfl) (hpl : (backTo pos (starEach es X.env)).any (·.1) = false := by rfl)
    (ht : eval (.Call (.Attribute o mn apos) (e :: es) [] pos) X.env = (do
      let ov ← eval o X.env
      standAt apos.atName
      let (f, first) ← holding [ov] (getMethod ov mn pl)
      callWith pos f first (backTo pos (starEach (e :: es) X.env)) (backToKw pos (keywordEach [] X.env))) := by rfl) :
    De X (kW W) (.Call (.Attribute o mn apos) (e :: es) [] pos) (eMeth nm mn n m dv fo la) := by
  obtain ⟨C, f, fd, ps, us0, hm, c, hme, F, hb, hd, hsc, hn⟩ := F.ex
  exact De.meth hm c hme F (hr.le hjk) hb hd hsc tk hn ho ha hst hpl ht
theorem De.px (F : Px X.prog X.w X.K X.mg X.base j nm mn m) (hr : RoomG k X.A) (ho : De X (kW W) o fo) (hjk : j + 1 ≤ k := by decide)
    (hab : attributeBase o mn X.env (eval o X.env) = eval o X.env := by rfl) : De X (kW W) (.Attribute o mn pos) (eProp nm m fo) := by
  obtain ⟨C, g, p, fd, ps, hm, c, hp, F, hb, h1⟩ := F.ex
  exact De.prop hm c hp F (hr.le hjk) hb h1 ho hab
theorem De.fl {fs : List Ft} {ds : List Df} {h : Heap} {C : Str} {i i2 i3 : Nat} (B : Bas fs ds X.K X.mg h) (ho : De X (kW W) o fo) (h1 : fs[i]? = some (fa (.glo C)) := by rfl) (h2 : fs[i2]? = some (fa (.cls C)) := by rfl) (h3 : fs[i3]? = some (fa (.noat C mn)) := by rfl)
    (hb : attributeBase o mn X.env (eval o X.env) = eval o X.env := by rfl) : De X (kW W) (.Attribute o mn pos) (eFld C mn fo) :=
  De.fld (He.glo_ok B.k B.g (B.c.fact i h1)) (He.cls_ok (B.c.fact i2 h2)) (He.noat_ok (B.c.fact i3 h3)) ho hb
theorem DS.fs {fs : List Ft} {ds : List Df} {h : Heap} {C : Str} {i i2 i3 : Nat} {fl : Str} {fv : EM} {pos' : Pos} (B : Bas fs ds X.K X.mg h) (ho : De X (kW W) o fo) (hv : De X (kW W) e fv) (h1 : fs[i]? = some (fa (.glo C)) := by rfl) (h2 : fs[i2]? = some (fa (.cls C)) := by rfl) (h3 : fs[i3]? = some (fa (.noat C fl)) := by rfl)
    (hs : swapsWith e (some (.Attribute o fl pos')) pos.line X.env = pure false := by rfl) : DS X W (.Assign [.Attribute o fl pos'] e pos) (sFldSet [C] fl fo fv) :=
  DS.fldSet (fun nm hn C' hC => by
    obtain rfl := List.mem_singleton.mp hn
    rw [He.glo_ok B.k B.g (B.c.fact i h1)] at hC
    cases hC
    exact ⟨He.cls_ok (B.c.fact i2 h2), He.noat_ok (B.c.fact i3 h3)⟩) ho hv hs
theorem DS.rs {fs : List Ft} {ds : List Df} {h : Heap} {c m : Str} {i i2 jj : Nat} {p1 p2 p3 : Pos} (B : Bas fs ds X.K X.mg h) (tk : Takes X (kW W)) (hc : X.calm = true) (hg : Gl X c) (h1 : fs[i]? = some (fa (.glo c)) := by rfl) (h2 : fs[i2]? = some (fa (.exc c)) := by rfl) (hdb : (c == ("__debug__" : Str)) = false := by decide) :
    DS X W (.Raise (some (.Call (.Name c p1) [.Constant (.str m) jj p2] [] p3)) none pos) (sRaise c) := by
  obtain ⟨e1, e2, e3, e4⟩ := He.exc_ok (B.c.fact i2 h2)
  have hm := He.glo_ok B.k B.g (B.c.fact i h1)
  exact DS.raise hc tk hm (pmk_own PySem.F.excBase_ValueError e1 hm e2 (raises_own e3 e4) hg hdb)
end
section
variable {P : Program} {w : World} {K : PySem.W.Frag} {mg : Str → Option Value} {base : Heap} {fs : List Ft} {ds : List Df} {j n : Nat} {dv : List PV} {m : Fn}
theorem Bas.binds (B : Bas fs ds K mg base) (i : Nat) {d : Df} {ps : List Str} (h : ds[i]? = some d) (h0 : d.dfl = [])
    (hb : ∀ (kV doc pm : Value) (an : Option Addr) (cdv ct : Value) (us : List Value), us.length = ps.length → bindArgs (PySem.W.fnOf d.name d.qual d.params d.body d.scope .none kV doc pm an cdv ct) ⟨us, []⟩ = pure (ps.zip us)) (hc : d.clo = [] := by rfl) : Binds K (fdAt K (d.pl.ad K)) ps [] := by
  have F := B.c.def_ i h hc
  have e : d.dvs K = [] := by unfold Df.dvs; rw [h0]; rfl
  rw [e] at F
  exact F.bindsN hb
theorem Bas.bindsD (B : Bas fs ds K mg base) (i : Nat) {d : Df} {ps : List Str} (n j : Nat) (h : ds[i]? = some d) (dv : List PV) (hd : d.dvs K ≠ []) (hv : (d.dvs K).drop j = dv.map sV) (hn : n + ((d.dvs K).length - j) = ps.length)
    (hb : ∀ (T : Addr) (kV doc pm : Value) (an : Option Addr) (cdv ct : Value) (us its : List Value), us.length = n → its.length = (d.dvs K).length →
      ∃ k, bindArgs (PySem.W.fnOf d.name d.qual d.params d.body d.scope (.ref T) kV doc pm an cdv ct) ⟨us, []⟩ = seqItems? (.ref T) >>= k ∧ k (some its.toArray) = pure (ps.zip (us ++ its.drop j))) (hc : d.clo = [] := by rfl) : ∃ us0, Vals (dv.map sV) us0 ∧ Binds K (fdAt K (d.pl.ad K)) ps us0 := by
  have F := B.c.def_ i h hc
  rw [← hv]
  exact F.binds1 n j hd hn hb
theorem Bas.kp (B : Bas fs ds K mg base) (i : Nat) {d : Df} (h : ds[i]? = some d) : PySem.W.keepIn K (.ref (d.pl.ad K)) = true := (He.ba (B.c.defV i h).2).1
end
end Dn
namespace Dn
open PySem PySem.Spec PyProof.Rows L2
def starK (d : PV) (S : Store) : Res (List PV) := match seqOf S d with
  | some xs => .ok xs S
  | none => .bad
def lStar (a : EM) (b : LM) : LM := fun r S => (a r S).bind fun d S1 => (starK d S1).bind fun xs S2 => (b r S2).bind fun ys S3 => .ok (xs ++ ys) S3
def zipW (xs ys : List PV) : List PV := (xs.zip ys).map fun p => .tup [p.1, p.2]
def zipOf (d e : PV) (S : Store) : Res Src := match d with
  | .tup xs => (match e with
    | .tup ys => .ok ⟨zipW xs ys, none⟩ S
    | _ => .bad)
  | .lst xs => (match e with
    | .lst ys => .ok ⟨zipW xs ys, none⟩ S
    | _ => .bad)
  | _ => .bad
def iZip (a b : EM) : IM := fun r S => (a r S).bind fun d S1 => (b r S1).bind fun e S2 => zipOf d e S2
section
variable {X : Cx} {W : WX} {e e2 : Expr} {es : List Expr} {fe fe2 : EM} {la : LM} {p pos tpos : Pos} {elts : List Expr} {kk : Nat}
theorem DA.star (he : De X W e fe) (hr : DA X W es la) (hs : starEach (.Starred e p :: es) X.env = (true, eval e X.env) :: starEach es X.env := by rfl) : DA X W (.Starred e p :: es) (lStar fe la) := by
  refine Jd.mk fun pos pins s σ H r S L Z Q I sl st q => ?_
  refine PySem.W.items_star (he.step I sl st q fun d S1 y v s1 H1 L1 I1 ry sl1 st1 x1 a1 q1 => ?_) hs
  cases h : seqOf S1 d with
  | none => unfold starK at q1; rw [h] at q1; exact q1.elim
  | some xs =>
    unfold starK at q1
    rw [h] at q1
    replace q1 : PostL X W σ Z ((la r S1).bind fun ys S3 => .ok (xs ++ ys) S3) H1 L1 Q := q1
    obtain ⟨a, vs, rfl, hq, b⟩ := seq_at st1 a1 h
    obtain rfl : v = Value.ref a := ry
    refine StX.star_any I1 (hq.symm) fun us s2 I2 rv => ?_
    exact hr.step pos I2 sl1 st1 q1 fun ys S3 ws ts s3 H3 L3 I3 r3 sl3 st3 x3 a3 q3 => ⟨vs ++ ws, H3, I3, rv.append r3, q3 (vs ++ ws) H3 L3 (Ext.refl H3 L3) st3 ((b.mono x3).append a3)⟩
theorem zipW_get {xs ys : List PV} {vs ws : List V} {K : PySem.W.Frag} {mg : Str → Option Value} {H : Hp} {L Z : List Addr} (a : Ats K mg H L Z xs vs) (b : Ats K mg H L Z ys ws) {i : Nat} (hi : i < (zipW xs ys).length) :
    ∃ d e x y, xs[i]? = some d ∧ ys[i]? = some e ∧ vs[i]? = some x ∧ ws[i]? = some y ∧ At K mg H L Z d x ∧ At K mg H L Z e y ∧ (zipW xs ys)[i]? = some (.tup [d, e]) := by
  have h : i < xs.length ∧ i < ys.length := by
    simp [zipW] at hi; omega
  obtain ⟨x, ex, ax⟩ := a.get (i := i) (d := xs[i]) (by simp [h.1])
  obtain ⟨y, ey, ay⟩ := b.get (i := i) (d := ys[i]) (by simp [h.2])
  refine ⟨xs[i], ys[i], x, y, by simp [h.1], by simp [h.2], ex, ey, ax, ay, ?_⟩
  rw [List.getElem?_eq_getElem hi]
  simp [zipW]
theorem yld_pair {Y Z : List Addr} {H : Hp} {L : List Addr} {S : Store} {d e : PV} {x y : V} {T : Addr} (st : Sta X.K X.mg H L (Y ++ Z) S) (hT : H T = none) (ax : At X.K X.mg H L (Y ++ Z) d x) (ay : At X.K X.mg H L (Y ++ Z) e y) :
    Ext H L (upd H T (.tup [x, y])) L ∧ Sta X.K X.mg (upd H T (.tup [x, y])) L (Y ++ Z) S ∧ At X.K X.mg (upd H T (.tup [x, y])) L (Y ++ Z) (.tup [d, e]) (.ref T) :=
  ⟨Ext.laid hT, st.laid hT, .tup (.inl (.inl upd_same)) (.cons (ax.mono (Ext.laid hT)) (.cons (ay.mono (Ext.laid hT)) .nil))⟩
theorem DI.zip (hg : Gl X "zip") (hm : X.mg "zip" = none) (ha : De X W e fe) (hb : De X W e2 fe2) (hs : starEach [e, e2] X.env = (false, eval e X.env) :: starEach [e2] X.env := by rfl) (hs2 : starEach [e2] X.env = [(false, eval e2 X.env)] := by rfl)
    (hpl : (backTo pos (starEach [e2] X.env)).any (·.1) = false := by rfl) : DI X W (.Tuple elts kk tpos) (.Call (.Name "zip" p) [e, e2] [] pos) (iZip fe fe2) := by
  refine Jd.mk fun pins s σ H r S L Z R I sl st q => ?_
  refine (RZ.pi_zipA (p := p) (pos := pos) (elts := elts) (kk := kk) (tpos := tpos) hg hm (pa_cons ha.pe (pa_cons hb.pe pa_nil (by rw [hs2]; rfl)) (by rw [hs])) hs hpl).run pins s σ H R I ⟨r, S, L, Z, sl, st, ?_⟩
  unfold iZip at q
  cases h1 : fe r S with
  | bad => rw [h1] at q; exact q.elim
  | err c S1 => rw [h1] at q; exact q
  | ok d S1 =>
    rw [h1] at q
    replace q : PostI X W σ Z ((fe2 r S1).bind fun e S2 => zipOf d e S2) H L R := q
    intro v H' L' x st' at'
    refine ⟨r, S1, L', Z, sl.mono x, st', ?_⟩
    cases h2 : fe2 r S1 with
    | bad => rw [h2] at q; exact q.elim
    | err c S2 => rw [h2] at q; exact fun H2 L2 cls y => q H2 L2 cls (x.trans y)
    | ok e S2 =>
      rw [h2] at q
      replace q : PostI X W σ Z (zipOf d e S2) H L R := q
      intro w H2 L2 x2 st2 at2
      have at1 := at'.mono x2
      have x02 := x.trans x2
      show ∃ a b xs ys, [v, w] = [V.ref a, V.ref b] ∧ _
      cases d with
      | tup xs =>
        cases e with
        | tup ys =>
          cases at1 with
          | tup h3 b3 => cases at2 with
            | tup h4 b4 =>
              refine ⟨_, _, _, _, rfl, .inr ⟨h3, h4, q _ H2 L2 x02 st2 ?_⟩⟩
              have ln : ∀ {i : Nat}, (zipW xs ys).length ≤ i ↔ xs.length ≤ i ∨ ys.length ≤ i := fun {i} => by simp [zipW]; omega
              refine ⟨fun i H5 L5 S5 x5 st5 _ hi => ?_, fun H5 L5 S5 x5 st5 _ => ?_, fun Y i H5 L5 S5 u H6 ny x5 st5 _ yy hi => ?_⟩
              · obtain ⟨_, _, x6, y6, _, _, e6, e7, _, _, _⟩ := zipW_get b3 b4 hi
                exact ⟨_, _, x6, y6, x5.sqt h3, x5.sqt h4, e6, e7⟩
              · refine ⟨_, _, x5.sqt h3, x5.sqt h4, ?_⟩
                rw [← b3.len, ← b4.len]
                exact ln.mp (Nat.le_refl _)
              · obtain ⟨T, x6, y6, rfl, hT, rfl, k1, k2⟩ := yy
                obtain ⟨d7, e7, x7, y7, _, _, e8, e9, ax, ay, ez⟩ := zipW_get b3 b4 hi
                have k1 := k1 _ (x5.sqt h3)
                have k2 := k2 _ (x5.sqt h4)
                rw [e8] at k1; cases k1
                rw [e9] at k2; cases k2
                obtain ⟨z1, z2, z3⟩ := yld_pair st5 hT ((ax.hides ny).mono x5) ((ay.hides ny).mono x5)
                exact ⟨_, ez, z1, z2, z3⟩
        | _ => exact (show False from q).elim
      | lst xs =>
        cases e with
        | lst ys =>
          cases at1 with
          | lst h3 n3 _ b3 => cases at2 with
            | lst h4 n4 _ b4 =>
              have g3 : ∀ {H5 : Hp} {L5 : List Addr}, Ext H2 L2 H5 L5 → SqL X.K H5 _ _ := fun y => .of (y.keep _ _ h3 (fun z => absurd z n3) (fun _ => nofun))
              have g4 : ∀ {H5 : Hp} {L5 : List Addr}, Ext H2 L2 H5 L5 → SqL X.K H5 _ _ := fun y => .of (y.keep _ _ h4 (fun z => absurd z n4) (fun _ => nofun))
              refine ⟨_, _, _, _, rfl, .inl ⟨.of h3, .of h4, q _ H2 L2 x02 st2 ?_⟩⟩
              have ln : ∀ {i : Nat}, (zipW xs ys).length ≤ i ↔ xs.length ≤ i ∨ ys.length ≤ i := fun {i} => by simp [zipW]; omega
              refine ⟨fun i H5 L5 S5 x5 st5 _ hi => ?_, fun H5 L5 S5 x5 st5 _ => ?_, fun Y i H5 L5 S5 u H6 ny x5 st5 _ yy hi => ?_⟩
              · obtain ⟨_, _, x6, y6, _, _, e6, e7, _, _, _⟩ := zipW_get b3 b4 hi
                exact ⟨_, _, x6, y6, g3 x5, g4 x5, e6, e7⟩
              · refine ⟨_, _, g3 x5, g4 x5, ?_⟩
                rw [← b3.len, ← b4.len]
                exact ln.mp (Nat.le_refl _)
              · obtain ⟨T, x6, y6, rfl, hT, rfl, k1, k2⟩ := yy
                obtain ⟨d7, e7, x7, y7, _, _, e8, e9, ax, ay, ez⟩ := zipW_get b3 b4 hi
                have k1 := k1 _ (g3 x5)
                have k2 := k2 _ (g4 x5)
                rw [e8] at k1; cases k1
                rw [e9] at k2; cases k2
                obtain ⟨z1, z2, z3⟩ := yld_pair st5 hT ((ax.hides ny).mono x5) ((ay.hides ny).mono x5)
                exact ⟨_, ez, z1, z2, z3⟩
        | _ => exact (show False from q).elim
      | _ => exact (show False from q).elim
end
structure Kx (P : Program) (w : World) (K : PySem.W.Frag) (mg : Str → Option Value) (base : Heap) (j : Nat) (nm : Str) (n : Nat) (dv : List PV) (m : Fn) : Prop where
  ex : ∃ (C f : Addr) (fd : FuncData) (ps : List Str) (us0 : List Value), mg nm = some (.ref C) ∧ StX.CallO K C f ∧ FnG P w K mg base j f fd ps m ∧ Binds K fd ps us0 ∧ Vals (dv.map sV) us0 ∧ dv.all isSc = true ∧ n = ps.length
def eCallO (nm : Str) (n : Nat) (m : Fn) (dv : List PV) (o : EM) (a : LM) : EM := fun r S => (o r S).bind fun d S1 => if ofC nm d = true then (a r S1).bind fun ds S2 => (if (d :: ds).length + dv.length = n then m (d :: ds ++ dv) S2 else .bad) else .bad
section
variable {X : Cx} {W : XK} {j k n : Nat} {nm : Str} {m : Fn} {dv : List PV} {pos : Pos} {fe e : Expr} {es : List Expr} {fo : EM} {la : LM}
theorem De.kx (F : Kx X.prog X.w X.K X.mg X.base j nm n dv m) (hr : RoomG k X.A) (tk : Takes X (kW W)) (ho : De X (kW W) fe fo) (ha : DA X (kW W) (e :: es) la) (hjk : j ≤ k := by decide)
    (ht : eval (.Call fe (e :: es) [] pos) X.env = (do callWith pos (← eval fe X.env) [] (backTo pos (starEach (e :: es) X.env)) (backToKw pos (keywordEach [] X.env))) := by rfl)
    (he : starEach (e :: es) X.env = (false, eval e X.env) :: starEach es X.env := by rfl) (hpl : (backTo pos (starEach es X.env)).any (·.1) = false := by rfl) :
    De X (kW W) (.Call fe (e :: es) [] pos) (eCallO nm n m dv fo la) := by
  obtain ⟨C, f, fd, ps, us0, hm, c, F, hb, hd, hsc, hn⟩ := F.ex
  refine Jd.mk fun pins s σ H r S L Z Q I sl st p => ?_
  refine Call_ (ho.step I sl st p fun d S1 v u s1 H1 L1 I1 r1 sl1 st1 x1 a1 p1 => ?_) ht
  by_cases hC : ofC nm d = true
  · rw [if_pos hC] at p1
    obtain ⟨a, dx, vs, rfl, ea, fs, rfl, b⟩ := obj_at hm a1 hC
    obtain rfl : u = Value.ref a := r1
    refine StX.callO_with (ha.step pos I1 sl1 st1 p1 fun ds S2 xs us s2 H2 L2 I2 r2 sl2 st2 x2 a2 p2 => ?_) he hpl
    obtain ⟨a', dx', vs', ea', ea2, _⟩ := obj_at hm (a1.mono x2) hC
    cases ea'
    obtain ⟨mA, O, _⟩ := ins_get I2.hok ea2
    obtain ⟨od, J, _⟩ := O.look
    refine ⟨⟨_, _, _, J, rfl⟩, ?_⟩
    by_cases hz : (PV.obj nm fs :: ds).length + dv.length = n
    · rw [if_pos hz] at p2
      have hl := hz
      have rr : Vals (V.ref a :: xs ++ dv.map sV) (Value.ref a :: us ++ us0) := .cons rfl (r2.append hd)
      have aa : Ats X.K X.mg H2 L2 Z (PV.obj nm fs :: ds ++ dv) (V.ref a :: xs ++ dv.map sV) := .cons (a1.mono x2) (a2.append (sc_at hsc))
      have l2 : (Value.ref a :: us ++ us0).length = ps.length := by rw [← rr.length, ← aa.len, List.length_append, hl]; exact hn
      refine wpAny_call (PySem.W.kco_code I2.kIn J rfl c.at_ c.fn c.fi (codeAny_mono (F.run X.A X.stack s2 H2 ⟨Value.ref a :: us, []⟩ (Value.ref a :: us ++ us0) _ (PV.obj nm fs :: ds ++ dv) S2 L2 Z Q W (hr.le hjk) I2.env0 (hb s2 (Value.ref a :: us) I2.kIn l2) rr st2 aa (by rw [List.length_append, hl]; exact hn) (PostK.of p2 fun _ _ z => z)) fun r s' hq => ?_))
      cases r with
      | error e => exact passes_call (W := kW W) tk (fun _ _ _ _ z => z) pins σ H2 s2 e s' I2 hq
      | ok fl =>
        cases fl with
        | ret u => exact I2.after hq
        | next => exact False.elim hq
        | brk => exact False.elim hq
        | cont => exact False.elim hq
    · rw [if_neg hz] at p2; exact p2.elim
  · rw [if_neg hC] at p1; exact p1.elim
end
end Dn
namespace Dn
open PySem PySem.Spec PyProof.Rows L2
theorem isiU_ok {here gone : List Str} {X : Cx} {h : Heap} (KX : X.K.In h) (G : h.Ns mainGlobals X.mg) (e : isiU here gone X.K = true) : IsiF X HC := by
  obtain ⟨h1, e⟩ := He.ba e
  obtain ⟨h2, h3⟩ := He.ba e
  have I := isiB_ok KX G h1
  have mem : ∀ nm ∈ HC, ∀ C, X.mg nm = some (.ref C) → nm ∈ here := fun nm hn C hC => by
    rcases of_decide_eq_true (List.all_eq_true.mp h3 nm hn) with z | z
    · exact z
    · have f := He.free_ok KX G (List.all_eq_true.mp h2 nm z)
      rw [f] at hC; cases hC
  exact ⟨fun nm hn C hC => I.ins nm (mem nm hn C hC) C hC, fun nm hn C hC => I.ty nm (mem nm hn C hC) C hC, fun nm hn C hC => I.own nm (mem nm hn C hC) C hC, fun nm hn nm' hn' C C' hC hC' => I.two nm (mem nm hn C hC) nm' (mem nm' hn' C' hC') C C' hC hC'⟩
inductive Tb (mg : Str → Option Value) (P : Str → Fn → Prop) : List (Str × Fn) → Prop
  | nil : Tb mg P []
  | here {c : Str} {m : Fn} {tb : List (Str × Fn)} : P c m → Tb mg P tb → Tb mg P ((c, m) :: tb)
  | gone {c : Str} {m : Fn} {tb : List (Str × Fn)} : mg c = none → Tb mg P tb → Tb mg P ((c, m) :: tb)
theorem Tb.look {mg : Str → Option Value} {P : Str → Fn → Prop} {n : Str} {m : Fn} : ∀ {tb : List (Str × Fn)}, Tb mg P tb → tb.lookup n = some m → P n m ∨ mg n = none
  | _, .nil, e => by simp at e
  | _, .here (c := c) h t, e => by
    rw [List.lookup_cons] at e
    by_cases z : n = c
    · subst z; simp at e; subst e; exact .inl h
    · have : (n == c) = false := by simpa using z
      rw [this] at e; exact t.look e
  | _, .gone (c := c) h t, e => by
    rw [List.lookup_cons] at e
    by_cases z : n = c
    · subst z; exact .inr h
    · have : (n == c) = false := by simpa using z
      rw [this] at e; exact t.look e
section
variable {X : Cx} {W : XK}
theorem Tb.imp {mg : Str → Option Value} {P P' : Str → Fn → Prop} (f : ∀ c m, P c m → P' c m) : ∀ {tb : List (Str × Fn)}, Tb mg P tb → Tb mg P' tb
  | _, .nil => .nil
  | _, .here h t => .here (f _ _ h) (t.imp f)
  | _, .gone h t => .gone h (t.imp f)
theorem Spc.mono {X : Cx} {sp nm : Str} {j k n : Nat} {m : Fn} (h : Spc X sp j nm n m) (l : j ≤ k) : Spc X sp k nm n m := by
  obtain ⟨C, f, fd, ps, h1, h2, h3, F, h4⟩ := h.ex
  exact ⟨C, f, fd, ps, h1, h2, h3, F.mono l, h4⟩
end
theorem Px.le {P : Program} {w : World} {K : PySem.W.Frag} {mg : Str → Option Value} {base : Heap} {j k : Nat} {nm pn : Str} {m : Fn} (F : Px P w K mg base j nm pn m) (l : j ≤ k) : Px P w K mg base k nm pn m := by
  obtain ⟨C, g, p, fd, ps, h1, h2, h3, F, h4, h5⟩ := F.ex
  exact ⟨C, g, p, fd, ps, h1, h2, h3, F.mono l, h4, h5⟩
def propT (tb : List (Str × Fn)) (d : PV) (S : Store) : Res PV := match d with
  | .obj n fs => (match tb.lookup n with
    | some m => noErr (m [.obj n fs] S)
    | none => .bad)
  | _ => .bad
def ePropT (tb : List (Str × Fn)) (o : EM) : EM := fun r S => (o r S).bind fun d S1 => propT tb d S1
section
variable {X : Cx} {W : XK} {pos : Pos} {o : Expr} {fo : EM} {mn : Str}
end
end Dn
namespace Dn
open PySem PySem.Spec PyProof.Rows L2
def isN : PV → Option Bool
  | .non => some true
  | .bl _ => some false
  | .int _ => some false
  | .str _ => some false
  | .tup _ => some false
  | .lst _ => some false
  | .obj _ _ => some false
  | .loc _ => some false
  | .scr _ => some false
  | .ty _ => some false
  | .cls _ => some false
  | .exc _ => some false
  | .dic _ => some false
  | .tub _ => some false
  | .dik _ => some false
def vIs (neg : Bool) (d e : PV) (S : Store) : Res PV := match e with
  | .non => (match isN d with
    | some b => okB (xor neg b) S
    | none => .bad)
  | .bl b => (match d with
    | .bl a => okB (xor neg (decide (a = b))) S
    | _ => .bad)
  | _ => .bad
section
variable {X : Cx} {W : WX}
def vInt : List PV → Store → Res PV := one1 fun d S => match d with
  | .int i => .ok (.int i) S
  | .bl k => .ok (.int (if k then 1 else 0)) S
  | .str a => (match PySem.intText? a with
    | some n => if a.length ≤ 640 then .ok (.int n) S else .bad
    | none => .bad)
  | _ => .bad
theorem dc_int : DC X W (.type "int") vInt := by
  intro pins s σ H S L Z Q ds xs us I st a r p
  match ds, a, p with
  | [d], a, p =>
    obtain ⟨v, rfl, a'⟩ := a.one
    cases d with
    | int i => cases a'; exact call_int1 pins s σ H _ us Q I r (.inl ⟨i, rfl, post_val (show PostV X W σ Z (.ok (.int i) S) H L Q from p) st (.int _)⟩)
    | bl k => cases a'; exact call_int1 pins s σ H _ us Q I r (.inr ⟨k, rfl, post_val (show PostV X W σ Z (.ok (.int (if k then 1 else 0)) S) H L Q from p) st (.int _)⟩)
    | str z =>
      cases a'
      replace p : PostV X W σ Z (match PySem.intText? z with
        | some n => if z.length ≤ 640 then .ok (.int n) S else .bad
        | none => .bad) H L Q := p
      cases h : PySem.intText? z with
      | none => rw [h] at p; exact p.elim
      | some n =>
        rw [h] at p
        replace p : PostV X W σ Z (if z.length ≤ 640 then .ok (.int n) S else .bad) H L Q := p
        by_cases hl : z.length ≤ 640
        · rw [if_pos hl] at p
          exact call_int_str pins s σ H _ us Q I r ⟨z, n, rfl, h, hl, post_val p st (.int _)⟩
        · rw [if_neg hl] at p; exact p.elim
    | _ => exact (show False from p).elim
  | [], _, p => exact (show False from p).elim
  | _ :: _ :: _, _, p => exact (show False from p).elim
theorem PostV.stepX {γ : Type} {σ : L2.St} {Z : List Addr} {x : Res PV} {k : PV → Store → Res γ} {β : Type} {rel : Hp → List Addr → γ → β → Prop} {H : Hp} {L : List Addr} {Q : β → Hp → Prop} (p : Post X W σ Z rel (x.bind k) H L Q) :
    PostV X W σ Z x H L (fun v H1 => ∃ d S1 L1, Ext H L H1 L1 ∧ Sta X.K X.mg H1 L1 Z S1 ∧ At X.K X.mg H1 L1 Z d v ∧ Post X W σ Z rel (k d S1) H1 L1 Q) := by
  cases x with
  | ok d S1 => exact fun v H1 L1 x1 st1 a1 => ⟨d, S1, L1, x1, st1, a1, Post.ext p x1⟩
  | err c S1 => exact p
  | bad => exact p
theorem Post.mono {α β : Type} {σ : L2.St} {Z : List Addr} {rel : Hp → List Addr → α → β → Prop} {x : Res α} {H : Hp} {L : List Addr} {Q Q' : β → Hp → Prop} (p : Post X W σ Z rel x H L Q) (h : ∀ v H1, Q v H1 → Q' v H1) : Post X W σ Z rel x H L Q' := by
  cases x with
  | ok d S1 => exact fun v H1 L1 x1 st1 a1 => h _ _ (p v H1 L1 x1 st1 a1)
  | err c S1 => exact p
  | bad => exact p
theorem De.ofS {e : Expr} {t : TE} {f : EM} (h : PE X e t) (hq : ∀ (σ : L2.St) (H : Hp) (r : Env1) (S : Store) (L Z : List Addr) (Q : VK), Slots X.K X.mg H L Z r σ → Sta X.K X.mg H L Z S → PostV X W σ Z (f r S) H L Q → t σ H Q) : De X W e f :=
  Jd.mk fun pins s σ H r S L Z Q I sl st p => h.run pins s σ H Q I (hq σ H r S L Z Q sl st p)
def tupRg (d e : PV) (S : Store) : Res PV := match d, e with
  | .int i, .int j => if -(2 ^ 62) ≤ i ∧ i < 2 ^ 62 ∧ -(2 ^ 62) ≤ j ∧ j < 2 ^ 62 ∧ (j - i).toNat ≤ 2 ^ 24 then .ok (.tup (rng i (j - i).toNat)) S else .bad
  | _, _ => .bad
def eTupRg (a b : EM) : EM := fun r S => (a r S).bind fun d S1 => (b r S1).bind fun e S2 => tupRg d e S2
theorem ats_rng {K : PySem.W.Frag} {mg : Str → Option Value} {H : Hp} {L Z : List Addr} (i j : Int) : Ats K mg H L Z (rng i (j - i).toNat) (rgV i j) := by
  have := ats_ints (K := K) (mg := mg) (H := H) (L := L) (Z := Z) ((List.range (j - i).toNat).map fun (k : Nat) => i + (k : Int))
  rw [List.map_map, List.map_map] at this
  exact this
theorem De.tupRg {a b : Expr} {fa fb : EM} {p p2 pos pos2 : Pos} (hc : X.calm = true) (hg : Gl X "tuple") (hm : X.mg "tuple" = none) (hg2 : Gl X "range") (hm2 : X.mg "range" = none) (ha : De X W a fa) (hb : De X W b fb)
    (na : starEach [a, b] X.env = (false, eval a X.env) :: starEach [b] X.env := by rfl) (nb : starEach [b] X.env = (false, eval b X.env) :: starEach [] X.env := by rfl) (hp : (backTo pos2 (starEach [b] X.env)).any (·.1) = false := by rfl)
    (ne : starEach [.Call (.Name "range" p2) [a, b] [] pos2] X.env = (false, eval (.Call (.Name "range" p2) [a, b] [] pos2) X.env) :: starEach [] X.env := by rfl) :
    De X W (.Call (.Name "tuple" p) [.Call (.Name "range" p2) [a, b] [] pos2] [] pos) (eTupRg fa fb) := by
  refine De.ofS (pe_tupRg hc hg hm (prg_2 hg2 hm2 ha.pe hb.pe na nb hp) ne) fun σ H r S L Z Q sl st p => ?_
  refine ⟨r, S, L, Z, sl, st, Post.mono (PostV.stepX p) fun x H1 ⟨d, S1, L1, x1, st1, a1, p1⟩ => ?_⟩
  refine ⟨r, S1, L1, Z, sl.mono x1, st1, Post.mono (PostV.stepX p1) fun y H2 ⟨e, S2, L2, x2, st2, a2, p2⟩ => ?_⟩
  cases d with
  | int i =>
    cases e with
    | int j =>
      cases a1; cases a2
      replace p2 : PostV X W σ Z (if -(2 ^ 62) ≤ i ∧ i < 2 ^ 62 ∧ -(2 ^ 62) ≤ j ∧ j < 2 ^ 62 ∧ (j - i).toNat ≤ 2 ^ 24 then .ok (.tup (rng i (j - i).toNat)) S2 else .bad) H2 L2 Q := p2
      by_cases h : -(2 ^ 62) ≤ i ∧ i < 2 ^ 62 ∧ -(2 ^ 62) ≤ j ∧ j < 2 ^ 62 ∧ (j - i).toNat ≤ 2 ^ 24
      · rw [if_pos h] at p2
        exact ⟨i, j, rfl, rfl, h, post_tup p2 st2 (ats_rng i j)⟩
      · rw [if_neg h] at p2; exact p2.elim
    | _ => exact (show False from p2).elim
  | _ => exact (show False from p2).elim
end
def par3K (i j l : Nat) (r : Env1) (ds : List PV) (S1 : Store) : Res Fl := match ds with
  | [d, e, f] => .ok (.nx (((r.set i (some d)).set j (some e)).set l (some f))) S1
  | _ => .bad
def sPar3 (i j l : Nat) (a : LM) : SM := fun r S => (a r S).bind fun ds S1 => par3K i j l r ds S1
section
variable {X : Cx} {W : XK} {la : LM} {pos : Pos}
end
end Dn
namespace Dn
open PySem PySem.Spec PyProof.Rows L2
structure IsxF (X : Cx) : Prop where
  ex : ∀ nm ∈ EXN, ∀ C, X.mg nm = some (.ref C) → ExcC X.K C
  ty : ∀ nm ∈ EXN, ∀ C, X.mg nm = some (.ref C) → ∀ n ∈ (["int", "bool", "str", "tuple", "list", "dict"] : List String), PySem.W.kitOne X.K (.ref C) (.type n) = some false
  ve : ∀ nm ∈ EXN, ∀ C, X.mg nm = some (.ref C) → PySem.W.kitOne X.K (.ref C) (.type "ValueError") = some true
  two : ∀ nm ∈ EXN, ∀ nm' ∈ EXN, ∀ C C', X.mg nm = some (.ref C) → X.mg nm' = some (.ref C') → PySem.W.kitOne X.K (.ref C) (.ref C') = some (subE nm nm')
  exm : ∀ nm ∈ EXN, ∀ C C', X.mg nm = some (.ref C) → X.mg "HushError" = some (.ref C') → PySem.W.exmOne X.K (.ref C) (.ref C') = some true
def vIsiU (ds : List PV) (S : Store) : Res PV := match ds with
  | [.exc c, .cls n] => if n ∈ EXN then okB (subE c n) S else .bad
  | [.exc c, .ty n] => if n = "ValueError" then okB true S else if n ∈ (["int", "bool", "str", "tuple", "list", "dict"] : List String) then okB false S else .bad
  | ds => vIsi HC ds S
section
variable {X : Cx} {W : WX}
theorem isi_exc {pins : List (Addr × Obj)} {σ : L2.St} {H : Hp} {s : Shared} {Q : VK} {C a : Addr} {φ : Heap → Prop} {u cv : Value} {b : Bool} (E : ExcC X.K C) (I : Inv X pins σ H s) (hH : H a = some (.ext φ)) (hφ : IsExc C a φ) (e : PySem.W.kitOne X.K (.ref C) cv = some b) (hu : u = .ref a) (q : Q (.bl b) H) :
    wpAny (model X.prog X.w) X.A (call (.builtin "isinstance") [u, cv]) (EP X pins σ Q) X.xe s := by
  subst hu
  obtain ⟨p, _, _⟩ := I.hok a _ hH
  obtain ⟨oe, vs, hget, hz, hd⟩ := hφ _ p
  have J : PySem.W.InstAt s.heap a oe C none := by
    obtain ⟨oc, od, oda, osl⟩ := oe
    obtain ⟨h1, h2⟩ := hz
    dsimp only at h1 h2 hd
    subst h1 h2 hd
    exact ⟨hget, rfl, rfl, trivial⟩
  exact PySem.W.kia_one (PySem.W.handS_kitx_exc E.hg E.hk E.hs E.hd E.ha E.hn E.ht E.hm) I.kIn J e (fun z => nomatch z) fun tk => ⟨.bl b, H, I.kept (t' := tk) fun _ _ z => z, rfl, q⟩
theorem dc_isiU (hi : IsiF X HC) (hx : IsxF X) : DC X W (.builtin "isinstance") vIsiU := by
  intro pins s σ H S L Z Q ds xs us I st a r p
  have old : PostV X W σ Z (vIsi HC ds S) H L Q → wpAny (model X.prog X.w) X.A (call (.builtin "isinstance") us) (EP X pins σ Q) X.xe s := fun p => dc_isi hi pins s σ H S L Z Q ds xs us I st a r p
  match ds, a, r, p, old with
  | [.exc c, .cls n], .cons a1 (.cons a2 .nil), .cons r1 (.cons r2 .nil), p, _ =>
    replace p : PostV X W σ Z (if n ∈ EXN then okB (subE c n) S else .bad) H L Q := p
    by_cases hn : n ∈ EXN
    · rw [if_pos hn] at p
      cases a1 with
      | exc h0 h1 h2 h3 _ _ =>
        cases a2 with
        | cls g1 =>
          obtain rfl : _ = Value.ref _ := r2
          exact isi_exc (hx.ex c h0 _ h1) I h2 h3 (hx.two c h0 n hn _ _ h1 g1) r1 (post_val p st (.bl _))
    · rw [if_neg hn] at p; exact p.elim
  | [.exc c, .ty n], .cons a1 (.cons a2 .nil), .cons r1 (.cons r2 .nil), p, _ =>
    replace p : PostV X W σ Z (if n = "ValueError" then okB true S else if n ∈ (["int", "bool", "str", "tuple", "list", "dict"] : List String) then okB false S else .bad) H L Q := p
    cases a1 with
    | exc h0 h1 h2 h3 _ _ =>
      cases a2
      obtain rfl : _ = Value.type n := r2
      by_cases hv : n = "ValueError"
      · rw [if_pos hv] at p
        subst hv
        exact isi_exc (hx.ex c h0 _ h1) I h2 h3 (hx.ve c h0 _ h1) r1 (post_val p st (.bl _))
      · rw [if_neg hv] at p
        by_cases hn : n ∈ (["int", "bool", "str", "tuple", "list", "dict"] : List String)
        · rw [if_pos hn] at p
          exact isi_exc (hx.ex c h0 _ h1) I h2 h3 (hx.ty c h0 _ h1 n hn) r1 (post_val p st (.bl _))
        · rw [if_neg hn] at p; exact p.elim
  | [], _, _, p, old => exact old p
  | [d0], _, _, p, old => exact old (by cases d0 <;> exact p)
  | d1 :: d2 :: d3 :: ds', _, _, p, old => exact old (by cases d1 <;> first | exact p | (cases d2 <;> exact p))
  | [.non, _], _, _, p, old => exact old p
  | [.bl _, _], _, _, p, old => exact old p
  | [.int _, _], _, _, p, old => exact old p
  | [.str _, _], _, _, p, old => exact old p
  | [.tup _, _], _, _, p, old => exact old p
  | [.lst _, _], _, _, p, old => exact old p
  | [.obj _ _, _], _, _, p, old => exact old p
  | [.loc _, _], _, _, p, old => exact old p
  | [.scr _, _], _, _, p, old => exact old p
  | [.ty _, _], _, _, p, old => exact old p
  | [.cls _, _], _, _, p, old => exact old p
  | [.exc _, .non], _, _, p, old => exact old p
  | [.exc _, .bl _], _, _, p, old => exact old p
  | [.exc _, .int _], _, _, p, old => exact old p
  | [.exc _, .str _], _, _, p, old => exact old p
  | [.exc _, .tup _], _, _, p, old => exact old p
  | [.exc _, .lst _], _, _, p, old => exact old p
  | [.exc _, .obj _ _], _, _, p, old => exact old p
  | [.exc _, .loc _], _, _, p, old => exact old p
  | [.exc _, .scr _], _, _, p, old => exact old p
  | [.exc _, .exc _], _, _, p, old => exact old p
  | [.exc _, .dic _], _, _, p, old => exact old p
  | [.exc _, .tub _], _, _, p, old => exact old p
  | [.exc _, .dik _], _, _, p, old => exact old p
  | [.dic _, _], _, _, p, old => exact old p
  | [.tub _, _], _, _, p, old => exact old p
  | [.dik _, _], _, _, p, old => exact old p
end
end Dn
namespace Dn
open PySem PySem.Spec PyProof.Rows L2
abbrev hotX (X : Cx) (a : Addr) (pn : List (Addr × Obj)) : Cx := { X with A := X.A.mark (some (.ref a)), calm := false, pn := pn, xe := fun _ _ => False }
end Dn
namespace Dn
open PySem PySem.Spec PyProof.Rows L2
abbrev cool (A : Around) : Around := { A with handled := none }
structure FnGh (P : Program) (w : World) (K : PySem.W.Frag) (mg : Str → Option Value) (base : Heap) (k : Nat) (f : Addr) (fd : FuncData) (ps : List Str) (m : Fn) : Prop where
  run : ∀ (A : Around) (outer : List Env) (s : Shared) (H : Hp) (args : Args) (us : List Value) (vs : List V) (ds : List PV) (S : Store) (L Z : List Addr) (Q : VK) (E : XK), RoomG k (cool A) → Env0 P w K mg base A outer s H → BindsTo s fd args (ps.zip us) → Vals vs us →
    Sta K mg H L Z S → Ats K mg H L Z ds vs → ds.length = ps.length → PostK K mg E Z (m ds S) H L Q → codeAny (model P w) A (.call (.ref f) args) (CR (CX P w) outer P w H s Q E) s
section
variable {P : Program} {w : World} {K : PySem.W.Frag} {mg : Str → Option Value} {base : Heap} {x qual : Str} {params : Arguments} {body : List Stmt} {scope : Scope} {dvs : List V} {kws : List (Str × V)} {f : Addr} {fd : FuncData}
end
section
variable {X : Cx} {W : XK}
end
structure LamF (K : PySem.W.Frag) (mk c P : Addr) (q : Str) : Prop where
  tab : codeTab K mk = some (c, P)
  hd : ∀ h : Heap, K.In h → PySem.W.CodeHd h c P
  mem : (P, q) ∈ tabsOf K
  un : ∀ p ∈ tabsOf K, p.1 = P → p.2 = q
  ng : mainGlobals ≠ P
theorem codeTab_fn {K : PySem.W.Frag} {f c P : Addr} {o : Obj} {fd : FuncData} (h : codeTab K f = some (c, P)) (lk : K.lookup f = some o) (hd : o.data = .func fd) : fd.code = .ref c := by
  unfold codeTab at h
  rw [lk] at h
  simp only [Option.map_some, hd] at h
  split at h
  · rename_i c' e
    rw [e]
    split at h
    · split at h
      · cases h; rfl
      · cases h
    · cases h
  · cases h
section
variable {X : Cx}
end
end Dn
namespace Dn
open PySem PySem.Spec PyProof.Rows L2
section
variable {X : Cx}
end
structure SaidF (P : Program) (w : World) (K : PySem.W.Frag) (mg : Str → Option Value) (base : Heap) (k : Nat) (x a e rn hn : Str) (g CS : Addr) (fd : FuncData) (pg : Arguments) (sg : Scope) (p0 p1 p2 p3 p4 p5 p6 p7 : Pos) (b0 : Stmt) (suite : List Stmt) (rp : List PV → Store → Res PV) (su : SM) : Prop where
  hm : mg x = some (.ref g)
  F : FunD K x x pg [.Try [.Return (some (.Call (.Name rn p0) [.Call (.Name a p1) [] [] p2] [] p3)) p4] [.ExceptHandler (some (.Name hn p5)) (some e) (b0 :: suite) p6] [] [] p7] sg [] [] g fd
  Sc : FnScope [a, e] [a] sg
  B : Binds K fd [a] []
  la : sg.names.lookup a = some .local
  le : sg.names.lookup e = some .local
  lr : sg.names.lookup rn = some .globalImplicit
  lh : sg.names.lookup hn = some .globalImplicit
  mr : mg rn = none
  br : bootBuiltins rn = some (.builtin "repr")
  mh : mg hn = some (.ref CS)
  d1 : (a == ("__debug__" : Str)) = false
  d2 : (a == ("__classdict__" : Str)) = false
  d3 : (hn == ("__debug__" : Str)) = false
  d4 : (rn == ("__debug__" : Str)) = false
  d5 : rn ≠ "__name__"
  ixf : ∀ X : Cx, X.K = K → X.mg = mg → IsxF X
  rf : ∀ n ∈ EXN, ∀ v, mg n = some v → ∃ C, v = .ref C
  hsn : hn = "HushError"
  rp_ : ∀ (cd : Value) (A : Around) (outer : List Env) (s : Shared) (H : Hp) (E : XK) (pn : List (Addr × Obj)) (xe : Value → Shared → Prop) (W : WX), RoomG k (A.deeper (envOfC x sg s.heap.objs.size g cd)) → DC ((cxG P w K mg base [a, e] x sg g cd A outer s H E).tr pn xe) W (.builtin "repr") rp
  su_ : ∀ (cd : Value) (A : Around) (outer : List Env) (s : Shared) (H : Hp) (E : XK) (b : Addr) (pn : List (Addr × Obj)), RoomG k (cool ((A.deeper (envOfC x sg s.heap.objs.size g cd)).mark (some (.ref b)))) → DSs (hotX (cxG P w K mg base [a, e] x sg g cd A outer s H E) b pn) (fun _ _ _ => False) (b0 :: suite) su
structure Sd (P : Program) (w : World) (K : PySem.W.Frag) (mg : Str → Option Value) (base : Heap) (k : Nat) (x : Str) (rp : List PV → Store → Res PV) (su : SM) : Prop where
  ex : ∃ a e rn hn g CS fd pg sg p0 p1 p2 p3 p4 p5 p6 p7 b0 suite, SaidF P w K mg base k x a e rn hn g CS fd pg sg p0 p1 p2 p3 p4 p5 p6 p7 b0 suite rp su
section
variable {X : Cx} {W : XK}
end
end Dn
namespace Dn
open PySem PySem.Spec PyProof.Rows L2
theorem orB {a b : Bool} (h : (a || b) = true) : a = true ∨ b = true := by
  cases a with
  | true => exact .inl rfl
  | false => exact .inr h
theorem excB_at {K : PySem.W.Frag} {mg : Str → Option Value} {h : Heap} (KX : K.In h) (G : h.Ns mainGlobals mg) (e : excB K = true) {nm : Str} (hn : nm ∈ EXN) {v : Value} (hv : mg nm = some v) : v = .ref (ga K nm) ∧ excOne K nm = true ∧ freeB nm K = false := by
  obtain ⟨h1, e⟩ := He.ba e
  obtain ⟨h2, e⟩ := He.ba e
  obtain ⟨h3, e⟩ := He.ba e
  have nf : freeB nm K = false := by
    cases q : freeB nm K with
    | false => rfl
    | true => rw [He.free_ok KX G q] at hv; cases hv
  rcases orB (List.all_eq_true.mp h3 nm hn) with z | z
  · rw [nf] at z; cases z
  · have w := (He.ba z).1
    rw [PySem.W.mg_of KX G (He.eqO_ok w)] at hv
    cases hv
    exact ⟨rfl, z, nf⟩
theorem excB_ok {X : Cx} {h : Heap} (KX : X.K.In h) (G : h.Ns mainGlobals X.mg) (e : excB X.K = true) : IsxF X := by
  have at_ : ∀ nm ∈ EXN, ∀ C, X.mg nm = some (.ref C) → C = ga X.K nm ∧ excOne X.K nm = true ∧ freeB nm X.K = false := fun nm hn C hC => by
    obtain ⟨h1, h2, h3⟩ := excB_at KX G e hn hC
    cases h1; exact ⟨rfl, h2, h3⟩
  obtain ⟨h1, e⟩ := He.ba e
  obtain ⟨h2, e⟩ := He.ba e
  obtain ⟨h3, e⟩ := He.ba e
  obtain ⟨h4, h5⟩ := He.ba e
  refine ⟨fun nm hn C hC => ?_, fun nm hn C hC n hN => ?_, fun nm hn C hC => ?_, fun nm hn nm' hn' C C' hC hC' => ?_, fun nm hn C C' hC hC' => ?_⟩
  · obtain ⟨rfl, o, _⟩ := at_ nm hn C hC
    obtain ⟨_, o⟩ := He.ba o
    obtain ⟨o1, o⟩ := He.ba o
    obtain ⟨o2, o⟩ := He.ba o
    obtain ⟨o3, o⟩ := He.ba o
    obtain ⟨o4, o⟩ := He.ba o
    obtain ⟨o5, o⟩ := He.ba o
    obtain ⟨o6, o⟩ := He.ba o
    exact ⟨He.eqO_ok o1, He.eqO_ok o2, of_decide_eq_true o3, of_decide_eq_true o4, He.eqO_ok o5, He.eqO_ok h1, of_decide_eq_true h2, of_decide_eq_true o6⟩
  · obtain ⟨rfl, o, _⟩ := at_ nm hn C hC
    obtain ⟨_, o⟩ := He.ba o
    obtain ⟨o1, o⟩ := He.ba o
    obtain ⟨o2, o⟩ := He.ba o
    obtain ⟨o3, o⟩ := He.ba o
    obtain ⟨o4, o⟩ := He.ba o
    obtain ⟨o5, o⟩ := He.ba o
    obtain ⟨o6, o⟩ := He.ba o
    exact of_decide_eq_true (List.all_eq_true.mp (He.ba o).1 n hN)
  · obtain ⟨rfl, o, _⟩ := at_ nm hn C hC
    obtain ⟨_, o⟩ := He.ba o
    obtain ⟨o1, o⟩ := He.ba o
    obtain ⟨o2, o⟩ := He.ba o
    obtain ⟨o3, o⟩ := He.ba o
    obtain ⟨o4, o⟩ := He.ba o
    obtain ⟨o5, o⟩ := He.ba o
    obtain ⟨o6, o⟩ := He.ba o
    exact of_decide_eq_true (He.ba o).2
  · obtain ⟨rfl, _, f1⟩ := at_ nm hn C hC
    obtain ⟨rfl, _, f2⟩ := at_ nm' hn' C' hC'
    have z := List.all_eq_true.mp (List.all_eq_true.mp h4 nm hn) nm' hn'
    rw [f1, f2] at z
    exact of_decide_eq_true z
  · obtain ⟨rfl, _, f1⟩ := at_ nm hn C hC
    obtain ⟨rfl, _, f2⟩ := at_ "HushError" (by decide) C' hC'
    rcases orB h5 with z | z
    · rw [f2] at z; cases z
    · have z := List.all_eq_true.mp z nm hn
      rw [f1] at z
      exact of_decide_eq_true z
section
variable {fs : List Ft} {ds : List Df} {K : PySem.W.Frag} {mg : Str → Option Value} {base : Heap}
theorem Bas.isx (b : Bas fs ds K mg base) (i : Nat) (h : fs[i]? = some excB := by rfl) {X : Cx} (e1 : X.K = K) (e2 : X.mg = mg) : IsxF X := by
  subst e1 e2
  exact excB_ok b.k b.g (b.c.fact i h)
end
theorem LamF.code {K : PySem.W.Frag} {mk c P : Addr} {q x qual : Str} {params : Arguments} {body : List Stmt} {scope : Scope} {dvs : List V} {kws : List (Str × V)} {fd : FuncData} {cdv : Value} (L : LamF K mk c P q) (F : FunD K x qual params body scope dvs kws mk fd) (e : fd.code = cdv) : cdv = .ref c := by
  obtain ⟨_, _, _, _, _, _, _, _, _, _, rfl, lk, _, _, _⟩ := F.ex
  rw [← e]
  exact codeTab_fn L.tab lk rfl
structure Fxh (P : Program) (w : World) (K : PySem.W.Frag) (mg : Str → Option Value) (base : Heap) (j : Nat) (x : Str) (n : Nat) (m : Fn) : Prop where
  ex : ∃ (f : Addr) (fd : FuncData) (ps : List Str), mg x = some (.ref f) ∧ PySem.W.keepIn K (.ref f) = true ∧ FnGh P w K mg base j f fd ps m ∧ Binds K fd ps [] ∧ n = ps.length
section
variable {X : Cx} {W : WX} {a b e : Expr} {f fa fb : EM} {pos : Pos}
end
end Dn
namespace Hl
open PySem L2 Dn
noncomputable def b_p_is_between : SM := (sRet (eAnd (eCB vIsiU (lCons (eVar 0) (lCons (eC (.ty "int")) lNil))) (eAnd (eNot (eCB vIsiU (lCons (eVar 0) (lCons (eC (.ty "bool")) lNil)))) (eChain vLe vLe (eVar 1) (eVar 0) (eVar 2)))))
noncomputable def m_p_is_between : Fn := fnM false 3 b_p_is_between
noncomputable def c_p_are_between_1 : LM := lComp [3] (iVal (eVar 0)) (gNm 3) bYes (eCallN 3 m_p_is_between [] (lCons (eVar 3) (lCons (eVar 1) (lCons (eVar 2) lNil))))
noncomputable def b_p_are_between : SM := (sRet (eAnd (eCB vIsiU (lCons (eVar 0) (lCons (eC (.ty "tuple")) lNil))) (eCB vAll (lCons (eNew c_p_are_between_1) lNil))))
noncomputable def m_p_are_between : Fn := fnM false 4 b_p_are_between
noncomputable def b_p_is_rounding : SM := (sRet (eAnd (eCB vIsiU (lCons (eVar 0) (lCons (eC (.ty "str")) lNil))) (eBin (vIn false) (eVar 0) (eTup (lCons (eC (.str "near")) (lCons (eC (.str "cut")) (lCons (eC (.str "down")) lNil)))))))
noncomputable def m_p_is_rounding : Fn := fnM false 1 b_p_is_rounding
noncomputable def w_p_power_1 : SM := (sSet 2 (eBin vMul (eVar 2) (eVar 0)))
noncomputable def l_p_power_1 : SM := sFor (iRange1 (eVar 1)) (gNm 3) w_p_power_1
noncomputable def b_p_power : SM := (sSeq (sSet 2 (eC (.int 1)))
    (sSeq l_p_power_1
    (sRet (eVar 2))))
noncomputable def m_p_power : Fn := fnM false 4 b_p_power
noncomputable def b_p_rounded : SM := (sSeq (sIf (bVal (eBin vEq (eVar 2) (eC (.str "down")))) (sRet (eBin vDiv (eVar 0) (eVar 1))) sNil)
    (sSeq (sSet 3 (eIf (bVal (eBin vEq (eVar 2) (eC (.str "cut")))) (eBin vDiv (eCB vAbs (lCons (eVar 0) lNil)) (eVar 1)) (eBin vDiv (eBin vAdd (eBin vMul (eC (.int 2)) (eCB vAbs (lCons (eVar 0) lNil))) (eVar 1)) (eBin vMul (eC (.int 2)) (eVar 1)))))
    (sRet (eIf (bVal (eBin vGe (eVar 0) (eC (.int 0)))) (eVar 3) (eUn vNeg (eVar 3))))))
noncomputable def m_p_rounded : Fn := fnM false 4 b_p_rounded
noncomputable def c_p_need_parts_1 : LM := lComp [5] (iVal (eVar 4)) (gNm 5) bYes (eCB vIsiU (lCons (eVar 5) (lCons (eC (.ty "bool")) lNil)))
noncomputable def b_p_need_parts : SM := (sSeq (sIf (bOr (bNot (bVal (eCallN 3 m_p_are_between [] (lCons (eVar 0) (lCons (eUn vNeg (eC (.int 32))) (lCons (eC (.int 32)) lNil)))))) (bNot (bVal (eChain vLe vLe (eC (.int 1)) (eCB vLen (lCons (eVar 0) lNil)) (eC (.int 3)))))) (sRaise "NoTops") sNil)
    (sSeq (sIf (bNot (bVal (eCallN 3 m_p_is_between [] (lCons (eVar 1) (lCons (eC (.int 1)) (lCons (eC (.int 16)) lNil)))))) (sRaise "NoBottom") sNil)
    (sSeq (sIf (bNot (bVal (eCallN 1 m_p_is_rounding [] (lCons (eVar 2) lNil)))) (sRaise "NoRounding") sNil)
    (sSeq (sIf (bNot (bVal (eCallN 3 m_p_is_between [] (lCons (eVar 3) (lCons (eC (.int 1)) (lCons (eC (.int 60)) lNil)))))) (sRaise "NoHigh") sNil)
    (sSeq (sIf (bNot (bVal (eCB vAll (lCons (eNew c_p_need_parts_1) lNil)))) (sRaise "NoFlag") sNil)
    (sIf (bVal (eBin vGt (eCallN 2 m_p_power [] (lCons (eBin vAdd (eBin vMul (eC (.int 2)) (eVar 3)) (eC (.int 1))) (lCons (eCB vLen (lCons (eVar 0) lNil)) lNil))) (eC (.int 2500)))) (sRaise "NoRoom") sNil))))))
noncomputable def m_p_need_parts : Fn := fnM false 6 b_p_need_parts
noncomputable def b_p_Filter_init : SM := (sSeq (sExpr (eCallN 5 m_p_need_parts [] (lCons (eVar 1) (lCons (eVar 2) (lCons (eVar 3) (lCons (eVar 4) (lCons (eTup (lCons (eVar 5) (lCons (eVar 6) lNil))) lNil)))))))
    (sFldSet ["Filter"] "parts" (eVar 0) (eTup (lCons (eVar 1) (lCons (eVar 2) (lCons (eVar 3) (lCons (eVar 4) (lCons (eVar 5) (lCons (eVar 6) lNil)))))))))
noncomputable def m_p_Filter_init : Fn := fnM true 7 b_p_Filter_init
noncomputable def b_p_Filter_tops : SM := (sRet (eBin vIx (eFld "Filter" "parts" (eVar 0)) (eC (.int 0))))
noncomputable def m_p_Filter_tops : Fn := fnM false 1 b_p_Filter_tops
noncomputable def b_p_Filter_bottom : SM := (sRet (eBin vIx (eFld "Filter" "parts" (eVar 0)) (eC (.int 1))))
noncomputable def m_p_Filter_bottom : Fn := fnM false 1 b_p_Filter_bottom
noncomputable def b_p_Filter_rounding : SM := (sRet (eBin vIx (eFld "Filter" "parts" (eVar 0)) (eC (.int 2))))
noncomputable def m_p_Filter_rounding : Fn := fnM false 1 b_p_Filter_rounding
noncomputable def b_p_Filter_high : SM := (sRet (eBin vIx (eFld "Filter" "parts" (eVar 0)) (eC (.int 3))))
noncomputable def m_p_Filter_high : Fn := fnM false 1 b_p_Filter_high
noncomputable def b_p_Filter_each : SM := (sRet (eBin vIx (eFld "Filter" "parts" (eVar 0)) (eC (.int 4))))
noncomputable def m_p_Filter_each : Fn := fnM false 1 b_p_Filter_each
noncomputable def b_p_Filter_wraps : SM := (sRet (eBin vIx (eFld "Filter" "parts" (eVar 0)) (eC (.int 5))))
noncomputable def m_p_Filter_wraps : Fn := fnM false 1 b_p_Filter_wraps
noncomputable def b_p_Filter_order : SM := (sRet (eCB vLen (lCons (eProp "Filter" m_p_Filter_tops (eVar 0)) lNil)))
noncomputable def m_p_Filter_order : Fn := fnM false 1 b_p_Filter_order
noncomputable def b_p_need_input : SM := (sIf (bNot (bVal (eCallN 3 m_p_is_between [] (lCons (eVar 0) (lCons (eUn vNeg (eC (.int 1000))) (lCons (eC (.int 1000)) lNil)))))) (sRaise "NoInput") sNil)
noncomputable def m_p_need_input : Fn := fnM false 1 b_p_need_input
noncomputable def b_p_fitted : SM := (sSeq (sIf (bVal (eProp "Filter" m_p_Filter_wraps (eVar 0))) (sRet (eBin vSub (eBin vMod (eBin vAdd (eVar 1) (eProp "Filter" m_p_Filter_high (eVar 0))) (eBin vAdd (eBin vMul (eC (.int 2)) (eProp "Filter" m_p_Filter_high (eVar 0))) (eC (.int 1)))) (eProp "Filter" m_p_Filter_high (eVar 0)))) sNil)
    (sRet (eCB vMax (lCons (eUn vNeg (eProp "Filter" m_p_Filter_high (eVar 0))) (lCons (eCB vMin (lCons (eProp "Filter" m_p_Filter_high (eVar 0)) (lCons (eVar 1) lNil))) lNil)))))
noncomputable def m_p_fitted : Fn := fnM false 2 b_p_fitted
noncomputable def c_p_summed_1 : LM := lComp [3, 4] (iZip (eProp "Filter" m_p_Filter_tops (eVar 0)) (eVar 1)) (gTp 2 (gsCons (gNm 3) (gsCons (gNm 4) gsNil))) bYes (eBin vMul (eVar 3) (eVar 4))
noncomputable def c_p_summed_2 : LM := lComp [4] (iVal (eVar 2)) (gNm 4) bYes (eCallN 3 m_p_rounded [] (lCons (eVar 4) (lCons (eProp "Filter" m_p_Filter_bottom (eVar 0)) (lCons (eProp "Filter" m_p_Filter_rounding (eVar 0)) lNil))))
noncomputable def b_p_summed : SM := (sSeq (sSet 2 (eNew c_p_summed_1))
    (sSeq (sIf (bNot (bVal (eProp "Filter" m_p_Filter_each (eVar 0)))) (sRet (eCallN 3 m_p_rounded [] (lCons (eCB vSum (lCons (eVar 2) lNil)) (lCons (eProp "Filter" m_p_Filter_bottom (eVar 0)) (lCons (eProp "Filter" m_p_Filter_rounding (eVar 0)) lNil))))) sNil)
    (sRet (eCB vSum (lCons (eNew c_p_summed_2) lNil)))))
noncomputable def m_p_summed : Fn := fnM false 5 b_p_summed
noncomputable def b_p_stepped : SM := (sRet (eTup (lCons (eCallN 2 m_p_fitted [] (lCons (eVar 0) (lCons (eBin vAdd (eCallN 2 m_p_summed [] (lCons (eVar 0) (lCons (eVar 1) lNil))) (eVar 2)) lNil))) (lStar (eSl (eVar 1) oNone (oSome (eUn vNeg (eC (.int 1))))) lNil))))
noncomputable def m_p_stepped : Fn := fnM false 3 b_p_stepped
noncomputable def b_p_need_filter : SM := (sIf (bNot (bVal (eCB vIsiU (lCons (eVar 0) (lCons (eC (.cls "Filter")) lNil))))) (sRaise "NoFilter") sNil)
noncomputable def m_p_need_filter : Fn := fnM false 1 b_p_need_filter
noncomputable def b_p_need_source : SM := (sIf (bAnd (bNot (bVal (eCB vIsiU (lCons (eVar 0) (lCons (eC (.cls "Filter")) lNil))))) (bNot (bVal (eCB vIsiU (lCons (eVar 0) (lCons (eC (.cls "Chain")) lNil)))))) (sRaise "NoFilter") sNil)
noncomputable def m_p_need_source : Fn := fnM false 1 b_p_need_source
noncomputable def c_p_sizes_1 : LM := lComp [1] (iVal (eProp "Filter" m_p_Filter_tops (eVar 0))) (gNm 1) bYes (eCB vAbs (lCons (eVar 1) lNil))
noncomputable def b_p_sizes : SM := (sRet (eCB vSum (lCons (eNew c_p_sizes_1) lNil)))
noncomputable def m_p_sizes : Fn := fnM false 2 b_p_sizes
end Hl
namespace Hl
open PySem L2 Dn
noncomputable def b_same : SM := (sRet (eBin vEq (eCB vRepr (lCons (eVar 0) lNil)) (eCB vRepr (lCons (eVar 1) lNil))))
noncomputable def m_same : Fn := fnM false 2 b_same
noncomputable def b_pen : SM := (sRet (eCell (lDis (lCons (eCB vMax (lCons (eC (.int 0)) (lCons (eBin vSub (eVar 0) (eBin vPow (eC (.int 10)) (eC (.int 18)))) lNil))) (lCons (eBin vAdd (eBin vMod (eVar 0) (eC (.int 2147483629))) (eC (.int 1))) (lCons (eC (.int 0)) lNil))))))
noncomputable def m_pen : Fn := fnM true 1 b_pen
noncomputable def b_cell : SM := (sRet (eIf (bVal (eBin vLt (eVar 1) (eCB vLen (lCons (eVar 0) lNil)))) (eBin vIx (eVar 0) (eVar 1)) (eC (.int 0))))
noncomputable def m_cell : Fn := fnM false 2 b_cell
noncomputable def b_draw : SM := (sSeq (sIf (bVal (eBin vGt (eBin vIx (eVar 0) (eC (.int 0))) (eC (.int 0)))) (sSeq (sSet 2 (eBin vMod (eBin vIx (eVar 0) (eC (.int 0))) (eVar 1)))
    (sSeq (sPut (eVar 0) (eC (.int 0)) (eBin vDiv (eBin vIx (eVar 0) (eC (.int 0))) (eVar 1)))
    (sRet (eVar 2)))) sNil)
    (sSeq (sPut (eVar 0) (eC (.int 2)) (eBin vAdd (eBin vIx (eVar 0) (eC (.int 2))) (eC (.int 1))))
    (sSeq (sPut (eVar 0) (eC (.int 1)) (eBin vMod (eBin vAdd (eBin vAdd (eBin vMul (eBin vIx (eVar 0) (eC (.int 1))) (eC (.int 48271))) (eBin vMul (eC (.int 1009)) (eBin vIx (eVar 0) (eC (.int 2))))) (eC (.int 7))) (eC (.int 2147483647))))
    (sSeq (sSet 3 (eBin vMod (eBin vAdd (eBin vAdd (eBin vMul (eBin vIx (eVar 0) (eC (.int 1))) (eBin vIx (eVar 0) (eC (.int 1)))) (eBin vMul (eC (.int 69621)) (eBin vIx (eVar 0) (eC (.int 1))))) (eC (.int 11))) (eC (.int 2147483629))))
    (sSeq (sSet 3 (eBin vMod (eBin vAdd (eBin vMul (eVar 3) (eVar 3)) (eBin vMul (eC (.int 40014)) (eVar 3))) (eC (.int 2147483587))))
    (sRet (eBin vMod (eBin vDiv (eVar 3) (eC (.int 16))) (eVar 1))))))))
noncomputable def m_draw : Fn := fnM false 4 b_draw
end Hl
namespace Hl
open PySem L2 Dn
noncomputable def b_made : SM := (sRet (eCallN 6 (makeM true "Filter" m_p_Filter_init) [] (lCons (eBin vIx (eVar 0) (eC (.int 0))) (lCons (eBin vIx (eVar 0) (eC (.int 1))) (lCons (eBin vIx (eVar 0) (eC (.int 2))) (lCons (eBin vIx (eVar 0) (eC (.int 3))) (lCons (eBin vIx (eVar 0) (eC (.int 4))) (lCons (eBin vIx (eVar 0) (eC (.int 5))) lNil))))))))
noncomputable def m_made : Fn := fnM false 1 b_made
end Hl
namespace Hl
open PySem L2 Dn
noncomputable def c_parts_k60_1 : LM := lComp [7] (iRange1 (eVar 1)) (gNm 7) bYes (eBin vSub (eCallN 2 m_draw [] (lCons (eVar 0) (lCons (eBin vAdd (eBin vMul (eC (.int 2)) (eVar 3)) (eC (.int 1))) lNil))) (eVar 3))
noncomputable def b_parts_k60 : SM := (sSeq (sPar 1 2 (lCons (eBin vIx (eLst (lCons (eC (.int 1)) (lCons (eC (.int 2)) (lCons (eC (.int 2)) (lCons (eC (.int 1)) (lCons (eC (.int 3)) lNil)))))) (eCallN 2 m_draw [] (lCons (eVar 0) (lCons (eC (.int 5)) lNil)))) (lCons (eBin vAdd (eC (.int 1)) (eCallN 2 m_draw [] (lCons (eVar 0) (lCons (eC (.int 16)) lNil)))) lNil)))
    (sSeq (sSet 3 (eBin vIx (eLst (lCons (eVar 2) (lCons (eC (.int 32)) (lCons (eBin vAdd (eVar 2) (eC (.int 1))) lNil)))) (eCallN 2 m_draw [] (lCons (eVar 0) (lCons (eC (.int 3)) lNil)))))
    (sSeq (sSet 4 (eCB vTuple (lCons (eNew c_parts_k60_1) lNil)))
    (sSeq (sSet 5 (eBin vAdd (eC (.int 1)) (eCallN 2 m_draw [] (lCons (eVar 0) (lCons (eBin vIx (eLst (lCons (eC (.int 12)) (lCons (eC (.int 5)) (lCons (eC (.int 2)) lNil)))) (eBin vSub (eVar 1) (eC (.int 1)))) lNil)))))
    (sSeq (sSet 6 (eBin vIx (eLst (lCons (eC (.str "near")) (lCons (eC (.str "cut")) (lCons (eC (.str "down")) (lCons (eC (.str "near")) lNil))))) (eCallN 2 m_draw [] (lCons (eVar 0) (lCons (eC (.int 4)) lNil)))))
    (sRet (eTup (lCons (eVar 4) (lCons (eVar 2) (lCons (eVar 6) (lCons (eVar 5) (lCons (eBin vGt (eCallN 2 m_draw [] (lCons (eVar 0) (lCons (eC (.int 3)) lNil))) (eC (.int 0))) (lCons (eBin vEq (eCallN 2 m_draw [] (lCons (eVar 0) (lCons (eC (.int 3)) lNil))) (eC (.int 0))) lNil)))))))))))))
noncomputable def m_parts_k60 : Fn := fnM false 8 b_parts_k60
end Hl
namespace Dn
open PySem PySem.Spec PyProof.Rows L2
def eExc (c : Str) (a : LM) : EM := fun r S => (a r S).bind fun ds S1 => if ds.length ≤ sizeLine then .ok (.exc c) S1 else .bad
section
variable {X : Cx} {W : WX} {x : Str} {C : Addr} {p pos : Pos} {e : Expr} {es : List Expr} {la : LM}
theorem exc_new {pins : List (Addr × Obj)} {σ : L2.St} {H : Hp} {s : Shared} {Q : VK} {S : Store} {L Z : List Addr} {us : List Value} {bmB : List Value} {B newId initId : String} (F : ExcBaseFacts B newId initId bmB) (q : PySem.W.excIn X.K C bmB newId = true) (hx : x ∈ EXN) (gC : X.mg x = some (.ref C)) (I : Inv X pins σ H s) (st : Sta X.K X.mg H L Z S)
    (hl : us.length ≤ sizeLine) (h : PostV X W σ Z (.ok (.exc x) S) H L Q) : wpAny (model X.prog X.w) X.A (call (.ref C) us) (EP X pins σ Q) X.xe s := by
  obtain ⟨bm, N, nm, qn, bs, hdct, sn, sub, ab, col, dd, k0, k1, k2, k3, k5, mN, hC, hN, hni, T⟩ := exc_obj I.kIn q
  refine wpAny_call_exc_subT F T hC hN hni (fun h' a hm => ?_) hl
  have hn : H a = none := I.hok.gone hm.new
  obtain ⟨t, ht, _, _⟩ := hm.there
  refine ⟨.ref a, upd H a (ExO (.ref C) a), I.laidN hm.keeps hm.new hn (exO_ok ht ⟨rfl, rfl⟩ rfl rfl rfl (show 4 < 6 by decide)), rfl, h _ _ L (Ext.laid hn) (st.laid hn) (.exc hx gC upd_same (fun h ⟨oe, vs, e1, e2, e3, _⟩ => ⟨oe, vs, e1, e2, e3⟩) (st.fresh hn).1 (st.fresh hn).2)⟩
theorem De.exc {bmB : List Value} {B newId initId : String} (F : ExcBaseFacts B newId initId bmB) (q : PySem.W.excIn X.K C bmB newId = true) (hx : x ∈ EXN) (gC : X.mg x = some (.ref C)) (kC : PySem.W.keepIn X.K (.ref C) = true) (hg : Gl X x)
    (ha : DA X W (e :: es) la) (hdb : (x == ("__debug__" : Str)) = false := by decide) (he : starEach (e :: es) X.env = (false, eval e X.env) :: starEach es X.env := by rfl) (hpl : (backTo pos (starEach es X.env)).any (·.1) = false := by rfl) : De X W (.Call (.Name x p) (e :: es) [] pos) (eExc x la) := by
  refine Jd.mk ?_
  intro pins s σ H r S L Z Q I sl st p
  refine wpAny_Call_Name_kw (ld_glob I hg gC ?_ hdb)
  refine PySem.W.callWith_K (h₀ := X.base) I.ok.mod.kin kC (ha.step pos I sl st p fun ds S1 vs us s1 H1 L1 I1 r1 sl1 st1 x1 a1 p1 => ⟨I1.kIn, ?_⟩) he hpl
  by_cases hz : ds.length ≤ sizeLine
  · rw [if_pos hz] at p1
    exact exc_new (us := us) F q hx gC I1 st1 (by rw [← r1.length, ← a1.len]; exact hz) p1
  · rw [if_neg hz] at p1; exact p1.elim
end
def DKw (X : Cx) (W : WX) (kws : List Keyword) (f : LM) : Prop := Jd (
  ∀ (pos : Pos) (pins : List (Addr × Obj)) (s : Shared) (σ : L2.St) (H : Hp) (r : Env1) (S : Store) (L Z : List Addr) (Q : List V → Hp → Prop), Inv X pins σ H s → Slots X.K X.mg H L Z r σ → Sta X.K X.mg H L Z S → PostL X W σ Z (f r S) H L Q →
    wpAny (model X.prog X.w) X.A (evalAll ((backToKw pos (keywordEach kws X.env)).map (·.2))) (AP X pins σ Q) X.xe s)
section
variable {X : Cx} {W : WX} {e : Expr} {fa : EM} {la : LM} {kws : List Keyword} {nm : Option Str} {kpos : Pos}
theorem DKw.step {β γ : Type} (ha : DKw X W kws la) (pos : Pos) {pins : List (Addr × Obj)} {s : Shared} {σ : L2.St} {H : Hp} {r : Env1} {S : Store} {L Z : List Addr} (I : Inv X pins σ H s) (sl : Slots X.K X.mg H L Z r σ) (st : Sta X.K X.mg H L Z S) {g : List PV → Store → Res β} {rel : Hp → List Addr → β → γ → Prop} {Q : γ → Hp → Prop}
    (p : Post X W σ Z rel ((la r S).bind g) H L Q) {Qf : List Value → Shared → Prop}
    (hk : ∀ ds S1 vs us s1 H1 L1, Inv X pins σ H1 s1 → Vals vs us → Slots X.K X.mg H1 L1 Z r σ → Sta X.K X.mg H1 L1 Z S1 → Ext H L H1 L1 → Ats X.K X.mg H1 L1 Z ds vs → Post X W σ Z rel (g ds S1) H1 L1 Q → Qf us s1) :
    wpAny (model X.prog X.w) X.A (evalAll ((backToKw pos (keywordEach kws X.env)).map (·.2))) Qf X.xe s := by
  cases q : la r S with
  | bad => rw [q] at p; exact p.elim
  | err c S1 =>
    rw [q] at p
    exact thn (ha.out pos pins s σ H r S L Z (fun _ _ => False) I sl st (by rw [q]; exact p)) fun u s1 ⟨v, H1, _, _, z⟩ => z.elim
  | ok d S1 =>
    rw [q] at p
    refine thn (ha.out pos pins s σ H r S L Z (fun v H1 => ∃ L1, Ext H L H1 L1 ∧ Sta X.K X.mg H1 L1 Z S1 ∧ Ats X.K X.mg H1 L1 Z d v) I sl st (by rw [q]; exact fun v H' L' x y z => ⟨L', x, y, z⟩)) fun u s1 ⟨v, H1, I1, rv, L1, x1, st1, a1⟩ => ?_
    exact hk d S1 v u s1 H1 L1 I1 rv (sl.mono x1) st1 x1 a1 (p.ext x1)
theorem DKw.nil : DKw X W [] lNil := Jd.mk fun pos pins s σ H r S L Z Q I sl st p => wpAny_evalAll_nil ⟨[], H, I, .nil, p [] H L (Ext.refl H L) st .nil⟩
theorem DKw.cons (ha : De X W e fa) (hr : DKw X W kws la) : DKw X W (⟨nm, e, kpos⟩ :: kws) (lCons fa la) := by
  refine Jd.mk ?_
  intro pos pins s σ H r S L Z Q I sl st p
  show wpAny _ _ (evalAll ((do let v ← eval e X.env; standAt pos; pure v) :: (backToKw pos (keywordEach kws X.env)).map (·.2))) _ _ s
  refine wpAny_evalAll_cons (wpAny_bind (ha.step I sl st p fun d S1 x u s1 H1 L1 I1 r1 sl1 st1 x1 a1 p1 => wpAny_bind (wpAny_standAt (wpAny_pure ?_))))
  refine hr.step pos I1 sl1 st1 p1 fun ds S2 xs us s2 H2 L2 I2 r2 sl2 st2 x2 a2 p2 => ?_
  exact ⟨x :: xs, H2, I2, .cons r1 r2, p2 (x :: xs) H2 L2 (Ext.refl H2 L2) st2 (.cons (a1.mono x2) a2)⟩
end
def arr {α : Type} (ix : List (Nat × Nat)) (us its ws : List α) : List α := ix.filterMap fun q => if q.1 = 0 then us[q.2]? else if q.1 = 1 then its[q.2]? else ws[q.2]?
def sh (q : Nat × Nat) : Nat × Nat := if q.1 = 0 then (0, q.2 + 1) else q
structure Mkx (P : Program) (w : World) (K : PySem.W.Frag) (mg : Str → Option Value) (base : Heap) (j : Nat) (x : Str) (n : Nat) (ks : List Str) (ix : List (Nat × Nat)) (dv : List PV) (m : Fn) : Prop where
  ex : ∃ (C f : Addr) (fd : FuncData) (ps : List Str) (its : List Value), mg x = some (.ref C) ∧ Mk K C f ∧ FnG P w K mg base j f fd ps m ∧ KBn K fd ps (n + 1) ks (fun us ws => arr ((0, 0) :: ix.map sh) us its ws) (fun vs zs => arr ((0, 0) :: ix.map sh) vs (dv.map sV) zs) ∧ dv.all isSc = true ∧
    ∀ (ds zs : List PV), ds.length = n → zs.length = ks.length → (arr ix ds dv zs).length + 1 = ps.length
section
variable {X : Cx} {W : XK} {x : Str} {p' pos : Pos} {e : Expr} {es : List Expr} {kws : List Keyword} {la lk : LM}
end
end Dn
namespace Dn
open PySem PySem.Spec PyProof.Rows L2
inductive KsE : List Expr → List Key → Prop
  | nil : KsE [] []
  | int {i j pos es ks} : KsE es ks → KsE (.Constant (.int i) j pos :: es) (.inl i :: ks)
  | str {x j pos es ks} : KsE es ks → KsE (.Constant (.str x) j pos :: es) (.inr x :: ks)
inductive DLs (X : Cx) (W : WX) : List Expr → List EM → Prop
  | nil : DLs X W [] []
  | cons {e f es fs} : De X W e f → DLs X W es fs → DLs X W (e :: es) (f :: fs)
section
variable {X : Cx} {W : WX} {K : PySem.W.Frag} {mg : Str → Option Value} {H : Hp} {L Z : List Addr} {p : Addr} {o o' : HO}
theorem KsE.len : ∀ {es : List Expr} {ks : List Key}, KsE es ks → es.length = ks.length
  | _, _, .nil => rfl
  | _, _, .int h => by simp [h.len]
  | _, _, .str h => by simp [h.len]
theorem DLs.len : ∀ {es : List Expr} {fs : List EM}, DLs X W es fs → es.length = fs.length
  | _, _, .nil => rfl
  | _, _, .cons _ h => by simp [h.len]
end
end Dn
namespace Dn
open PySem PySem.Spec PyProof.Rows L2
inductive RpT (X : Cx) (k : Nat) : List (Str × Fn) → Prop
  | nil : RpT X k []
  | cons {j : Nat} {nm : Str} {m : Fn} {tb : List (Str × Fn)} : j ≤ k → Spc X "__repr__" j nm 1 m → RpT X k tb → RpT X k ((nm, m) :: tb)
section
variable {X : Cx} {W : WX}
theorem RpT.look {k : Nat} {n : Str} {m : Fn} : ∀ {tb : List (Str × Fn)}, RpT X k tb → tb.lookup n = some m → ∃ j, j ≤ k ∧ Spc X "__repr__" j n 1 m
  | _, .nil, h => by cases h
  | _, .cons (nm := nm) hj s t, h => by
    rw [List.lookup_cons] at h
    cases e : n == nm with
    | true =>
      rw [e] at h
      cases h
      rw [eq_of_beq e]
      exact ⟨_, hj, s⟩
    | false => rw [e] at h; exact t.look h
def lOf (a : EM) : LM := fun r S => (a r S).bind fun d S1 => match seqOf S1 d with
  | some xs => .ok xs S1
  | none => .bad
theorem DF.list {e : Expr} {fa : EM} {p' pos : Pos} (ha : De X W e fa) (hg : Gl X "list") (hm : X.mg "list" = none) (hv : bootBuiltins "list" = some (.type "list") := by kernel_rfl)
    (he : starEach [e] X.env = (false, eval e X.env) :: starEach [] X.env := by rfl) (hpl : (backTo pos (starEach [] X.env)).any (·.1) = false := by rfl) : DF X W (.Call (.Name "list" p') [e] [] pos) (lOf fa) := by
  refine Jd.mk ?_
  intro pins s σ H r S L Z Q I sl st p
  refine wpAny_Call_Name_kw (ld_blt I hg hm hv ?_ (by decide) (by decide))
  unfold lOf at p
  refine PyProof.Rows.callWith_type1 ?_ he hpl
  have go : ∀ {Qf : List Value → Shared → Prop}, (∀ v u s1 H1 L1 S1 d, fa r S = .ok d S1 → Inv X pins σ H1 s1 → RelV v u → Sta X.K X.mg H1 L1 Z S1 → Ext H L H1 L1 → At X.K X.mg H1 L1 Z d v → Qf [u] s1) → wpAny (model X.prog X.w) X.A (spliced (backTo pos (starEach [e] X.env))) Qf X.xe s := fun {Qf} k => by
    have z := (DA.cons ha DA.nil he).out pos pins s σ H r S L Z (fun vs H1 => ∃ d S1 L1 v, fa r S = .ok d S1 ∧ vs = [v] ∧ Ext H L H1 L1 ∧ Sta X.K X.mg H1 L1 Z S1 ∧ At X.K X.mg H1 L1 Z d v) I sl st (by
      unfold lCons
      cases q : fa r S with
      | ok d S1 =>
        intro vs H' L' x st' a
        obtain ⟨v, rfl, a'⟩ := a.one
        exact ⟨d, S1, L', v, rfl, rfl, x, st', a'⟩
      | err c S1 => rw [q] at p; exact p
      | bad => rw [q] at p; exact p.elim)
    refine thn z fun us s1 ⟨vs, H1, I1, r1, d, S1, L1, v, q, e1, x1, st1, a1⟩ => ?_
    subst e1
    obtain ⟨u, rfl, ru⟩ := vals1 r1
    exact k v u s1 H1 L1 S1 d q I1 ru st1 x1 a1
  refine go fun v u s1 H1 L1 S1 d q I1 ru st1 x1 a1 => ?_
  rw [q] at p
  have p : PostF X W σ Z (match seqOf S1 d with
    | some xs => .ok xs S1
    | none => .bad) H L Q := p
  cases h : seqOf S1 d with
  | none => rw [h] at p; exact p.elim
  | some xs =>
    rw [h] at p
    obtain ⟨q', vs, rfl, hq, b⟩ := seq_at st1 a1 h
    exact call_list_of pins s1 σ H1 _ [u] Q I1 (.cons ru .nil) ⟨q', vs, rfl, hq, fun l hl => p vs l H1 L1 x1 st1 b hl⟩
end
end Dn
namespace Dn
open PySem PySem.Spec PyProof.Rows L2
section
variable {prog : Program} {w : World} {A : Around} {E : Value → Shared → Prop} {s : Shared}
end
def enF : Nat → List PV → List PV
  | _, [] => []
  | i, x :: xs => .tup [.int i, x] :: enF (i + 1) xs
def enW (xs : List PV) : List PV := enF 0 xs
theorem enF_len : ∀ (xs : List PV) (i : Nat), (enF i xs).length = xs.length
  | [], _ => rfl
  | _ :: xs, i => by simp [enF, enF_len xs]
@[simp] theorem enW_len (xs : List PV) : (enW xs).length = xs.length := enF_len xs 0
def enOf (d : PV) (S : Store) : Res Src := match d with
  | .tup xs => .ok ⟨enW xs, none⟩ S
  | .lst xs => .ok ⟨enW xs, none⟩ S
  | _ => .bad
def iEnT' (a : EM) : IM := fun r S => (a r S).bind enOf
section
variable {X : Cx} {W : WX} {e : Expr} {fe : EM} {p pos tp : Pos} {elts : List Expr} {kk : Nat}
end
end Dn
namespace Dn
open PySem PySem.Spec PyProof.Rows L2
def insOf (S : Store) (d : PV) : Option (Str × List (Str × PV)) := match d with
  | .obj n fs => some (n, fs)
  | .loc i => match S[i]? with
    | some (.ins n fs) => some (n, fs)
    | _ => none
  | _ => none
theorem ins_at {K : PySem.W.Frag} {mg : Str → Option Value} {H : Hp} {L Z : List Addr} {S : Store} {nm : Str} {C : Addr} {d : PV} {v : V} {fs : List (Str × PV)} (hm : mg nm = some (.ref C)) (st : Sta K mg H L Z S) (a : At K mg H L Z d v) (h : insOf S d = some (nm, fs)) :
    ∃ p dx vs, v = .ref p ∧ H p = some (.ins C dx vs) ∧ Atf K mg H L Z fs vs := by
  cases a with
  | obj h0 h1 h2 h3 h4 =>
    cases h
    rw [hm] at h0; cases h0
    exact ⟨_, _, _, rfl, h1, h4⟩
  | @loc p i hl =>
    unfold insOf at h
    simp only at h
    cases e : S[i]? with
    | none => rw [e] at h; cases h
    | some c =>
      rw [e] at h
      cases c with
      | ins n gs =>
        cases h
        obtain ⟨C', dx, vs, h0, h1, h2⟩ := st.cells _ _ _ e hl
        rw [hm] at h0; cases h0
        exact ⟨_, _, _, rfl, h1, h2⟩
      | _ => cases h
  | _ => cases h
def isC (nm : Str) (S : Store) (d : PV) : Bool := match insOf S d with
  | some (n, _) => decide (n = nm)
  | none => false
def isM (nm mn : Str) (S : Store) (d : PV) : Bool := match insOf S d with
  | some (n, fs) => decide (n = nm) && (fs.lookup mn).isNone
  | none => false
theorem isM_ins {nm mn : Str} {S : Store} {d : PV} (h : isM nm mn S d = true) : ∃ fs, insOf S d = some (nm, fs) ∧ fs.lookup mn = none := by
  unfold isM at h
  cases e : insOf S d with
  | none => rw [e] at h; cases h
  | some q =>
    obtain ⟨n, fs⟩ := q
    rw [e] at h
    simp only [Bool.and_eq_true, decide_eq_true_eq, Option.isNone_iff_eq_none] at h
    obtain ⟨rfl, h2⟩ := h
    exact ⟨fs, rfl, h2⟩
def fldL (nm f : Str) (d : PV) (S : Store) : Res PV := match insOf S d with
  | some (n, fs) => if n = nm then ofO (fs.lookup f) S else .bad
  | none => .bad
def eFldL (nm f : Str) (o : EM) : EM := fun r S => (o r S).bind fun d S1 => fldL nm f d S1
def ePropL (nm : Str) (m : Fn) (o : EM) : EM := fun r S => (o r S).bind fun d S1 => if isC nm S1 d = true then noErr (m [d] S1) else .bad
def methL (n : Nat) (m : Fn) (dv : List PV) (d : PV) (ds : List PV) (S : Store) : Res PV := if (d :: ds).length + dv.length = n then m (d :: ds ++ dv) S else .bad
def eMethL (nm mn : Str) (n : Nat) (m : Fn) (dv : List PV) (o : EM) (a : LM) : EM := fun r S => (o r S).bind fun d S1 => if isM nm mn S1 d = true then (a r S1).bind fun ds S2 => methL n m dv d ds S2 else .bad
section
variable {X : Cx} {W : XK} {C : Addr} {fl mn : Str} {o e : Expr} {es : List Expr} {fo : EM} {la : LM} {pos apos : Pos} {k : Nat} {m : Fn} {fd : FuncData} {ps : List Str} {f : Addr} {dv : List PV} {us0 : List Value} {n : Nat}
theorem De.fldL {nm fl : Str} (hm : X.mg nm = some (.ref C)) (c : Cls X.K C) (na : NoAttr X.K C fl) (ho : De X (kW W) o fo) (hb : attributeBase o fl X.env (eval o X.env) = eval o X.env := by rfl) : De X (kW W) (.Attribute o fl pos) (eFldL nm fl fo) := by
  refine Jd.mk ?_
  intro pins s σ H r S L Z Q I sl st p
  refine attr_of hb (ho.step I sl st p fun d S1 v u s1 H1 L1 I1 r1 sl1 st1 x1 a1 p1 => ?_)
  unfold Dn.fldL at p1
  cases hi : insOf S1 d with
  | none => rw [hi] at p1; exact p1.elim
  | some q =>
    obtain ⟨nm', fs⟩ := q
    rw [hi] at p1
    replace p1 : PostV X (kW W) σ Z (if nm' = nm then ofO (fs.lookup fl) S1 else .bad) H1 L1 Q := p1
    by_cases hn : nm' = nm
    · rw [if_pos hn] at p1
      subst hn
      obtain ⟨q, dx, vs, rfl, hq, b⟩ := ins_at hm st1 a1 hi
      cases hl : fs.lookup fl with
      | none => rw [hl] at p1; exact p1.elim
      | some d' =>
        rw [hl] at p1
        obtain ⟨v', e', a'⟩ := b.look hl
        cases r1
        exact getattr_ok I1 hq c na e' fun u' s2 I2 ru => ⟨v', H1, I2, ru, post_val p1 st1 a'⟩
    · rw [if_neg hn] at p1; exact p1.elim
theorem De.methL {nm : Str} {pl : Sem Bool} (hm : X.mg nm = some (.ref C)) (c : Cls X.K C) (hme : Meth X.K C mn f) (F : FnG X.prog X.w X.K X.mg X.base k f fd ps m) (hr : RoomG k X.A) (hb : Binds X.K fd ps us0) (hd : Vals (dv.map sV) us0) (hsc : dv.all isSc = true) (tk : Takes X (kW W)) (hn : n = ps.length)
    (ho : De X (kW W) o fo) (ha : DA X (kW W) (e :: es) la)
    (hst : starEach (e :: es) X.env = (false, eval e X.env) :: starEach es X.env := by rfl) (hpl : (backTo pos (starEach es X.env)).any (·.1) = false := by rfl)
    (ht : eval (.Call (.Attribute o mn apos) (e :: es) [] pos) X.env = (do
      let ov ← eval o X.env
      standAt apos.atName
      let (f, first) ← holding [ov] (getMethod ov mn pl)
      callWith pos f first (backTo pos (starEach (e :: es) X.env)) (backToKw pos (keywordEach [] X.env))) := by rfl) :
    De X (kW W) (.Call (.Attribute o mn apos) (e :: es) [] pos) (eMethL nm mn n m dv fo la) := by
  refine Jd.mk ?_
  intro pins s σ H r S L Z Q I sl st p
  refine PySem.W.methodCall_KW (pl := pl) (ho.step I sl st p fun d S1 v u s1 H1 L1 I1 r1 sl1 st1 x1 a1 p1 => ?_) ht
  by_cases hM : isM nm mn S1 d = true
  · rw [if_pos hM] at p1
    obtain ⟨fs, hi, hl0⟩ := isM_ins hM
    obtain ⟨a, dx, vs, rfl, ea, b⟩ := ins_at hm st1 a1 hi
    have hl : vs.lookup mn = none := Atf.none b hl0
    cases r1
    refine getmeth_ok I1 ea c hme hl ?_
    refine PySem.W.callWith_K (first := [.ref a]) (h₀ := X.base) I.ok.mod.kin hme.kp (ha.step pos I1 sl1 st1 p1 fun ds S2 xs us s2 H2 L2 I2 r2 sl2 st2 x2 a2 p2 => ⟨I2.kIn, ?_⟩) hst hpl
    replace p2 : PostV X (kW W) σ Z (if (d :: ds).length + dv.length = n then m (d :: ds ++ dv) S2 else .bad) H2 L2 Q := p2
    by_cases hz : (d :: ds).length + dv.length = n
    · rw [if_pos hz] at p2
      exact run_m (us := .ref a :: us) (vs := .ref a :: xs) (ds := d :: ds) F hr hb hd hsc tk I2 st2 (.cons (a1.mono x2) a2) (.cons rfl r2) (hz.trans hn) p2
    · rw [if_neg hz] at p2; exact p2.elim
  · rw [if_neg hM] at p1; exact p1.elim
end
section
variable {X : Cx} {W : XK} {mn : Str} {o e : Expr} {es : List Expr} {fo : EM} {la : LM} {pos apos : Pos} {j k n : Nat} {m : Fn} {dv : List PV} {nm : Str}
end
section
variable {X : Cx} {W : XK}
end
theorem conB_ok {c n v : Str} {K : PySem.W.Frag} (h : conB c n v K = true) : ∃ t, Con K (ga K c) n (.str v) (.str v t) := by
  unfold conB at h
  split at h
  · rename_i x t e
    obtain ⟨h1, h⟩ := He.ba h
    obtain ⟨h2, h3⟩ := He.ba h
    have h1 : x = v := of_decide_eq_true h1
    subst h1
    exact ⟨t, e, ⟨t, rfl⟩, of_decide_eq_true h2, by simpa using h3⟩
  · cases h
def conL (nm f v : Str) (d : PV) (S : Store) : Res PV := match insOf S d with
  | some (n, fs) => if n = nm ∧ fs.lookup f = none then .ok (.str v) S else .bad
  | none => .bad
def eConL (nm f v : Str) (o : EM) : EM := fun r S => (o r S).bind fun d S1 => conL nm f v d S1
theorem De.conL {X : Cx} {W : XK} {fs : List Ft} {ds : List Df} {h : Heap} {C mn v : Str} {i i2 i3 : Nat} {o : Expr} {fo : EM} {pos : Pos} (B : Bas fs ds X.K X.mg h) (ho : De X (kW W) o fo) (h1 : fs[i]? = some (fa (.glo C)) := by rfl) (h2 : fs[i2]? = some (fa (.cls C)) := by rfl) (h3 : fs[i3]? = some (conB C mn v) := by rfl)
    (hb : attributeBase o mn X.env (eval o X.env) = eval o X.env := by rfl) : De X (kW W) (.Attribute o mn pos) (eConL C mn v fo) := by
  have hm := He.glo_ok B.k B.g (B.c.fact i h1)
  have c := He.cls_ok (B.c.fact i2 h2)
  obtain ⟨t, k⟩ := conB_ok (B.c.fact i3 h3)
  refine Jd.mk ?_
  intro pins s σ H r S L Z Q I sl st p
  refine attr_of hb (ho.step I sl st p fun d S1 v' u s1 H1 L1 I1 r1 sl1 st1 x1 a1 p1 => ?_)
  unfold Dn.conL at p1
  cases hi : insOf S1 d with
  | none => rw [hi] at p1; exact p1.elim
  | some q =>
    obtain ⟨nm', gs⟩ := q
    rw [hi] at p1
    replace p1 : PostV X (kW W) σ Z (if nm' = C ∧ gs.lookup mn = none then .ok (.str v) S1 else .bad) H1 L1 Q := p1
    by_cases hn : nm' = C ∧ gs.lookup mn = none
    · rw [if_pos hn] at p1
      obtain ⟨hn1, hn2⟩ := hn
      subst hn1
      obtain ⟨q, dx, vs, rfl, hq, b⟩ := ins_at hm st1 a1 hi
      cases r1
      exact getcon_ok I1 hq c k (Atf.none b hn2) fun s2 I2 => ⟨.str v, H1, I2, ⟨t, rfl⟩, post_val p1 st1 (.str _)⟩
    · rw [if_neg hn] at p1; exact p1.elim
end Dn
namespace Dn
open PySem PySem.Spec PyProof.Rows L2
def rngD (lo : Int) (n : Nat) : List PV := (List.range n).map fun (i : Nat) => PV.int (lo + (i : Int) * (-1))
def rngOf3 (d e f : PV) (S : Store) : Res Src := match d with
  | .int n => (match e with
    | .int m => (match f with
      | .int c => if (-(2 ^ 62) ≤ n ∧ n < 2 ^ 62 ∧ -(2 ^ 62) ≤ m ∧ m < 2 ^ 62) ∧ c = -1 then .ok ⟨rngD n (n - m).toNat, none⟩ S else .bad
      | _ => .bad)
    | _ => .bad)
  | _ => .bad
def iRange3 (a b c : EM) : IM := fun r S => (a r S).bind fun d S1 => (b r S1).bind fun e S2 => (c r S2).bind fun f S3 => rngOf3 d e f S3
section
variable {X : Cx} {W : WX} {tg : Expr} {pos p' : Pos}
end
end Dn
namespace Dn
open PySem PySem.Spec PyProof.Rows L2
section
variable {X : Cx} {W : WX}
end
section
variable {X : Cx} {W : XK} {a b : Expr} {fA fb : EM} {pos : Pos}
end
end Dn
namespace Dn
open PySem PySem.Spec PyProof.Rows L2
end Dn
namespace Dn
open PySem PySem.Spec PyProof.Rows L2
section
variable {X : Cx} {W : WX}
end
end Dn
namespace Dn
open PySem PySem.Spec PyProof.Rows L2
def noRaise (x : Res Fl) : Res Fl := match x with
  | .err _ _ => .bad
  | x => x
def sCalm (b : SM) : SM := fun r S => noRaise (b r S)
end Dn
namespace Dn
open PySem PySem.Spec PyProof.Rows L2
def eCm (nm : Str) (n : Nat) (m : Fn) (a : LM) : EM := fun r S => (a r S).bind fun ds S1 => if (PV.cls nm :: ds).length = n then m (.cls nm :: ds) S1 else .bad
end Dn
namespace Dn
open PySem PySem.Spec PyProof.Rows L2
structure SupP (P : Program) : Prop where
  file : ((P.main.file : Str) == ("/claim/cut.py" : Str)) = true
  top : (P.main.scope.names.lookup ("super" : Str)).isSome = false
structure FunS (K : PySem.W.Frag) (F : NdefX.NF) (dvs : List V) (f : Addr) (fd : FuncData) : Prop where
  ex : ∃ (oc : Value) (od : Option Addr) (dV kV doc pm : Value) (an : Option Addr) (ct : Value) (osl : Array (Option Value)),
    fd = PySem.W.fnX F.name F.qual F.params F.body F.scope F.cl dV kV doc pm an (.ref F.c) ct ∧ K.lookup f = some ⟨oc, od, .func fd, osl⟩ ∧ PySem.W.codeIn K (.ref F.c) F.qual = true ∧ L2.DflV K dV dvs
  kp : PySem.W.keepIn K (.ref f) = true
structure SupF (K : PySem.W.Frag) (F : NdefX.NF) (D : Addr) : Prop where
  cl : ∃ cc, F.cl = [(("__class__" : Str), cc)] ∧ ∃ a b c, K.lookup cc = some ⟨a, b, .cell (some (.ref D)), c⟩
  code : ∃ a b vs d tf, K.lookup F.c = some ⟨a, b, .fields vs, d⟩ ∧ vs[2]? = some (.str "/claim/cut.py" tf)
structure SupC (K : PySem.W.Frag) (C D g : Addr) (mn : Str) : Prop where
  cd : (PySem.W.clsIn K D).isSome = true
  cc : (PySem.W.clsIn K C).isSome = true
  sub : PySem.W.mroIn K C (.ref D) = some true
  no : PySem.W.nsIn K cStatics "thirdparty.any" = some none
  at_ : PySem.W.ks_superIn K C D mn = some (some (.ref g))
  ty : PySem.W.typeIn K (.ref g) = some (.type "function")
  fi : PySem.W.fnIn K g = true
def DSA (X : Cx) (W : XK) (body : List Stmt) (c : Stmt) (g : SM) : Prop := Jd (
  ∀ (pins : List (Addr × Obj)) (s : Shared) (σ : L2.St) (H : Hp) (r : Env1) (S : Store) (L Z : List Addr) (D : Ends), Inv X pins σ H s → Slots X.K X.mg H L Z r σ → Sta X.K X.mg H L Z S → PostS X W Z (g r S) H L D →
    _root_.PySem.wpAt (model X.prog X.w) X.A (.func body X.env) (exec c X.env) (SP X pins D) X.xe s)
def DSsA (X : Cx) (W : XK) (body c : List Stmt) (g : SM) : Prop := Jd (
  ∀ (pins : List (Addr × Obj)) (s : Shared) (σ : L2.St) (H : Hp) (r : Env1) (S : Store) (L Z : List Addr) (D : Ends), Inv X pins σ H s → Slots X.K X.mg H L Z r σ → Sta X.K X.mg H L Z S → PostS X W Z (g r S) H L D →
    _root_.PySem.wpAt (model X.prog X.w) X.A (.func body X.env) (execs c X.env) (SP X pins D) X.xe s)
def DeA (X : Cx) (W : WX) (body : List Stmt) (e : Expr) (f : EM) : Prop := Jd (
  ∀ (pins : List (Addr × Obj)) (s : Shared) (σ : L2.St) (H : Hp) (r : Env1) (S : Store) (L Z : List Addr) (Q : VK), Inv X pins σ H s → Slots X.K X.mg H L Z r σ → Sta X.K X.mg H L Z S → PostV X W σ Z (f r S) H L Q →
    _root_.PySem.wpAt (model X.prog X.w) X.A (.func body X.env) (eval e X.env) (EP X pins σ Q) X.xe s)
section
variable {X : Cx} {W : XK} {body : List Stmt} {c : Stmt} {cs : List Stmt} {g h : SM} {e : Expr} {fe : EM} {pos : Pos}
theorem DSsA.one (h1 : DSA X W body c g) : DSsA X W body [c] g := by
  refine Jd.mk ?_
  intro pins s σ H r S L Z D I sl st p
  refine ks_wpAt_execs_cons (ks_wpAt_mono (h1.out pins s σ H r S L Z D I sl st p) (fun f s1 q => ?_) fun _ _ z => z)
  cases f with
  | next => exact PySem.wpAt_of_wpAny (wpAny_execs_nil q)
  | ret v => exact q
  | brk => exact q
  | cont => exact q
theorem DSsA.cons (h1 : DSA X W body c g) (h2 : DSsA X W body cs h) : DSsA X W body (c :: cs) (sSeq g h) := by
  refine Jd.mk ?_
  intro pins s σ H r S L Z D I sl st p
  have go : ∀ D1 : Ends, PostS X W Z (g r S) H L D1 → (∀ f s1, SP X pins D1 f s1 → (match f with
      | .next => _root_.PySem.wpAt (model X.prog X.w) X.A (.func body X.env) (execs cs X.env) (SP X pins D) X.xe s1
      | f => SP X pins D f s1)) → _root_.PySem.wpAt (model X.prog X.w) X.A (.func body X.env) (execs (c :: cs) X.env) (SP X pins D) X.xe s := fun D1 p1 k => by
    refine ks_wpAt_execs_cons (ks_wpAt_mono (h1.out pins s σ H r S L Z D1 I sl st p1) (fun f s1 q => ?_) fun _ _ z => z)
    have := k f s1 q
    cases f <;> exact this
  unfold sSeq at p
  cases q : g r S with
  | bad => rw [q] at p; exact p.elim
  | err cl S1 =>
    rw [q] at p
    refine go { D with nx := fun _ _ => False } (by rw [q]; exact p) fun f s1 hs => ?_
    cases f with
    | next => obtain ⟨_, _, _, z⟩ := hs; exact z.elim
    | ret v => exact hs
    | brk => exact hs
    | cont => exact hs
  | ok f S1 =>
    rw [q] at p
    cases f with
    | nx r1 =>
      have p : PostS X W Z (h r1 S1) H L D := p
      refine go { D with nx := fun σ' H' => ∃ L', Ext H L H' L' ∧ Slots X.K X.mg H' L' Z r1 σ' ∧ Sta X.K X.mg H' L' Z S1 } (by rw [q]; exact fun σ' H' L' a b c => ⟨L', a, b, c⟩) fun f s1 hs => ?_
      cases f with
      | next =>
        obtain ⟨σ', H', I', L', x, sl', st'⟩ := hs
        exact h2.out pins s1 σ' H' r1 S1 L' Z D I' sl' st' (p.ext x)
      | ret v => exact hs
      | brk => exact hs
      | cont => exact hs
    | rt d =>
      refine go { D with nx := fun _ _ => False } (by rw [q]; exact p) fun f s1 hs => ?_
      cases f with
      | next => obtain ⟨_, _, _, z⟩ := hs; exact z.elim
      | ret v => exact hs
      | brk => exact hs
      | cont => exact hs
    | bk r1 =>
      refine go { D with nx := fun _ _ => False } (by rw [q]; exact p) fun f s1 hs => ?_
      cases f with
      | next => obtain ⟨_, _, _, z⟩ := hs; exact z.elim
      | ret v => exact hs
      | brk => exact hs
      | cont => exact hs
    | ct r1 =>
      refine go { D with nx := fun _ _ => False } (by rw [q]; exact p) fun f s1 hs => ?_
      cases f with
      | next => obtain ⟨_, _, _, z⟩ := hs; exact z.elim
      | ret v => exact hs
      | brk => exact hs
      | cont => exact hs
theorem DeA.step {β γ : Type} {f : EM} (ha : DeA X (kW W) body e f) {pins : List (Addr × Obj)} {s : Shared} {σ : L2.St} {H : Hp} {r : Env1} {S : Store} {L Z : List Addr} (I : Inv X pins σ H s) (sl : Slots X.K X.mg H L Z r σ) (st : Sta X.K X.mg H L Z S) {g : PV → Store → Res β} {rel : Hp → List Addr → β → γ → Prop} {Q : γ → Hp → Prop}
    (p : Post X (kW W) σ Z rel ((f r S).bind g) H L Q) {Qf : Value → Shared → Prop}
    (hk : ∀ d S1 v u s1 H1 L1, Inv X pins σ H1 s1 → RelV v u → Slots X.K X.mg H1 L1 Z r σ → Sta X.K X.mg H1 L1 Z S1 → Ext H L H1 L1 → At X.K X.mg H1 L1 Z d v → Post X (kW W) σ Z rel (g d S1) H1 L1 Q → Qf u s1) :
    _root_.PySem.wpAt (model X.prog X.w) X.A (.func body X.env) (eval e X.env) Qf X.xe s := by
  cases q : f r S with
  | ok d S1 =>
    rw [q] at p
    refine ks_wpAt_mono (ha.out pins s σ H r S L Z (fun v H1 => ∃ L1, Ext H L H1 L1 ∧ Sta X.K X.mg H1 L1 Z S1 ∧ At X.K X.mg H1 L1 Z d v) I sl st (by rw [q]; exact fun v H' L' x y z => ⟨L', x, y, z⟩)) (fun u s1 ⟨v, H1, I1, rv, L1, x1, st1, a1⟩ => ?_) fun _ _ z => z
    exact hk d S1 v u s1 H1 L1 I1 rv (sl.mono x1) st1 x1 a1 (p.ext x1)
  | err c S1 =>
    rw [q] at p
    exact ks_wpAt_mono (ha.out pins s σ H r S L Z (fun v H1 => False) I sl st (by rw [q]; exact p)) (fun u s1 ⟨v, H1, _, _, z⟩ => z.elim) fun _ _ z => z
  | bad => rw [q] at p; exact p.elim
theorem DeA.stepS (ha : DeA X (kW W) body e fe) {pins : List (Addr × Obj)} {s : Shared} {σ : L2.St} {H : Hp} {r : Env1} {S : Store} {L Z : List Addr} {D : Ends} (I : Inv X pins σ H s) (sl : Slots X.K X.mg H L Z r σ) (st : Sta X.K X.mg H L Z S) {k : PV → Store → Res Fl}
    (p : PostS X W Z ((fe r S).bind k) H L D) {Qf : Value → Shared → Prop}
    (hk : ∀ d S1 v u s1 H1 L1, Inv X pins σ H1 s1 → RelV v u → Slots X.K X.mg H1 L1 Z r σ → Sta X.K X.mg H1 L1 Z S1 → Ext H L H1 L1 → At X.K X.mg H1 L1 Z d v → PostS X W Z (k d S1) H1 L1 D → Qf u s1) :
    _root_.PySem.wpAt (model X.prog X.w) X.A (.func body X.env) (eval e X.env) Qf X.xe s := by
  cases q : fe r S with
  | ok d S1 =>
    rw [q] at p
    refine ks_wpAt_mono (ha.out pins s σ H r S L Z (fun v H1 => ∃ L1, Ext H L H1 L1 ∧ Sta X.K X.mg H1 L1 Z S1 ∧ At X.K X.mg H1 L1 Z d v) I sl st (by rw [q]; exact fun v H' L' x y z => ⟨L', x, y, z⟩)) (fun u s1 ⟨v, H1, I1, rv, L1, x1, st1, a1⟩ => ?_) fun _ _ z => z
    exact hk d S1 v u s1 H1 L1 I1 rv (sl.mono x1) st1 x1 a1 (p.ext x1)
  | err c S1 =>
    rw [q] at p
    exact ks_wpAt_mono (ha.out pins s σ H r S L Z (fun v H1 => False) I sl st (by rw [q]; exact p)) (fun u s1 ⟨v, H1, _, _, z⟩ => z.elim) fun _ _ z => z
  | bad => rw [q] at p; exact p.elim
theorem DSA.ret (ha : DeA X (kW W) body e fe) : DSA X W body (.Return (some e) pos) (sRet fe) := by
  refine Jd.mk ?_
  intro pins s σ H r S L Z D I sl st p
  exact ks_wpAt_Return_some (ha.stepS I sl st p fun d S1 v u s1 H1 L1 I1 r1 sl1 st1 x1 a1 p1 => ⟨v, σ, H1, I1, r1, p1 v H1 L1 (Ext.refl H1 L1) st1 a1⟩)
theorem DSA.expr (ha : DeA X (kW W) body e fe) (hs : swapsWith e none pos.line X.env = pure false := by rfl) : DSA X W body (.Expr e pos) (sExpr fe) := by
  refine Jd.mk ?_
  intro pins s σ H r S L Z D I sl st p
  exact ks_wpAt_Expr_any (ha.stepS I sl st p fun d S1 v u s1 H1 L1 I1 r1 sl1 st1 x1 a1 p1 => ⟨σ, H1, I1, p1 σ H1 L1 (Ext.refl H1 L1) sl1 st1⟩) I.quiet hs
end
section
variable {X : Cx} {W : XK} {body : List Stmt} {F : NdefX.NF} {dvs : List V} {f L0 C D g : Addr} {fd : FuncData} {cn mn : Str} {k n : Nat} {fd2 : FuncData} {ps : List Str} {m : Fn} {es : List Expr} {la : LM} {p0 p1 pos apos : Pos} {ar : Arg} {pl : Sem Bool}
end
end Dn
namespace Dn
open PySem PySem.Spec PyProof.Rows L2
section
variable {P : Program} {w : World} {K : PySem.W.Frag} {mg : Str → Option Value} {base : Heap} {F : NdefX.NF} {dvs : List V} {f D : Addr} {fd : FuncData} {dn : Str}
end
def Df.nf (d : Df) (K : PySem.W.Frag) : NdefX.NF := ⟨d.name, d.qual, d.params, d.body, d.scope, [("__class__", cloAt K (d.pl.ad K))], codAt K (d.pl.ad K)⟩
section
variable {fs : List Ft} {ds : List Df} {K : PySem.W.Frag} {mg : Str → Option Value} {base : Heap}
end
end Dn
namespace Dn
open PySem PySem.Spec PyProof.Rows L2
structure Sx (P : Program) (w : World) (K : PySem.W.Frag) (mg : Str → Option Value) (base : Heap) (j : Nat) (g : Addr) (n : Nat) (m : Fn) : Prop where
  ex : ∃ (fd : FuncData) (ps : List Str), FnG P w K mg base j g fd ps m ∧ Binds K fd ps [] ∧ ps.length = n
section
variable {X : Cx} {W : XK} {body : List Stmt} {F : NdefX.NF} {dvs : List V} {f L0 C D g : Addr} {fd : FuncData} {cn mn : Str} {k j n : Nat} {m : Fn} {e : Expr} {es : List Expr} {la : LM} {p0 p1 pos apos : Pos} {pl : Sem Bool}
end
end Dn
namespace Dn
open PySem PySem.Spec PyProof.Rows L2
theorem Ox.le {P : Program} {w : World} {K : PySem.W.Frag} {mg : Str → Option Value} {base : Heap} {j k : Nat} {nm mn : Str} {n : Nat} {dv : List PV} {m : Fn} (F : Ox P w K mg base j nm mn n dv m) (l : j ≤ k) : Ox P w K mg base k nm mn n dv m := by
  obtain ⟨C, f, fd, ps, us0, h1, h2, h3, F, h4, h5, h6, h7⟩ := F.ex
  exact ⟨C, f, fd, ps, us0, h1, h2, h3, F.mono l, h4, h5, h6, h7⟩
inductive TbA (P : Str → Fn → Prop) : List (Str × Fn) → Prop
  | nil : TbA P []
  | cons {c : Str} {m : Fn} {tb : List (Str × Fn)} : P c m → TbA P tb → TbA P ((c, m) :: tb)
theorem TbA.look {P : Str → Fn → Prop} {n : Str} {m : Fn} : ∀ {tb : List (Str × Fn)}, TbA P tb → tb.lookup n = some m → P n m
  | _, .nil, e => by simp at e
  | _, .cons (c := c) h t, e => by
    rw [List.lookup_cons] at e
    by_cases z : n = c
    · subst z; simp at e; subst e; exact h
    · have : (n == c) = false := by simpa using z
      rw [this] at e; exact t.look e
section
variable {X : Cx} {W : XK} {mn : Str} {o e : Expr} {es : List Expr} {fo : EM} {la : LM} {pos apos : Pos} {j k n : Nat} {dv : List PV} {tb : List (Str × Fn)}
inductive ClA (X : Cx) (f : Str) : List Str → Prop
  | nil : ClA X f []
  | cons {c : Str} {C : Addr} {cs : List Str} : X.mg c = some (.ref C) → Cls X.K C → NoAttr X.K C f → ClA X f cs → ClA X f (c :: cs)
theorem ClA.get {X : Cx} {f c : Str} : ∀ {cs : List Str}, ClA X f cs → c ∈ cs → ∃ C, X.mg c = some (.ref C) ∧ Cls X.K C ∧ NoAttr X.K C f
  | _, .nil, h => nomatch h
  | _, .cons h1 h2 h3 t, h => by
    rcases List.mem_cons.mp h with rfl | h
    · exact ⟨_, h1, h2, h3⟩
    · exact t.get h
end
end Dn
namespace Dn
open PySem PySem.Spec PyProof.Rows L2
section
variable {X : Cx} {W : XK}
end
end Dn
namespace Dn
open PySem PySem.Spec PyProof.Rows L2
structure Cm (P : Program) (w : World) (K : PySem.W.Frag) (mg : Str → Option Value) (base : Heap) (j : Nat) (nm mn : Str) (n : Nat) (m : Fn) : Prop where
  ex : ∃ (C p g : Addr) (mc : Value) (fd : FuncData) (ps : List Str), mg nm = some (.ref C) ∧ ClX.CRead K C mc ∧ ClX.CMet K C mc mn p g ∧ FnG P w K mg base j g fd ps m ∧ Binds K fd ps [] ∧ ps.length = n
section
variable {X : Cx} {W : XK} {j k n : Nat} {nm mn : Str} {m : Fn} {p' pos apos : Pos} {e o : Expr} {es : List Expr} {la : LM}
end
@[simp] theorem sCalm_ap (b : SM) (r : Env1) (S : Store) : sCalm b r S = noRaise (b r S) := rfl
@[simp] theorem noRaise_ok (f : Fl) (S : Store) : noRaise (.ok f S) = .ok f S := rfl
@[simp] theorem eCm_ap (nm : Str) (n : Nat) (m : Fn) (a : LM) (r : Env1) (S : Store) : eCm nm n m a r S = (a r S).bind fun ds S1 => if (PV.cls nm :: ds).length = n then m (.cls nm :: ds) S1 else .bad := rfl
end Dn
namespace Eqx
open PySem PySem.Spec PyProof.Rows PySem.SeqAt
open AutoSeq1 (wpAny_loadPart')
open MeetsSeq MeetsSeq2 MeetsSeq3 SeqRoads2
section
variable (l : Addr) (c : Value) (dd : Option Addr) (sl : Array (Option Value))
end
section
variable {prog : Program} {w : World} {A : Around} {E : Value → Shared → Prop} {s : Shared} {K : PySem.W.Frag} {x C f : Addr} {ox : Obj} {od : Option Obj} {a : Value}
end
end Eqx
namespace Dn
open PySem PySem.Spec PyProof.Rows L2
end Dn
namespace Eqx
open PySem PySem.Spec PyProof.Rows PySem.SeqAt
section
variable {prog : Program} {w : World} {A : Around} {E : Value → Shared → Prop} {s : Shared} {K : PySem.W.Frag} {x y C D f : Addr} {ox oy : Obj} {od od2 : Option Obj} {a b tb : Value} {op : CmpOp} {Q : Value → Shared → Prop}
end
end Eqx
namespace Dn
open PySem PySem.Spec PyProof.Rows L2
structure EqC (X : Cx) (k : Nat) (nm : Str) (m : Fn) : Prop where
  hc : nm ∈ HC
  sp : Spc X "__eq__" k nm 2 m
  ne : ∀ C, X.mg nm = some (.ref C) → PySem.W.findIn X.K (.ref C) "__ne__" = some (some (.builtin "object.__ne__")) ∧ PySem.W.subIn X.K (.ref C) (.type "NoneType") = some false
section
variable {X : Cx} {W : XK} {k : Nat} {tb : List (Str × Fn)} {pins : List (Addr × Obj)} {σ : L2.St} {H : Hp} {s : Shared} {L Z : List Addr} {S : Store} {Q : VK} {d e : PV} {x y : V} {u v : Value} {nm : Str} {m : Fn}
end
end Dn
namespace HT
open PySem PySem.Spec PyProof.Rows
section
variable {prog : Program} {w : World} {A : Around} {E : Value → Shared → Prop} {s : Shared}
end
end HT
namespace Dn
open PySem PySem.Spec PyProof.Rows L2
def vRev (d : PV) (S : Store) : Res PV := match d with
  | .tup xs => .ok (.tup xs.reverse) S
  | _ => .bad
def eRev (fa : EM) (fo : OM) : EM := fun r S => (fa r S).bind fun d S1 => (fo r S1).bind fun k S2 => if k = some (-1) then vRev d S2 else .bad
@[simp] theorem eRev_ap (fa : EM) (fo : OM) (r : Env1) (S : Store) : eRev fa fo r S = (fa r S).bind fun d S1 => (fo r S1).bind fun k S2 => if k = some (-1) then vRev d S2 else .bad := rfl
@[simp] theorem vRev_tup (xs : List PV) (S : Store) : vRev (.tup xs) S = .ok (.tup xs.reverse) S := rfl
end Dn
namespace Dn
open PySem PySem.Spec PyProof.Rows L2
def keyOf : PV → Option Key
  | .int i => some (.inl i)
  | .str x => some (.inr x)
  | _ => none
def dkAt : List (PV × PV) → Key → Option PV
  | [], _ => none
  | (p, d) :: r, k => if keyOf p = some k then some d else dkAt r k
theorem keyOf_kPV : ∀ k : Key, keyOf (kPV k) = some k
  | .inl _ => rfl
  | .inr _ => rfl
section
variable {X : Cx} {W : WX} {K : PySem.W.Frag} {mg : Str → Option Value} {H : Hp} {L Z : List Addr} {S : Store}
theorem Atk.val : ∀ {kvs : List (PV × PV)} {us : List (Key × V)} {k : Key} {d : PV}, Atk K mg H L Z kvs us → dkAt kvs k = some d → ∃ v, valV us k = some v ∧ At K mg H L Z d v
  | _, _, _, _, .nil, h => by cases h
  | _, _, k, d, .cons (k := k2) (d := d2) (v := v) (ds := ds) (vs := vs) a r, h => by
    have h : (if keyOf (kPV k2) = some k then some d2 else dkAt ds k) = some d := h
    rw [keyOf_kPV] at h
    by_cases e : k2 = k
    · rw [if_pos (by rw [e])] at h
      cases h
      exact ⟨v, valV_pos (p := (k2, v)) e, a⟩
    · rw [if_neg (fun z => e (Option.some.inj z))] at h
      obtain ⟨w, h1, h2⟩ := Atk.val r h
      exact ⟨w, by rw [valV_neg (p := (k2, v)) e]; exact h1, h2⟩
end
end Dn
namespace Dn
open PySem PySem.Spec PyProof.Rows L2
def KwB (K : PySem.W.Frag) (fd : FuncData) (ps : List Str) (n : Nat) (ks : List Str) (ix : List (Nat × Nat)) (dv : List PV) : Prop :=
  dv.all isSc = true ∧ (∀ (ds zs : List PV), ds.length = n → zs.length = ks.length → (arr ix ds dv zs).length = ps.length) ∧
    ∃ its : List Value, KBn K fd ps n ks (fun us ws => arr ix us its ws) (fun vs zs => arr ix vs (dv.map sV) zs)
section
variable {P : Program} {w : World} {K : PySem.W.Frag} {mg : Str → Option Value} {base : Heap} {fs : List Ft} {ds : List Df} {j n : Nat} {dv : List PV} {m : Fn} {x qual : Str} {params : Arguments} {body : List Stmt} {scope : Scope} {f : Addr} {fd : FuncData} {ps ks : List Str} {ix : List (Nat × Nat)}
end
section
variable {X : Cx} {W : XK} {j k n : Nat} {x nm mn : Str} {m : Fn} {dv : List PV} {p' pos apos : Pos} {o fe : Expr} {fo : EM} {lk : LM} {kws : List Keyword} {ks : List Str} {ix : List (Nat × Nat)} {f : Addr} {fd : FuncData} {ps : List Str}
structure Fkw (P : Program) (w : World) (K : PySem.W.Frag) (mg : Str → Option Value) (base : Heap) (j : Nat) (x : Str) (ks : List Str) (ix : List (Nat × Nat)) (dv : List PV) (m : Fn) : Prop where
  ex : ∃ (f : Addr) (fd : FuncData) (ps : List Str), mg x = some (.ref f) ∧ PySem.W.keepIn K (.ref f) = true ∧ FnG P w K mg base j f fd ps m ∧ KwB K fd ps 0 ks ix dv
structure Okw (P : Program) (w : World) (K : PySem.W.Frag) (mg : Str → Option Value) (base : Heap) (j : Nat) (nm mn : Str) (ks : List Str) (ix : List (Nat × Nat)) (dv : List PV) (m : Fn) : Prop where
  ex : ∃ (C f : Addr) (fd : FuncData) (ps : List Str), mg nm = some (.ref C) ∧ Cls K C ∧ Meth K C mn f ∧ FnG P w K mg base j f fd ps m ∧ KwB K fd ps 1 ks ix dv
structure Kkw (P : Program) (w : World) (K : PySem.W.Frag) (mg : Str → Option Value) (base : Heap) (j : Nat) (nm : Str) (ks : List Str) (ix : List (Nat × Nat)) (dv : List PV) (m : Fn) : Prop where
  ex : ∃ (C f : Addr) (fd : FuncData) (ps : List Str), mg nm = some (.ref C) ∧ StX.CallO K C f ∧ FnG P w K mg base j f fd ps m ∧ KwB K fd ps 1 ks ix dv
structure Ckw (P : Program) (w : World) (K : PySem.W.Frag) (mg : Str → Option Value) (base : Heap) (j : Nat) (nm mn : Str) (ks : List Str) (ix : List (Nat × Nat)) (dv : List PV) (m : Fn) : Prop where
  ex : ∃ (C p g : Addr) (mc : Value) (fd : FuncData) (ps : List Str), mg nm = some (.ref C) ∧ ClX.CRead K C mc ∧ ClX.CMet K C mc mn p g ∧ FnG P w K mg base j g fd ps m ∧ KwB K fd ps 1 ks ix dv
end
end Dn
namespace Dn
open PySem PySem.Spec PyProof.Rows L2
def eBad : EM := fun _ _ => .bad
theorem De.bad {X : Cx} {W : WX} {e : Expr} : De X W e eBad := Jd.mk fun pins s σ H r S L Z Q I sl st p => (show False from p).elim
def objNm : PV → Option Str
  | .obj nm _ => some nm
  | _ => none
def eCallT (tb : List (Str × Fn)) (n : Nat) (dv : List PV) (o : EM) (a : LM) : EM := fun r S => (o r S).bind fun d S1 => match objNm d with
  | some nm => (match tb.lookup nm with
    | some m => (a r S1).bind fun ds S2 => (if (d :: ds).length + dv.length = n then m (d :: ds ++ dv) S2 else .bad)
    | none => .bad)
  | none => .bad
theorem Kx.le {P : Program} {w : World} {K : PySem.W.Frag} {mg : Str → Option Value} {base : Heap} {j k : Nat} {nm : Str} {n : Nat} {dv : List PV} {m : Fn} (F : Kx P w K mg base j nm n dv m) (l : j ≤ k) : Kx P w K mg base k nm n dv m := by
  obtain ⟨C, f, fd, ps, us0, h1, h2, F, h4, h5, h6, h7⟩ := F.ex
  exact ⟨C, f, fd, ps, us0, h1, h2, F.mono l, h4, h5, h6, h7⟩
section
variable {X : Cx} {W : XK} {j k n : Nat} {dv : List PV} {pos : Pos} {fe e : Expr} {es : List Expr} {fo : EM} {la : LM} {tb : List (Str × Fn)}
end
@[simp] theorem eCallT_ap (tb : List (Str × Fn)) (n : Nat) (dv : List PV) (o : EM) (a : LM) (r : Env1) (S : Store) : eCallT tb n dv o a r S = (o r S).bind fun d S1 => match objNm d with
  | some nm => (match tb.lookup nm with
    | some m => (a r S1).bind fun ds S2 => (if (d :: ds).length + dv.length = n then m (d :: ds ++ dv) S2 else .bad)
    | none => .bad)
  | none => .bad := rfl
end Dn
namespace Dn
open PySem PySem.Spec PyProof.Rows L2
section
variable {X : Cx} {W : WX}
end
end Dn
namespace Eqt
open PySem PySem.SeqAt
open AutoSeq1 (wpAny_loadPart')
open MeetsSeq MeetsSeq2 MeetsSeq3 SeqRoads2
section
variable {prog : Program} {w : World} {A : Around} {R : Result → Shared → Prop}
end
section
variable {prog : Program} {w : World} {A : Around} {E : Value → Shared → Prop} {s : Shared}
end
end Eqt
namespace Dn
open PySem PySem.Spec PyProof.Rows L2
mutual
def plF : PV → Bool
  | .non => true
  | .bl _ => true
  | .int _ => true
  | .str _ => true
  | .tup xs => plFs xs
  | _ => false
def plFs : List PV → Bool
  | [] => true
  | x :: xs => plF x && plFs xs
end
section
variable {X : Cx} {pins : List (Addr × Obj)} {σ : L2.St} {H : Hp} {s : Shared} {L Z : List Addr}
mutual
theorem At.plain_inj (I : Inv X pins σ H s) : ∀ (d : PV) {e : PV} {v : V}, At X.K X.mg H L Z d v → plF d = true → At X.K X.mg H L Z e v → plF e = true → d = e
  | .non, e, v, a, _, b, h => by cases a; cases b <;> first | rfl | (cases h; done)
  | .bl x, e, v, a, _, b, h => by cases a; cases b <;> first | rfl | (cases h; done)
  | .int x, e, v, a, _, b, h => by cases a; cases b <;> first | rfl | (cases h; done)
  | .str x, e, v, a, _, b, h => by cases a; cases b <;> first | rfl | (cases h; done)
  | .tup xs, e, v, a, h, b, h' => by
    cases a with
    | tup q1 q2 =>
      cases b with
      | tup k1 k2 =>
        cases I.tuple_inj q1 k1
        rw [Ats.plain_inj I xs q2 h k2 h']
      | _ => cases h'
  | .lst _, _, _, _, h, _, _ => by cases h
  | .obj _ _, _, _, _, h, _, _ => by cases h
  | .loc _, _, _, _, h, _, _ => by cases h
  | .scr _, _, _, _, h, _, _ => by cases h
  | .ty _, _, _, _, h, _, _ => by cases h
  | .cls _, _, _, _, h, _, _ => by cases h
  | .exc _, _, _, _, h, _, _ => by cases h
  | .dic _, _, _, _, h, _, _ => by cases h
  | .tub _, _, _, _, h, _, _ => by cases h
  | .dik _, _, _, _, h, _, _ => by cases h
theorem Ats.plain_inj (I : Inv X pins σ H s) : ∀ (ds : List PV) {es : List PV} {vs : List V}, Ats X.K X.mg H L Z ds vs → plFs ds = true → Ats X.K X.mg H L Z es vs → plFs es = true → ds = es
  | [], es, vs, a, _, b, _ => by cases a; cases b; rfl
  | d :: ds, es, vs, a, h, b, h' => by
    cases a with
    | cons a1 a2 =>
      cases b with
      | @cons e' _ es' _ b1 b2 =>
        have h : plF d = true ∧ plFs ds = true := by simpa [plFs] using h
        have h' : plF e' = true ∧ plFs es' = true := by simpa [plFs] using h'
        rw [At.plain_inj I d a1 h.1 b1 h'.1, Ats.plain_inj I ds a2 h.2 b2 h'.2]
end
end
section
variable {X : Cx} {W : XK} {k : Nat} {pins : List (Addr × Obj)} {σ : L2.St} {H : Hp} {s : Shared} {L Z : List Addr} {S : Store} {d e : PV} {x y : V} {u v : Value} {nm : Str} {m : Fn}
end
end Dn
namespace Dn
open PySem PySem.Spec PyProof.Rows L2
structure FnU (P : Program) (w : World) (K : PySem.W.Frag) (mg : Str → Option Value) (base : Heap) (k : Nat) (f : Addr) (fd : FuncData) (ps : List Str) (m : Fn) : Prop where
  run : ∀ (A : Around) (outer : List Env) (s : Shared) (H : Hp) (args : Args) (us : List Value) (vs : List V) (ds : List PV) (S : Store) (L Z : List Addr) (Q : VK) (E : XK), Room k A → Env0 P w K mg base A outer s H → BindsTo s fd args (ps.zip us) → Vals vs us →
    Sta K mg H L Z S → Ats K mg H L Z ds vs → ds.length = ps.length → PostK K mg E Z (m ds S) H L Q → codeAny (model P w) A (.call (.ref f) args) (CR (CX P w) outer P w H s Q E) s
theorem FnU.mono {P : Program} {w : World} {K : PySem.W.Frag} {mg : Str → Option Value} {base : Heap} {j k : Nat} {f : Addr} {fd : FuncData} {ps : List Str} {m : Fn} (F : FnU P w K mg base j f fd ps m) (h : j ≤ k) : FnU P w K mg base k f fd ps m :=
  ⟨fun A outer s H args us vs ds S L Z Q E hr => F.run A outer s H args us vs ds S L Z Q E (hr.mono h)⟩
theorem _root_.L2.Room.h64 {k : Nat} {A : Around} (r : Room k A) : A.units + 64 < cLine := r.units
theorem _root_.L2.Room.le {j k : Nat} {A : Around} (r : Room k A) (h : j ≤ k) : Room j A := r.mono h
section
variable {P : Program} {w : World} {K : PySem.W.Frag} {mg : Str → Option Value} {base : Heap} {x qual : Str} {params : Arguments} {body : List Stmt} {scope : Scope} {dvs : List V} {kws : List (Str × V)} {f : Addr} {fd : FuncData}
end
section
variable {X : Cx} {W : XK} {k : Nat} {f C : Addr} {fd : FuncData} {ps : List Str} {m : Fn} {dv : List PV} {us0 : List Value} {x mn : Str} {p' pos apos : Pos} {e o : Expr} {es : List Expr} {fo : EM} {la : LM} {n : Nat}
end
structure FxU (P : Program) (w : World) (K : PySem.W.Frag) (mg : Str → Option Value) (base : Heap) (j : Nat) (x : Str) (n : Nat) (dv : List PV) (m : Fn) : Prop where
  ex : ∃ (f : Addr) (fd : FuncData) (ps : List Str) (us0 : List Value), mg x = some (.ref f) ∧ PySem.W.keepIn K (.ref f) = true ∧ FnU P w K mg base j f fd ps m ∧ Binds K fd ps us0 ∧ Vals (dv.map sV) us0 ∧ dv.all isSc = true ∧ n = ps.length
structure PxU (P : Program) (w : World) (K : PySem.W.Frag) (mg : Str → Option Value) (base : Heap) (j : Nat) (nm pn : Str) (m : Fn) : Prop where
  ex : ∃ (C g p : Addr) (fd : FuncData) (ps : List Str), mg nm = some (.ref C) ∧ Cls K C ∧ PropOf K C pn p g ∧ FnU P w K mg base j g fd ps m ∧ Binds K fd ps [] ∧ ps.length = 1
section
variable {X : Cx} {W : XK} {j k n : Nat} {x nm mn : Str} {m : Fn} {dv : List PV} {p' pos apos : Pos} {e o : Expr} {es : List Expr} {fo : EM} {la : LM}
end
structure SpcU (X : Cx) (sp : Str) (k : Nat) (nm : Str) (n : Nat) (m : Fn) : Prop where
  ex : ∃ (C f : Addr) (fd : FuncData) (ps : List Str), X.mg nm = some (.ref C) ∧ PySem.W.findIn X.K (.ref C) sp = some (some (.ref f)) ∧ PySem.W.isFn X.K (.ref f) = true ∧ FnU X.prog X.w X.K X.mg X.base k f fd ps m ∧ Binds X.K fd ps [] ∧ ps.length = n
end Dn
namespace Rpl
open PySem PySem.Spec PyProof.Rows
open PySem.W
section
variable {prog : Program} {w : World} {A : Around} {E : Value → Shared → Prop} {s : Shared} {K : Frag} {x C f : Addr} {ox : Obj} {od : Option Obj}
end
section
variable {prog : Program} {w : World} {A : Around} {E : Value → Shared → Prop} {s : Shared}
end
end Rpl
namespace Dn
open PySem PySem.Spec PyProof.Rows L2
theorem SpcU.mono {X : Cx} {sp : Str} {j k n : Nat} {nm : Str} {m : Fn} (h : SpcU X sp j nm n m) (hj : j ≤ k) : SpcU X sp k nm n m :=
  let ⟨C, f, fd, ps, a, b, c, d, e⟩ := h.ex; ⟨⟨C, f, fd, ps, a, b, c, d.mono hj, e⟩⟩
section
variable {X : Cx} {W : WX}
end
end Dn
namespace Dn
open PySem PySem.Spec PyProof.Rows L2
mutual
def nkD : PyData → NestedKey
  | .int i => .num i
  | .tuple xs => .tup (nkDs xs)
  | _ => .none
def nkDs : List PyData → List NestedKey
  | [] => []
  | x :: xs => nkD x :: nkDs xs
end
mutual
theorem nkD_inj : ∀ {p q : PyData}, tk p = true → tk q = true → nkD p = nkD q → p = q
  | .int i, .int j, _, _, h => by simp only [nkD, NestedKey.num.injEq] at h; rw [h]
  | .tuple xs, .tuple ys, h1, h2, h => by
    simp only [nkD, NestedKey.tup.injEq] at h
    simp only [tk] at h1 h2
    rw [nkDs_inj h1 h2 h]
  | .int _, .tuple _, _, _, h => by simp [nkD] at h
  | .tuple _, .int _, _, _, h => by simp [nkD] at h
  | .none, _, h, _, _ => by simp [tk] at h
  | .bool _, _, h, _, _ => by simp [tk] at h
  | .str _, _, h, _, _ => by simp [tk] at h
  | .list _, _, h, _, _ => by simp [tk] at h
  | .dict _, _, h, _, _ => by simp [tk] at h
  | _, .none, _, h, _ => by simp [tk] at h
  | _, .bool _, _, h, _ => by simp [tk] at h
  | _, .str _, _, h, _ => by simp [tk] at h
  | _, .list _, _, h, _ => by simp [tk] at h
  | _, .dict _, _, h, _ => by simp [tk] at h
theorem nkDs_inj : ∀ {p q : List PyData}, tks p = true → tks q = true → nkDs p = nkDs q → p = q
  | [], [], _, _, _ => rfl
  | x :: xs, y :: ys, h1, h2, h => by
    simp only [nkDs, List.cons.injEq] at h
    simp only [tks, Bool.and_eq_true] at h1 h2
    rw [nkD_inj h1.1 h2.1 h.1, nkDs_inj h1.2 h2.2 h.2]
  | [], _ :: _, _, _, h => by simp [nkDs] at h
  | _ :: _, [], _, _, h => by simp [nkDs] at h
end
mutual
theorem nkD_hash (w : World) : ∀ p : PyData, tk p = true → (nkD p).hash w = kh p
  | .int i, _ => by simp [nkD, NestedKey.hash, kh]
  | .tuple xs, h => by
    simp only [tk] at h
    simp only [nkD, NestedKey.hash, kh, nkDs_hash w xs h]
  | .none, h => by simp [tk] at h
  | .bool _, h => by simp [tk] at h
  | .str _, h => by simp [tk] at h
  | .list _, h => by simp [tk] at h
  | .dict _, h => by simp [tk] at h
theorem nkDs_hash (w : World) : ∀ p : List PyData, tks p = true → NestedKey.hashes w (nkDs p) = khs p
  | [], _ => by simp [nkDs, NestedKey.hashes, khs]
  | x :: xs, h => by
    simp only [tks, Bool.and_eq_true] at h
    simp only [nkDs, NestedKey.hashes, khs, nkD_hash w x h.1, nkDs_hash w xs h.2]
end
mutual
theorem nkD_depth : ∀ p : PyData, tk p = true → (nkD p).depth ≤ p.depth
  | .int i, _ => by simp [nkD, NestedKey.depth]
  | .tuple xs, h => by
    simp only [tk] at h
    have := nkDs_depth xs h
    simp only [nkD, NestedKey.depth, PyData.depth]
    omega
  | .none, h => by simp [tk] at h
  | .bool _, h => by simp [tk] at h
  | .str _, h => by simp [tk] at h
  | .list _, h => by simp [tk] at h
  | .dict _, h => by simp [tk] at h
theorem nkDs_depth : ∀ p : List PyData, tks p = true → NestedKey.depthAll (nkDs p) ≤ PyData.depthAll p
  | [], _ => by simp [nkDs, NestedKey.depthAll]
  | x :: xs, h => by
    simp only [tks, Bool.and_eq_true] at h
    have h1 := nkD_depth x h.1
    have h2 := nkDs_depth xs h.2
    simp only [nkDs, NestedKey.depthAll, PyData.depthAll]
    omega
end
mutual
theorem reads_nk {h : Heap} : ∀ {p : PyData} {v : Value} {as : List Addr}, tk p = true → Reads h v p as → NestedIs h (nkD p) v
  | .int i, _, _, _, r => by cases r; exact .int _ _
  | .tuple xs, _, _, e, r => by
    simp only [tk] at e
    cases r with
    | tuple h1 h2 h3 h4 => exact .tup h1 h2 h3 (reads_nks e h4)
  | .none, _, _, h, _ => by simp [tk] at h
  | .bool _, _, _, h, _ => by simp [tk] at h
  | .str _, _, _, h, _ => by simp [tk] at h
  | .list _, _, _, h, _ => by simp [tk] at h
  | .dict _, _, _, h, _ => by simp [tk] at h
theorem reads_nks {h : Heap} : ∀ {p : List PyData} {v : List Value} {as : List Addr}, tks p = true → ReadsAll h v p as → NestedAll h (nkDs p) v
  | [], _, _, _, r => by cases r; exact .nil
  | x :: xs, _, _, e, r => by
    simp only [tks, Bool.and_eq_true] at e
    cases r with
    | cons h1 h2 => exact .cons (reads_nk e.1 h1) (reads_nks e.2 h2)
end
theorem isTK_tk {p : PyData} (h : isTK p = true) : tk p = true := by
  cases p <;> simp [isTK] at h ⊢ <;> simp [tk, h]
theorem isTK_depth {p : PyData} (h : isTK p = true) : (nkD p).depth ≤ 8 := by
  have h1 := nkD_depth p (isTK_tk h)
  cases p <;> simp [isTK] at h
  simp only [PyData.depth] at h1
  omega
def nkOf (k : PV) : Option NestedKey := (data0 k).bind fun p => if isTK p = true then some (nkD p) else none
theorem nkOf_eq {k : PV} {p : PyData} (h1 : data0 k = some p) (h2 : isTK p = true) : nkOf k = some (nkD p) := by
  unfold nkOf; rw [h1]; exact if_pos h2
theorem nkOf_of {k : PV} {n : NestedKey} (h : nkOf k = some n) : ∃ p, data0 k = some p ∧ isTK p = true ∧ n = nkD p := by
  unfold nkOf at h
  cases e : data0 k with
  | none => rw [e] at h; cases h
  | some p =>
    rw [e] at h
    by_cases q : isTK p = true
    · simp only [Option.bind_some, if_pos q] at h; cases h; exact ⟨p, rfl, q, rfl⟩
    · simp only [Option.bind_some, if_neg q] at h; cases h
def dLook : List (PV × PV) → NestedKey → Option PV
  | [], _ => none
  | (k, d) :: r, n => if nkOf k = some n then some d else dLook r n
def dRep (kvs : List (PV × PV)) (n : NestedKey) (d : PV) : List (PV × PV) := kvs.map fun q => if nkOf q.1 = some n then (q.1, d) else q
def dicOf (S : Store) : PV → Option (List (PV × PV))
  | .dic kvs => some kvs
  | .loc k => (match S[k]? with
    | some (.dic kvs _) => some kvs
    | _ => none)
  | _ => none
abbrev kE (x : PyData × Addr × Value) : NestedKey × Addr × Value := (nkD x.1, x.2)
section
variable {X : Cx} {W : WX} {pins : List (Addr × Obj)} {s : Shared} {σ : L2.St} {H : Hp} {L Z : List Addr} {S : Store}
theorem dic_at {d : PV} {v : V} {kvs : List (PV × PV)} (st : Sta X.K X.mg H L Z S) (a : At X.K X.mg H L Z d v) (h : dicOf S d = some kvs) : ∃ q us ep, v = .ref q ∧ H q = some (DicO us ep q) ∧ Atd X.K X.mg H L Z kvs us := by
  cases a with
  | dic h1 h2 h3 h4 => simp only [dicOf] at h; cases h; exact ⟨_, _, _, rfl, h1, h4⟩
  | @loc a k h1 =>
    simp only [dicOf] at h
    cases hc : S[k]? with
    | none => rw [hc] at h; cases h
    | some c =>
      rw [hc] at h
      cases c with
      | dic kvs' ep =>
        cases h
        obtain ⟨us, e1, e2⟩ := st.cells _ _ _ hc h1
        exact ⟨_, us, ep, rfl, e1, e2⟩
      | _ => cases h
  | _ => simp only [dicOf] at h; cases h
theorem At.nk {d : PV} {v : V} {u : Value} {n : NestedKey} (I : Inv X pins σ H s) (a : At X.K X.mg H L Z d v) (r : RelV v u) (h : nkOf d = some n) : ∃ q, v = .ref q ∧ u = .ref q ∧ (nestedKind X.prog X.w).is s.heap n q := by
  obtain ⟨p, h1, h2, rfl⟩ := nkOf_of h
  have dp := dp_of a h1
  obtain ⟨as, rd⟩ := dp.reads I _ _ _ r
  have := reads_nk (isTK_tk h2) rd
  cases p with
  | tuple xs =>
    cases dp with
    | tup h3 h4 => cases r; exact ⟨_, rfl, rfl, this, isTK_depth h2⟩
  | _ => simp [isTK] at h2
theorem Atd.is (I : Inv X pins σ H s) : ∀ {kvs : List (PV × PV)} {us : List (PyData × Addr × V)}, Atd X.K X.mg H L Z kvs us → ∀ p ∈ us, isTK p.1 = true ∧ (nestedKind X.prog X.w).is s.heap (nkD p.1) p.2.1
  | _, _, .nil, p, h => nomatch h
  | _, _, .cons h0 h1 h2 h3 h4, p, h => by
    rcases List.mem_cons.mp h with e | e
    · subst e
      obtain ⟨q, e1, e2, e3⟩ := At.nk I h2 (u := .ref _) rfl (nkOf_eq h0 h1)
      cases e1
      exact ⟨h1, e3⟩
    · exact Atd.is I h4 p e
theorem pair_mem {us : List (PyData × Addr × V)} {xs : List (PyData × Addr × Value)} (r : Paired (fun (p : PyData × Addr × V) (q : PyData × Addr × Value) => p.1 = q.1 ∧ p.2.1 = q.2.1 ∧ RelV p.2.2 q.2.2) us xs) : us.map (·.1) = xs.map (·.1) ∧ ∀ q ∈ xs, ∃ p ∈ us, p.1 = q.1 ∧ p.2.1 = q.2.1 := by
  induction r with
  | nil => exact ⟨rfl, fun _ h => nomatch h⟩
  | cons h t ih =>
    refine ⟨by simp [h.1, ih.1], fun q hq => ?_⟩
    rcases List.mem_cons.mp hq with e | e
    · subst e; exact ⟨_, List.mem_cons_self, h.1, h.2.1⟩
    · obtain ⟨p, h1, h2⟩ := ih.2 q e
      exact ⟨p, List.mem_cons_of_mem _ h1, h2⟩
theorem nodup_nk : ∀ {xs : List (PyData × Addr × Value)}, (∀ q ∈ xs, isTK q.1 = true) → (xs.map (·.1)).Nodup → ((xs.map kE).map (·.1)).Nodup
  | [], _, _ => List.nodup_nil
  | x :: xs, h, n => by
    rw [List.map_cons, List.nodup_cons] at n
    rw [List.map_cons, List.map_cons, List.nodup_cons]
    refine ⟨fun m => n.1 ?_, nodup_nk (fun q hq => h q (List.mem_cons_of_mem _ hq)) n.2⟩
    rw [List.map_map] at m
    obtain ⟨y, hy, e⟩ := List.mem_map.mp m
    have e : nkD y.1 = nkD x.1 := e
    rw [← nkD_inj (isTK_tk (h y (List.mem_cons_of_mem _ hy))) (isTK_tk (h x List.mem_cons_self)) e]
    exact List.mem_map.mpr ⟨y, hy, rfl⟩
theorem ents_nk (P : Program) (w : World) {xs : List (PyData × Addr × Value)} (h : ∀ q ∈ xs, isTK q.1 = true) : (xs.map fun x => (⟨kh x.1, .ref x.2.1, x.2.2⟩ : DictEntry)) = (xs.map kE).map (entryOfKey (nestedKind P w)) := by
  rw [List.map_map]
  refine List.map_congr_left fun q hq => ?_
  show _ = (⟨(nkD q.1).hash w, _, _⟩ : DictEntry)
  rw [nkD_hash w q.1 (isTK_tk (h q hq))]
theorem dic_heap (I : Inv X pins σ H s) {a : Addr} {us : List (PyData × Addr × V)} {ep : Nat} {kvs : List (PV × PV)} (h : H a = some (DicO us ep a)) (b : Atd X.K X.mg H L Z kvs us) :
    us.length ≤ sizeLine ∧ (a == sysModules) = false ∧ (us.map (·.1)).Nodup ∧ ∃ xs : List (PyData × Addr × Value), Paired (fun (p : PyData × Addr × V) (q : PyData × Addr × Value) => p.1 = q.1 ∧ p.2.1 = q.2.1 ∧ RelV p.2.2 q.2.2) us xs ∧
      (∀ q ∈ xs, isTK q.1 = true ∧ (nestedKind X.prog X.w).is s.heap (nkD q.1) q.2.1) ∧ ((xs.map kE).map (·.1)).Nodup ∧
      ∃ o es, s.heap.get? a = some o ∧ o.ExactDict ∧ o.data = .dict es ep ∧ es.toList = (xs.map kE).map (entryOfKey (nestedKind X.prog X.w)) := by
  obtain ⟨⟨z, y, nd, xs, r, o, es, ho, hx, hdat, he⟩, _⟩ := (show ObjOk X.prog X.w H s.heap a (DicO us ep a) from I.hok a _ h)
  have k := pair_mem r
  have ti : ∀ q ∈ xs, isTK q.1 = true ∧ (nestedKind X.prog X.w).is s.heap (nkD q.1) q.2.1 := fun q hq => by
    obtain ⟨p, hp, e1, e2⟩ := k.2 q hq
    rw [← e1, ← e2]
    exact b.is I p hp
  exact ⟨z, y, nd, xs, r, ti, nodup_nk (fun q hq => (ti q hq).1) (by rw [← k.1]; exact nd), o, es, ho, hx, hdat, by rw [he]; exact ents_nk _ _ fun q hq => (ti q hq).1⟩
theorem dicH {a : Addr} {xs : List (PyData × Addr × Value)} {o : Obj} {es : Array DictEntry} {ep : Nat} (h1 : s.heap.get? a = some o) (h2 : o.ExactDict) (h3 : o.data = .dict es ep) (h4 : es.toList = (xs.map kE).map (entryOfKey (nestedKind X.prog X.w)))
    (h5 : ∀ q ∈ xs, isTK q.1 = true ∧ (nestedKind X.prog X.w).is s.heap (nkD q.1) q.2.1) (h6 : ((xs.map kE).map (·.1)).Nodup) : s.heap.DictOfH (nestedKind X.prog X.w) a (xs.map kE) := by
  refine ⟨o, es, ep, h1, h2, h3, h4, fun x hx => ?_, h6⟩
  obtain ⟨q, hq, rfl⟩ := List.mem_map.mp hx
  exact (h5 q hq).2
theorem look_nk {n : NestedKey} : ∀ {kvs : List (PV × PV)} {us : List (PyData × Addr × V)} {xs : List (PyData × Addr × Value)}, Atd X.K X.mg H L Z kvs us → Paired (fun (p : PyData × Addr × V) (q : PyData × Addr × Value) => p.1 = q.1 ∧ p.2.1 = q.2.1 ∧ RelV p.2.2 q.2.2) us xs →
    match dLook kvs n with
    | none => atKey (xs.map kE) n = none
    | some d => ∃ b v w, atKey (xs.map kE) n = some (b, w) ∧ RelV v w ∧ At X.K X.mg H L Z d v
  | _, _, _, .nil, .nil => rfl
  | _, _, _, .cons (k := k) (d := d) (p := p) h0 h1 h2 h3 h4, .cons (b := q) (l₂ := xs) r t => by
    have e : nkOf k = some (nkD p) := nkOf_eq h0 h1
    obtain ⟨r1, r2, r3⟩ := r
    have r1 : p = q.1 := r1
    simp only [dLook, e]
    by_cases z : nkD p = n
    · rw [if_pos (by rw [z])]
      refine ⟨q.2.1, _, q.2.2, ?_, r3, h3⟩
      simp [atKey, kE, ← r1, z]
    · rw [if_neg (fun y => z (Option.some.inj y))]
      have ih := look_nk (n := n) h4 t
      have same : atKey ((q :: xs).map kE) n = atKey (xs.map kE) n := by
        simp [atKey, kE, ← r1, z]
      rw [same]
      exact ih
end
section
variable {P : Program} {w : World} {A : Around} {E : Value → Shared → Prop} {s : Shared} {d a : Addr} {n : NestedKey} {xs : List (NestedKey × Addr × Value)}
theorem cont_dic {Q : Bool → Shared → Prop} (hu : A.units + 64 < cLine) (hk : (nestedKind P w).is s.heap n a) (hd : (d == sysModules) = false) (hm : s.heap.DictOfH (nestedKind P w) d xs) (h : Q (atKey xs n).isSome { s with toks := s.toks + n.draws }) :
    wpAny (model P w) A (contains (.ref d) (.ref a)) Q E s := by
  have room : (nestedKind P w).room A.in1 := by show A.units + 1 + 8 < cLine; omega
  unfold contains; try with_reducible refine wpAny_holding ?_
  refine wpAny_bind (wpAny_specialOf hm.typeIs PySem.slot_dict_contains.lookup ?_); show wpAny _ _ (if (some (Value.builtin "dict.__contains__") == some Value.none) = true then _ else _) _ E s
  rw [if_neg (by rw [beq_builtin_none]; exact Bool.false_ne_true)]; refine wpAny_bind (wpAny_callSpecialUnlessNone?_slot (name := Str.ofString "__contains__") hm.typeIs PySem.slot_dict_contains (wpAny_call_entry PySem.slot_dict_contains hm.typeIs PySem.entry_dict_contains ?_ (PySem.args_dict_contains _ _)))
  show wpAny _ _ (dictGet d (.ref a) >>= _) _ _ s; refine wpAny_bind (wpAny_dictGet_heap room hk hm ?_)
  cases hf : atKey xs n with
  | some p =>
    rw [hf] at h; show wpAny _ _ (ret (.bool true)) _ _ _
    exact wpAny_pure ⟨_, rfl, wpAny_truthy_bool h⟩
  | none =>
    rw [hf] at h; show wpAny _ _ (Builtin.Dict.pendingKey? d (.ref a) >>= _) _ _ _
    refine wpAny_bind (wpAny_pendingKey_other hd (wpAny_pure ⟨_, rfl, wpAny_truthy_bool h⟩))
end
def vInD (neg : Bool) (d e : PV) (S : Store) : Res PV := match nkOf d, dicOf S e with
  | some n, some kvs => .ok (.bl (if neg then !(dLook kvs n).isSome else (dLook kvs n).isSome)) S
  | _, _ => .bad
section
variable {X : Cx} {W : WX}
theorem dop_inD_core {pins : List (Addr × Obj)} {s : Shared} {σ : L2.St} {H : Hp} {S : Store} {L Z : List Addr} {d e : PV} {x y : V} {u v : Value} {n : NestedKey} {kvs : List (PV × PV)} {Q : Bool → Shared → Prop} (h64 : X.A.units + 64 < cLine) (I : Inv X pins σ H s) (st : Sta X.K X.mg H L Z S) (a1 : At X.K X.mg H L Z d x) (a2 : At X.K X.mg H L Z e y) (r1 : RelV x u) (r2 : RelV y v)
    (hn : nkOf d = some n) (hk : dicOf S e = some kvs) (h : ∀ t, Q (dLook kvs n).isSome { s with toks := t }) : wpAny (model X.prog X.w) X.A (contains v u) Q X.xe s := by
  obtain ⟨q, rfl, rfl, ik⟩ := At.nk I a1 r1 hn
  obtain ⟨a, us, ep, rfl, ha, b⟩ := dic_at st a2 hk
  cases r2
  obtain ⟨z, y, nd, xs, r, ti, nd2, o, es, ho, hx, hdat, he⟩ := dic_heap I ha b
  have lk := look_nk (n := n) b r
  refine cont_dic h64 ik y (dicH ho hx hdat he ti nd2) ?_
  have e : (atKey (xs.map kE) n).isSome = (dLook kvs n).isSome := by
    cases hl : dLook kvs n with
    | none => rw [hl] at lk; rw [lk]; rfl
    | some d => rw [hl] at lk; obtain ⟨_, _, _, e, _⟩ := lk; rw [e]; rfl
  rw [e]
  exact h _
theorem dop_ninD (h64 : X.A.units + 64 < cLine) : DOp X W (compareOp .NotIn) (vInD true) := by
  intro pins s σ H S L Z Q d e x y u v I st a1 a2 r1 r2 p
  unfold vInD at p
  cases hn : nkOf d with
  | none => rw [hn] at p; exact p.elim
  | some n =>
    cases hk : dicOf S e with
    | none => rw [hn, hk] at p; exact p.elim
    | some kvs =>
      rw [hn, hk] at p
      show wpAny _ _ (do return Value.bool (!(← contains v u))) _ _ s
      refine wpAny_bind (dop_inD_core h64 I st a1 a2 r1 r2 hn hk fun t => wpAny_pure ⟨.bl _, H, I.tok t, rfl, post_val p st (.bl _)⟩)
def vIxC (d e : PV) (S : Store) : Res PV := match dicOf S d, nkOf e with
  | some kvs, some n => (match dLook kvs n with
    | some z => .ok z S
    | none => .bad)
  | _, _ => .bad
theorem De.ixC {a b : Expr} {fa fb : EM} {pos : Pos} (hu : X.A.units + 64 < cLine) (ha : De X W a fa) (hb : De X W b fb) (hs : NoSl b := by exact fun _ _ => rfl) : De X W (.Subscript a b pos) (eBin vIxC fa fb) := by
  refine Jd.mk ?_
  intro pins s σ H r S L Z Q I sl st p
  refine subD_of (T := "dict") PySem.F.slot_dict_getitem.lookup hs (ha.step I sl st p fun d S1 x u s1 H1 L1 I1 r1 sl1 st1 x1 a1 p1 => ?_)
  refine hb.step I1 sl1 st1 p1 fun e S2 y v s2 H2 L2 I2 r2 sl2 st2 x2 a2 p2 => ?_
  have a1 := a1.mono x2
  unfold vIxC at p2
  cases hk : dicOf S2 d with
  | none => rw [hk] at p2; exact p2.elim
  | some kvs =>
    cases hn : nkOf e with
    | none => rw [hk, hn] at p2; exact p2.elim
    | some n =>
      rw [hk, hn] at p2
      simp only at p2
      cases hl : dLook kvs n with
      | none => rw [hl] at p2; exact p2.elim
      | some z =>
        rw [hl] at p2
        obtain ⟨q, rfl, rfl, ik⟩ := At.nk I2 a2 r2 hn
        obtain ⟨a, us, ep, rfl, hq, b⟩ := dic_at st2 a1 hk
        cases r1
        obtain ⟨zz, y, nd, xs, r, ti, nd2, o, es, ho, hx, hdat, he⟩ := dic_heap I2 hq b
        have lk := look_nk (n := n) b r
        rw [hl] at lk
        obtain ⟨b2, v2, w2, e2, rv, av⟩ := lk
        have D := dicH ho hx hdat he ti nd2
        exact ⟨D.typeIs, wpAny_getItem_heap (p := (b2, w2)) (by show X.A.units + 1 + 8 < cLine; omega) ik D e2 ⟨v2, H2, I2.tok _, rv, post_val p2 st2 av⟩⟩
def putIxC (o i d : PV) (r : Env1) (S : Store) : Res Fl := match o with
  | .loc k => (match S[k]? with
    | some (.dic kvs ep) => (match nkOf i with
      | some n => if kvs.length < sizeLine then (if (dLook kvs n).isSome = true then .ok (.nx r) (S.set k (.dic (dRep kvs n d) ep)) else .ok (.nx r) (S.set k (.dic (kvs ++ [(i, d)]) (ep + 1)))) else .bad
      | none => .bad)
    | _ => .bad)
  | _ => .bad
def sPutC (o i v : EM) : SM := fun r S => (v r S).bind fun d S1 => (o r S1).bind fun x S2 => (i r S2).bind fun y S3 => putIxC x y d r S3
end
section
variable {P : Program} {w : World} {A : Around} {E : Value → Shared → Prop} {s : Shared} {d a : Addr} {n : NestedKey} {xs : List (NestedKey × Addr × Value)} {v : Value} {o : Obj} {es : Array DictEntry} {ep : Nat}
theorem dset_ep {Q : Unit → Shared → Prop} (hu : A.units + 16 < cLine) (hk : (nestedKind P w).is s.heap n a) (ho : s.heap.get? d = some o) (hx : o.ExactDict) (hd : o.data = .dict es ep) (he : es.toList = xs.map (entryOfKey (nestedKind P w))) (hi : ∀ x ∈ xs, (nestedKind P w).is s.heap x.1 x.2.1) (nd : (xs.map (·.1)).Nodup) (hz : xs.length ≤ sizeLine)
    (h1 : atKey xs n = none → ∀ (h' : Heap) (o' : Obj) (es' : Array DictEntry), h'.get? d = some o' → o'.ExactDict → o'.data = .dict es' (ep + 1) → es'.toList = (xs ++ [(n, a, v)]).map (entryOfKey (nestedKind P w)) → Heap.SameBut d s.heap h' → Q () { s with heap := h', toks := s.toks + n.draws })
    (h2 : ∀ p, atKey xs n = some p → ∀ (h' : Heap) (o' : Obj) (es' : Array DictEntry), h'.get? d = some o' → o'.ExactDict → o'.data = .dict es' ep → es'.toList = (xs.map (putAt n v)).map (entryOfKey (nestedKind P w)) → Heap.SameBut d s.heap h' → Q () { s with heap := h', toks := s.toks + n.draws }) :
    wpAny (model P w) A (dictSet d (.ref a) v) Q E s := by
  have room : (nestedKind P w).room A := by show A.units + 8 < cLine; omega
  have hn : es.size = xs.length := size_of_entries he
  unfold dictSet; try with_reducible refine wpAny_holding ?_
  refine wpAny_bind ((nestedKind P w).pyHash room hk ?_); unfold dictSetHashed; try with_reducible refine wpAny_holding ?_
  refine wpAny_bind (wpAny_dictFind_heap (s := { s with toks := s.toks + n.draws }) room hk ho hd he hi nd (fun no => ?_) fun j p hj => ?_)
  · have g : Q () { s with heap := s.heap.update d (Obj.mapDictKeys fun es => es.push ⟨(nestedKind P w).hash n, .ref a, v⟩), toks := s.toks + n.draws } :=
      h1 (atKey_none_of_get no) _ _ _ (Heap.get?_update_self _ ho (Obj.isFreed_of_dict (Obj.data_mapDictKeys hd _))) (hx.mapDictKeys _) (Obj.data_mapDictKeys hd _) (by simp [he, entryOfKey]) (Heap.SameBut.update ..)
    exact wpAny_bind (wpAny_rule (wpAny_updateDictKeys (hz := by omega) (s := { s with toks := s.toks + n.draws }) ho hd g))
  · refine wpAny_bind (wpAny_rule (wpAny_bind (wpAny_updateDict (s := { s with toks := s.toks + n.draws }) ho hd (wpAny_point (h2 _ (atKey_of_get nd hj) _ _ _ (Heap.get?_update_self _ ho (Obj.isFreed_of_dict (Obj.data_mapDict hd _))) (hx.mapDict _) (Obj.data_mapDict hd _) ?_ (Heap.SameBut.update ..))))))
    have q := modify_map_putAt (entryOfKey (nestedKind P w)) (fun e : DictEntry => { e with val := v }) n v (fun _ _ => rfl) nd hj
    rw [← he] at q
    obtain ⟨l⟩ := es
    simpa using q
end
section
variable {P : Program} {w : World} {A : Around} {E : Value → Shared → Prop} {s : Shared} {d a : Addr} {n : NestedKey} {xs : List (NestedKey × Addr × Value)} {v : Value} {o : Obj} {es : Array DictEntry} {ep : Nat}
theorem setItem_ep {Q : Unit → Shared → Prop} (hu : A.units + 64 < cLine) (hk : (nestedKind P w).is s.heap n a) (ho : s.heap.get? d = some o) (hx : o.ExactDict) (hd : o.data = .dict es ep) (he : es.toList = xs.map (entryOfKey (nestedKind P w))) (hi : ∀ x ∈ xs, (nestedKind P w).is s.heap x.1 x.2.1) (nd : (xs.map (·.1)).Nodup) (hz : xs.length ≤ sizeLine)
    (h1 : atKey xs n = none → ∀ (h' : Heap) (o' : Obj) (es' : Array DictEntry), h'.get? d = some o' → o'.ExactDict → o'.data = .dict es' (ep + 1) → es'.toList = (xs ++ [(n, a, v)]).map (entryOfKey (nestedKind P w)) → Heap.SameBut d s.heap h' → Q () { s with heap := h', toks := s.toks + n.draws })
    (h2 : ∀ p, atKey xs n = some p → ∀ (h' : Heap) (o' : Obj) (es' : Array DictEntry), h'.get? d = some o' → o'.ExactDict → o'.data = .dict es' ep → es'.toList = (xs.map (putAt n v)).map (entryOfKey (nestedKind P w)) → Heap.SameBut d s.heap h' → Q () { s with heap := h', toks := s.toks + n.draws }) :
    wpAny (model P w) A (setItem (.ref d) (.ref a) v) Q E s := by
  have ty : s.TypeIs (.ref d) "dict" := ⟨o, ho, hx.1⟩
  unfold setItem; try with_reducible refine wpAny_holding ?_
  refine wpAny_bind (wpAny_sequenceKey ty (by decide) ?_); refine wpAny_bind (wpAny_callSpecial?_slot (name := Str.ofString "__setitem__") ty PySem.slot_dict_setitem (wpAny_call_entry PySem.slot_dict_setitem ty PySem.entry_dict_setitem ?_ (PySem.args_dict_setitem _ _ _)))
  show wpAny _ _ (Builtin.Dict.notOrdered "__setitem__" ⟨[.ref d, .ref a, v], []⟩ >>= _) _ _ s; refine wpAny_bind (wpAny_notOrdered_dict ty ?_)
  show wpAny _ _ (dictSet d (.ref a) v >>= _) _ _ s
  refine wpAny_bind (dset_ep (A := A.in1) (by show A.units + 1 + 16 < cLine; omega) hk ho hx hd he hi nd hz (fun e h' o' es' b1 b2 b3 b4 b5 => ?_) fun p e h' o' es' b1 b2 b3 b4 b5 => ?_)
  · exact wpAny_pure ⟨.none, rfl, wpAny_pure (h1 e h' o' es' b1 b2 b3 b4 b5)⟩
  · exact wpAny_pure ⟨.none, rfl, wpAny_pure (h2 p e h' o' es' b1 b2 b3 b4 b5)⟩
end
theorem dic_code {P : Program} {w : World} {H : Hp} {h : Heap} {us : List (PyData × Addr × V)} {ep : Nat} {p : Addr} (ok : ObjOk P w H h p (DicO us ep p)) (q : Str) : DicO us ep p ≠ LamX.CodeO p q := fun e => by
  injection e with e
  have d : DicP us ep p h := ok.1
  have c := d
  rw [e] at c
  obtain ⟨oc, vs, t, c1, c2, _⟩ := c
  obtain ⟨_, _, _, _, _, o, es, d1, _, d2, _⟩ := d
  rw [d1] at c1; cases c1
  rw [d2] at c2; cases c2
theorem tab_dic {H : Hp} {P p : Addr} {q : Str} {us : List (PyData × Addr × V)} {ep : Nat} {o' : HO} (t : LamX.TabS H P q) (h : H p = some (DicO us ep p)) (ne : ∀ q, DicO us ep p ≠ LamX.CodeO p q) : LamX.TabS (upd H p o') P q := by
  obtain ⟨ps, h1, h2, h3⟩ := t
  refine ⟨ps, by rw [upd_ne fun z => by rw [z, h] at h1; cases h1]; exact h1, h2, fun pos cv hc => ?_⟩
  obtain ⟨c, e1, e2⟩ := h3 pos cv hc
  refine ⟨c, e1, ?_⟩
  rw [upd_ne fun z => by rw [z, h] at e2; exact ne q (Option.some.inj e2)]
  exact e2
theorem Sta.putD {K : PySem.W.Frag} {mg : Str → Option Value} {H : Hp} {L Z : List Addr} {S : Store} {k : Nat} {p : Addr} {kvs kvs' : List (PV × PV)} {us us' : List (PyData × Addr × V)} {ep ep' : Nat} (st : Sta K mg H L Z S) (e : S[k]? = some (.dic kvs ep)) (hk : L[k]? = some p) (h1 : H p = some (DicO us ep p)) (ne : ∀ q, DicO us ep p ≠ LamX.CodeO p q) (a : Atd K mg H L Z kvs' us') :
    Ext H L (upd H p (DicO us' ep' p)) L ∧ Sta K mg (upd H p (DicO us' ep' p)) L Z (S.set k (.dic kvs' ep')) := by
  have hp : p ∈ L := List.mem_of_getElem? hk
  have x : Ext H L (upd H p (DicO us' ep' p)) L := by
    refine ⟨⟨[], by simp, fun _ h => nomatch h⟩, fun b u h hm _ => ?_, fun b u h => ?_⟩
    · by_cases hb : b = p
      · subst hb; rw [h1] at h; cases h; exact absurd trivial (hm hp)
      · rw [upd_ne hb]; exact h
    · by_cases hb : b = p
      · subst hb; exact ⟨_, upd_same⟩
      · exact ⟨u, by rw [upd_ne hb]; exact h⟩
  refine ⟨x, st.nd, by simp [st.len], fun i c b h2 h3 => ?_, fun b h => ?_, st.dj, fun p' hp' => tab_dic (st.tabs p' hp') h1 ne⟩
  · by_cases hi : k = i
    · subst hi
      rw [hk] at h3; cases h3
      have hl : k < S.length := (List.getElem?_eq_some_iff.mp e).1
      rw [List.getElem?_set_self hl] at h2; cases h2
      exact ⟨us', upd_same, a.mono x⟩
    · rw [List.getElem?_set_ne hi] at h2
      have hb : b ≠ p := fun z => by
        subst z
        obtain ⟨n1, e1⟩ := List.getElem?_eq_some_iff.mp hk
        obtain ⟨n2, e2⟩ := List.getElem?_eq_some_iff.mp h3
        exact hi ((List.getElem_inj st.nd).mp (e1.trans e2.symm))
      exact (st.cells i c b h2 h3).mono x (by rw [upd_ne hb])
  · obtain ⟨u, hu⟩ := st.zt b h
    by_cases hb : b = p
    · subst hb; exact ⟨_, upd_same⟩
    · exact ⟨u, by rw [upd_ne hb]; exact hu⟩
def uRep (us : List (PyData × Addr × V)) (n : NestedKey) (x : V) : List (PyData × Addr × V) := us.map fun u => if nkD u.1 = n then (u.1, u.2.1, x) else u
theorem uRep_keys (us : List (PyData × Addr × V)) (n : NestedKey) (x : V) : (uRep us n x).map (·.1) = us.map (·.1) := by
  unfold uRep
  rw [List.map_map]
  refine List.map_congr_left fun q _ => ?_
  show (if nkD q.1 = n then (q.1, q.2.1, x) else q).1 = q.1
  by_cases h : nkD q.1 = n <;> simp [h]
section
variable {K : PySem.W.Frag} {mg : Str → Option Value} {H : Hp} {L Z : List Addr}
theorem Atd.rep {n : NestedKey} {d : PV} {x : V} (a : At K mg H L Z d x) : ∀ {kvs : List (PV × PV)} {us : List (PyData × Addr × V)}, Atd K mg H L Z kvs us → Atd K mg H L Z (dRep kvs n d) (uRep us n x)
  | _, _, .nil => .nil
  | _, _, .cons (k := k) (d := d2) (p := p) (b := b) (v := v) (ds := ds) (vs := vs) h0 h1 h2 h3 h4 => by
    have e : nkOf k = some (nkD p) := nkOf_eq h0 h1
    have ih := Atd.rep (n := n) a h4
    show Atd K mg H L Z ((if nkOf k = some n then (k, d) else (k, d2)) :: dRep ds n d) ((if nkD p = n then (p, b, x) else (p, b, v)) :: uRep vs n x)
    by_cases z : nkD p = n
    · rw [if_pos (by rw [e, z]), if_pos z]
      exact .cons h0 h1 h2 a ih
    · rw [if_neg (fun y => z (by rw [e] at y; exact Option.some.inj y)), if_neg z]
      exact .cons h0 h1 h2 h3 ih
theorem Atd.app {k d : PV} {p : PyData} {b : Addr} {x : V} (h0 : data0 k = some p) (h1 : isTK p = true) (h2 : At K mg H L Z k (.ref b)) (h3 : At K mg H L Z d x) : ∀ {kvs : List (PV × PV)} {us : List (PyData × Addr × V)}, Atd K mg H L Z kvs us → Atd K mg H L Z (kvs ++ [(k, d)]) (us ++ [(p, b, x)])
  | _, _, .nil => .cons h0 h1 h2 h3 .nil
  | _, _, .cons q0 q1 q2 q3 q4 => .cons q0 q1 q2 q3 (Atd.app h0 h1 h2 h3 q4)
end
theorem pair_app {us : List (PyData × Addr × V)} {xs : List (PyData × Addr × Value)} {p : PyData} {b : Addr} {x : V} {v : Value} (h : RelV x v) (r : Paired (fun (p : PyData × Addr × V) (q : PyData × Addr × Value) => p.1 = q.1 ∧ p.2.1 = q.2.1 ∧ RelV p.2.2 q.2.2) us xs) :
    Paired (fun (p : PyData × Addr × V) (q : PyData × Addr × Value) => p.1 = q.1 ∧ p.2.1 = q.2.1 ∧ RelV p.2.2 q.2.2) (us ++ [(p, b, x)]) (xs ++ [(p, b, v)]) := by
  induction r with
  | nil => exact .cons ⟨rfl, rfl, h⟩ .nil
  | cons h0 _ ih => exact .cons h0 ih
def xRep (xs : List (PyData × Addr × Value)) (n : NestedKey) (v : Value) : List (PyData × Addr × Value) := xs.map fun u => if nkD u.1 = n then (u.1, u.2.1, v) else u
theorem xRep_kE (xs : List (PyData × Addr × Value)) (n : NestedKey) (v : Value) : (xRep xs n v).map kE = (xs.map kE).map (putAt n v) := by
  unfold xRep
  rw [List.map_map, List.map_map]
  refine List.map_congr_left fun q _ => ?_
  show kE (if nkD q.1 = n then (q.1, q.2.1, v) else q) = putAt n v (kE q)
  unfold putAt
  by_cases h : nkD q.1 = n <;> simp [h, kE]
theorem pair_rep {us : List (PyData × Addr × V)} {xs : List (PyData × Addr × Value)} {n : NestedKey} {x : V} {v : Value} (h : RelV x v) (r : Paired (fun (p : PyData × Addr × V) (q : PyData × Addr × Value) => p.1 = q.1 ∧ p.2.1 = q.2.1 ∧ RelV p.2.2 q.2.2) us xs) :
    Paired (fun (p : PyData × Addr × V) (q : PyData × Addr × Value) => p.1 = q.1 ∧ p.2.1 = q.2.1 ∧ RelV p.2.2 q.2.2) (uRep us n x) (xRep xs n v) := by
  induction r with
  | nil => exact .nil
  | @cons a b _ _ h0 _ ih =>
    refine .cons ?_ ih
    obtain ⟨e1, e2, e3⟩ := h0
    dsimp only
    rw [e1]
    by_cases z : nkD b.1 = n
    · rw [if_pos z, if_pos z]; exact ⟨rfl, e2, h⟩
    · rw [if_neg z, if_neg z]; exact ⟨e1, e2, e3⟩
theorem key_fresh {n : NestedKey} {p : PyData} (hp : isTK p = true) (e : n = nkD p) : ∀ {kvs : List (PV × PV)} {us : List (PyData × Addr × V)} {K : PySem.W.Frag} {mg : Str → Option Value} {H : Hp} {L Z : List Addr}, Atd K mg H L Z kvs us → dLook kvs n = none → p ∉ us.map (·.1)
  | _, _, _, _, _, _, _, .nil, _ => by simp
  | _, _, _, _, _, _, _, .cons (k := k) (p := q) h0 h1 h2 h3 h4, hl => by
    have e2 : nkOf k = some (nkD q) := nkOf_eq h0 h1
    simp only [dLook, e2] at hl
    by_cases z : nkD q = n
    · rw [if_pos (by rw [z])] at hl; cases hl
    · rw [if_neg (fun y => z (Option.some.inj y))] at hl
      have := key_fresh hp e h4 hl
      rw [List.map_cons, List.mem_cons, not_or]
      exact ⟨fun y => z (by rw [e, show p = q from y]), this⟩
section
variable {X : Cx} {V' : XK}
theorem DS.putC {o i e : Expr} {fo fi fv : EM} {tpos pos : Pos} (hu : X.A.units + 64 < cLine) (hv : De X (kW V') e fv) (ho : De X (kW V') o fo) (hi : De X (kW V') i fi) (hs : swapsWithSole [.Subscript o i tpos] e pos.line X.env = pure false := by rfl) (hw : swappedStores [.Subscript o i tpos] e X.env = pure none := by rfl)
    (h1 : (assignEach [.Subscript o i tpos] X.env).map (·.2) = [assign (.Subscript o i tpos) X.env] := by rfl)
    (ha : ∀ v, assign (.Subscript o i tpos) X.env v = (do
      let ov ← holding [v] (eval o X.env)
      let iv ← holding [v, ov] (eval i X.env)
      standAt tpos
      holding [v, ov, iv] (setItem ov iv v)
      release [v, ov, iv] []) := by intro _; rfl) : DS X V' (.Assign [.Subscript o i tpos] e pos) (sPutC fo fi fv) := by
  refine Jd.mk ?_
  intro pins s σ H r S L Z D I sl st p
  refine wpAny_Assign_stores (hv.stepS I sl st p fun d S1 x u s1 H1 L1 I1 r1 sl1 st1 x1 a1 p1 => ?_) hs hw
  rw [h1]
  show wpAny _ _ (assign (.Subscript o i tpos) X.env u) _ _ _
  rw [ha]
  refine wpAny_bind (wpAny_holding (ho.stepS I1 sl1 st1 p1 fun y S2 yv ov s2 H2 L2 I2 r2 sl2 st2 x2 a2 p2 => ?_))
  refine wpAny_bind (wpAny_holding (hi.stepS I2 sl2 st2 p2 fun z S3 zv iv s3 H3 L3 I3 r3 sl3 st3 x3 a3 p3 => ?_))
  refine wpAny_bind (wpAny_standAt (wpAny_bind (wpAny_holding ?_)))
  have a1 := (a1.mono x2).mono x3
  have a2 := a2.mono x3
  unfold putIxC at p3
  cases y with
  | loc k =>
    cases hc : S3[k]? with
    | none => simp only [hc] at p3; exact p3.elim
    | some cl =>
      cases cl with
      | lst ds => simp only [hc] at p3; exact p3.elim
      | ins nm fs => simp only [hc] at p3; exact p3.elim
      | set ks => simp only [hc] at p3; exact p3.elim
      | dic kvs ep =>
        simp only [hc] at p3
        cases hn : nkOf z with
        | none => simp only [hn] at p3; exact p3.elim
        | some n =>
          simp only [hn] at p3
          by_cases hz : kvs.length < sizeLine
          · rw [if_pos hz] at p3
            cases a2 with
            | @loc q _ hk =>
              obtain ⟨us, hq, b⟩ := st3.cells k _ _ hc hk
              have ok := I3.hok _ _ hq
              obtain ⟨c, rfl, rfl, ik⟩ := At.nk I3 a3 r3 hn
              obtain ⟨zz, y, nd, xs, r, ti, nd2, o, es, ho, hx, hdat, he⟩ := dic_heap I3 hq b
              have lk := look_nk (n := n) b r
              have pm := pair_mem r
              have hlen : us.length = xs.length := by
                have := congrArg List.length pm.1
                simpa using this
              cases r2
              have lz := atd_len b
              refine setItem_ep (xs := xs.map kE) hu ik ho hx hdat he (fun w hw => ?_) nd2 (by rw [List.length_map, ← hlen]; exact zz) (fun e1 h' o' es' b1 b2 b3 b4 b5 => ?_) fun pp e1 h' o' es' b1 b2 b3 b4 b5 => ?_
              · obtain ⟨q2, hq2, rfl⟩ := List.mem_map.mp hw
                exact (ti q2 hq2).2
              · cases hl : dLook kvs n with
                | some d2 => rw [hl] at lk; obtain ⟨_, _, _, e2, _⟩ := lk; rw [e1] at e2; cases e2
                | none =>
                  rw [hl] at p3
                  obtain ⟨pd, d1, d2, d3⟩ := nkOf_of hn
                  have bA := b.app d1 d2 a3 a1
                  obtain ⟨x4, st4⟩ := st3.putD (us' := us ++ [(pd, c, x)]) (ep' := ep + 1) hc hk hq (dic_code ok) bA
                  have new : DicP (us ++ [(pd, c, x)]) (ep + 1) q h' := by
                    refine ⟨by rw [List.length_append]; show us.length + 1 ≤ _; omega, y, ?_, xs ++ [(pd, c, u)], pair_app r1 r, o', es', b1, b2, b3, ?_⟩
                    · rw [List.map_append, List.nodup_append]
                      refine ⟨nd, by simp, fun w hw v hv => ?_⟩
                      have hv : v = pd := by simpa using hv
                      rw [hv]
                      exact fun e => key_fresh d2 d3 b hl (e ▸ hw)
                    · rw [b4, ents_nk X.prog X.w (fun w hw => ?_)]
                      · rw [d3]; simp [kE]
                      · rcases List.mem_append.mp hw with z | z
                        · exact (ti w z).1
                        · have z : w = (pd, c, u) := by simpa using z
                          rw [z]; exact d2
                  have I4 := d_write (t' := s3.toks + n.draws) (ob := DicO (us ++ [(pd, c, x)]) (ep + 1) q) I3 (by rw [hq]; exact True.intro) b5 ⟨_, b1⟩ (dicO_ok new)
                  exact wpAny_release ⟨σ, _, I4, p3 σ _ L3 x4 (sl3.mono x4) st4⟩
              · cases hl : dLook kvs n with
                | none => rw [hl] at lk; rw [lk] at e1; cases e1
                | some d2 =>
                  rw [hl] at p3
                  obtain ⟨x4, st4⟩ := st3.putD (us' := uRep us n x) (ep' := ep) hc hk hq (dic_code ok) (b.rep (n := n) a1)
                  have new : DicP (uRep us n x) ep q h' := by
                    refine ⟨by unfold uRep; rw [List.length_map]; exact zz, y, by rw [uRep_keys]; exact nd, xRep xs n u, pair_rep r1 r, o', es', b1, b2, b3, ?_⟩
                    rw [b4, ents_nk X.prog X.w (fun w hw => ?_), xRep_kE]
                    unfold xRep at hw
                    obtain ⟨q2, hq2, e⟩ := List.mem_map.mp hw
                    rw [← e]
                    by_cases zq : nkD q2.1 = n
                    · rw [if_pos zq]; exact (ti q2 hq2).1
                    · rw [if_neg zq]; exact (ti q2 hq2).1
                  have I4 := d_write (t' := s3.toks + n.draws) (ob := DicO (uRep us n x) ep q) I3 (by rw [hq]; exact True.intro) b5 ⟨_, b1⟩ (dicO_ok new)
                  exact wpAny_release ⟨σ, _, I4, p3 σ _ L3 x4 (sl3.mono x4) st4⟩
          · rw [if_neg hz] at p3; exact p3.elim
  | _ => exact (show False from p3).elim
end
end Dn
namespace Dn
open PySem PySem.Spec PyProof.Rows L2
def dat (d : PV) : PyData := (data0 d).getD .none
def tkd (d : PV) : Bool := match data0 d with
  | some p => tk p && decide (p.depth ≤ 6)
  | none => false
def tkds (ds : List PV) : Bool := ds.all tkd
theorem tkd_of {d : PV} (h : tkd d = true) : data0 d = some (dat d) ∧ tk (dat d) = true ∧ (dat d).depth ≤ 6 := by
  unfold tkd at h
  unfold dat
  cases e : data0 d with
  | none => rw [e] at h; cases h
  | some p =>
    rw [e] at h
    simp only [Bool.and_eq_true, decide_eq_true_eq] at h
    exact ⟨rfl, h.1, h.2⟩
mutual
theorem data0_inj : ∀ {d e : PV} {p : PyData}, data0 d = some p → data0 e = some p → d = e
  | .non, e, p, h, g => by simp only [data0, Option.some.injEq] at h; subst h; exact data0_non g
  | .bl b, e, p, h, g => by simp only [data0, Option.some.injEq] at h; subst h; exact data0_bl g
  | .int i, e, p, h, g => by simp only [data0, Option.some.injEq] at h; subst h; exact data0_int g
  | .str x, e, p, h, g => by simp only [data0, Option.some.injEq] at h; subst h; exact data0_str g
  | .tup xs, e, p, h, g => by
    simp only [data0, Option.map_eq_some_iff] at h
    obtain ⟨ps, h1, rfl⟩ := h
    obtain ⟨ys, rfl, h2⟩ := data0_tup g
    rw [data0s_inj h1 h2]
  | .lst xs, e, p, h, g => by
    simp only [data0, Option.map_eq_some_iff] at h
    obtain ⟨ps, h1, rfl⟩ := h
    obtain ⟨ys, rfl, h2⟩ := data0_lst g
    rw [data0s_inj h1 h2]
  | .obj _ _, _, _, h, _ => by simp [data0] at h
  | .loc _, _, _, h, _ => by simp [data0] at h
  | .scr _, _, _, h, _ => by simp [data0] at h
  | .ty _, _, _, h, _ => by simp [data0] at h
  | .cls _, _, _, h, _ => by simp [data0] at h
  | .exc _, _, _, h, _ => by simp [data0] at h
  | .dic _, _, _, h, _ => by simp [data0] at h
  | .dik _, _, _, h, _ => by simp [data0] at h
  | .tub _, _, _, h, _ => by simp [data0] at h
theorem data0s_inj : ∀ {d e : List PV} {p : List PyData}, data0s d = some p → data0s e = some p → d = e
  | [], [], _, _, _ => rfl
  | [], y :: ys, p, h, g => by
    simp only [data0s, Option.some.injEq] at h; subst h
    simp only [data0s, Option.bind_eq_some_iff, Option.map_eq_some_iff] at g
    obtain ⟨_, _, _, _, g⟩ := g
    cases g
  | x :: xs, [], p, h, g => by
    simp only [data0s, Option.some.injEq] at g; subst g
    simp only [data0s, Option.bind_eq_some_iff, Option.map_eq_some_iff] at h
    obtain ⟨_, _, _, _, h⟩ := h
    cases h
  | x :: xs, y :: ys, p, h, g => by
    simp only [data0s, Option.bind_eq_some_iff, Option.map_eq_some_iff] at h g
    obtain ⟨a, h1, b, h2, rfl⟩ := h
    obtain ⟨a', g1, b', g2, g⟩ := g
    cases g
    rw [data0_inj h1 g1, data0s_inj h2 g2]
theorem data0_non {e : PV} (h : data0 e = some .none) : PV.non = e := by
  cases e <;> simp [data0] at h <;> rfl
theorem data0_bl {e : PV} {b : Bool} (h : data0 e = some (.bool b)) : PV.bl b = e := by
  cases e <;> simp [data0] at h <;> rw [h]
theorem data0_int {e : PV} {b : Int} (h : data0 e = some (.int b)) : PV.int b = e := by
  cases e <;> simp [data0] at h <;> rw [h]
theorem data0_str {e : PV} {b : Str} (h : data0 e = some (.str b)) : PV.str b = e := by
  cases e <;> simp [data0] at h <;> rw [h]
theorem data0_tup {e : PV} {ps : List PyData} (h : data0 e = some (.tuple ps)) : ∃ ys, e = .tup ys ∧ data0s ys = some ps := by
  cases e <;> simp [data0] at h
  exact ⟨_, rfl, h⟩
theorem data0_lst {e : PV} {ps : List PyData} (h : data0 e = some (.list ps)) : ∃ ys, e = .lst ys ∧ data0s ys = some ps := by
  cases e <;> simp [data0] at h
  exact ⟨_, rfl, h⟩
end
theorem dat_inj {d e : PV} (h1 : tkd d = true) (h2 : tkd e = true) (h : dat d = dat e) : d = e := data0_inj (tkd_of h1).1 (by rw [h]; exact (tkd_of h2).1)
mutual
theorem tk_plain : ∀ {p : PyData}, tk p = true → p.plain = true
  | .int _, _ => rfl
  | .tuple xs, h => by simp only [tk] at h; simp only [PyData.plain]; exact tks_plain h
  | .none, h => by simp [tk] at h
  | .bool _, h => by simp [tk] at h
  | .str _, h => by simp [tk] at h
  | .list _, h => by simp [tk] at h
  | .dict _, h => by simp [tk] at h
theorem tks_plain : ∀ {p : List PyData}, tks p = true → PyData.plainAll p = true
  | [], _ => rfl
  | x :: xs, h => by
    simp only [tks, Bool.and_eq_true] at h
    simp only [PyData.plainAll, tk_plain h.1, tks_plain h.2, Bool.and_self]
end
mutual
theorem tk_eqv : ∀ {p q : PyData}, tk p = true → tk q = true → PyData.eqv p q = true → p = q
  | .int i, .int j, _, _, h => by simp [PyData.eqv] at h; rw [h]
  | .tuple xs, .tuple ys, h1, h2, h => by
    simp only [tk] at h1 h2
    simp only [PyData.eqv] at h
    rw [tks_eqv h1 h2 h]
  | .int _, .tuple _, _, _, h => by simp [PyData.eqv] at h
  | .tuple _, .int _, _, _, h => by simp [PyData.eqv] at h
  | .none, _, h, _, _ => by simp [tk] at h
  | .bool _, _, h, _, _ => by simp [tk] at h
  | .str _, _, h, _, _ => by simp [tk] at h
  | .list _, _, h, _, _ => by simp [tk] at h
  | .dict _, _, h, _, _ => by simp [tk] at h
  | _, .none, _, h, _ => by simp [tk] at h
  | _, .bool _, _, h, _ => by simp [tk] at h
  | _, .str _, _, h, _ => by simp [tk] at h
  | _, .list _, _, h, _ => by simp [tk] at h
  | _, .dict _, _, h, _ => by simp [tk] at h
theorem tks_eqv : ∀ {p q : List PyData}, tks p = true → tks q = true → PyData.eqvAll p q = true → p = q
  | [], [], _, _, _ => rfl
  | x :: xs, y :: ys, h1, h2, h => by
    simp only [tks, Bool.and_eq_true] at h1 h2
    simp only [PyData.eqvAll, Bool.and_eq_true] at h
    rw [tk_eqv h1.1 h2.1 h.1, tks_eqv h1.2 h2.2 h.2]
  | [], _ :: _, _, _, h => by simp [PyData.eqvAll] at h
  | _ :: _, [], _, _, h => by simp [PyData.eqvAll] at h
end
noncomputable def decPV : DecidableEq PV := fun a b => Classical.propDecidable (a = b)
noncomputable def pIn (d : PV) (xs : List PV) : Bool := @decide (d ∈ xs) (Classical.propDecidable _)
theorem pIn_iff {d : PV} {xs : List PV} : pIn d xs = true ↔ d ∈ xs := by
  unfold pIn
  exact @decide_eq_true_iff _ (Classical.propDecidable _)
noncomputable def pIdx (d : PV) (xs : List PV) : Nat := @List.idxOf PV (@instBEqOfDecidableEq PV decPV) d xs
theorem depth_all {d : PV} : ∀ {xs : List PV}, tkds xs = true → PyData.depthAll (xs.map dat) ≤ 6
  | [], _ => by simp [PyData.depthAll]
  | x :: xs, h => by
    simp only [tkds, List.all_cons, Bool.and_eq_true] at h
    have ih := depth_all (d := d) (xs := xs) h.2
    have := (tkd_of h.1).2.2
    simp only [List.map_cons, PyData.depthAll]
    omega
section
variable {X : Cx} {W : WX} {pins : List (Addr × Obj)} {s : Shared} {σ : L2.St} {H : Hp} {L Z : List Addr} {S : Store}
theorem At.reads (I : Inv X pins σ H s) {d : PV} {v : V} {u : Value} (a : At X.K X.mg H L Z d v) (r : RelV v u) (h : tkd d = true) : ∃ as, Reads s.heap u (dat d) as :=
  (dp_of a (tkd_of h).1).reads I _ _ _ r
theorem Ats.reads (I : Inv X pins σ H s) : ∀ {ds : List PV} {vs : List V} {us : List Value}, Ats X.K X.mg H L Z ds vs → Vals vs us → tkds ds = true → ∃ as, ReadsAll s.heap us (ds.map dat) as
  | _, _, _, .nil, .nil, _ => ⟨_, .nil⟩
  | _, _, _, .cons (d := d) (ds := ds) a as, .cons r rs, h => by
    simp only [tkds, List.all_cons, Bool.and_eq_true] at h
    obtain ⟨z, h1⟩ := At.reads I a r h.1
    obtain ⟨zs, h2⟩ := Ats.reads I as rs h.2
    exact ⟨_, .cons h1 h2⟩
theorem seq_reads (I : Inv X pins σ H s) (st : Sta X.K X.mg H L Z S) {d : PV} {v : V} {u : Value} {ds : List PV} (a : At X.K X.mg H L Z d v) (r : RelV v u) (h : seqOf S d = some ds) (ht : tkds ds = true) :
    ∃ q vs its as, u = .ref q ∧ Ats X.K X.mg H L Z ds vs ∧ Vals vs its ∧ ReadsAll s.heap its (ds.map dat) as ∧ vs.length ≤ sizeLine ∧ ((∃ o n, s.heap.get? q = some o ∧ o.cls = .type "list" ∧ o.data = .seq its.toArray n) ∨ ∃ o n, s.heap.get? q = some o ∧ o.cls = .type "tuple" ∧ o.data = .seq its.toArray n) := by
  obtain ⟨q, vs, rfl, hq, b⟩ := seq_at st a h
  cases r
  rcases hq with hq | hq
  · obtain ⟨its, rv, ⟨o, n, ho, hc, hd, hs⟩, hz⟩ := I.list hq
    obtain ⟨as, h2⟩ := b.reads I rv ht
    exact ⟨q, vs, its, as, rfl, b, rv, h2, hz, .inl ⟨o, n, ho, hc, hs⟩⟩
  · obtain ⟨its, rv, ⟨o, ho, hc, n, hd⟩, hz⟩ := I.tuple hq
    obtain ⟨as, h2⟩ := b.reads I rv ht
    exact ⟨q, vs, its, as, rfl, b, rv, h2, hz, .inr ⟨o, n, ho, hc, hd⟩⟩
noncomputable def vIndexA (o : PV) (ds : List PV) (S : Store) : Res PV := match ds with
  | [d] => (match lstOf S o with
    | some xs => if (tkd d = true ∧ tkds xs = true) ∧ pIn d xs = true then .ok (.int (pIdx d xs)) S else .bad
    | none => .bad)
  | _ => .bad
noncomputable def vIndexU (o : PV) (ds : List PV) (S : Store) : Res PV := match o with
  | .tub xs => (match ds with
    | [d] => if (tkd d = true ∧ tkds xs = true) ∧ pIn d xs = true then .ok (.int (pIdx d xs)) S else .bad
    | _ => .bad)
  | _ => .bad
def isU : PV → Bool
  | .tub _ => true
  | _ => false
noncomputable def eIdxU (o : EM) (a : LM) : EM := fun r S => (o r S).bind fun d S1 => if isU d = true then (a r S1).bind fun ds S2 => vIndexU d ds S2 else .bad
def vTupleU : List PV → Store → Res PV := one1 fun d S => match lstOf S d with
  | some xs => .ok (.tub xs) S
  | none => .bad
def loose : PV → PV
  | .tub xs => .tup xs
  | d => d
def eLoose (f : EM) : EM := fun r S => (f r S).bind fun d S1 => .ok (loose d) S1
theorem At.loose {d : PV} {v : V} {K : PySem.W.Frag} {mg : Str → Option Value} (a : At K mg H L Z d v) : At K mg H L Z (Dn.loose d) v := by
  cases a with
  | tub h1 h2 h3 => exact .tup (.inl (.inr ⟨_, h1⟩)) h3
  | non => exact .non
  | bl b => exact .bl b
  | int i => exact .int i
  | str x => exact .str x
  | tup h1 h2 => exact .tup h1 h2
  | lst h1 h2 h3 h4 => exact .lst h1 h2 h3 h4
  | obj h0 h1 h2 h3 h4 => exact .obj h0 h1 h2 h3 h4
  | loc h => exact .loc h
  | scr h1 h2 h3 => exact .scr h1 h2 h3
  | scrk h => exact .scrk h
  | ty n => exact .ty n
  | cls h => exact .cls h
  | exc h0 h1 h2 h3 h4 h5 => exact .exc h0 h1 h2 h3 h4 h5
  | dic h1 h2 h3 h4 => exact .dic h1 h2 h3 h4
  | dik h1 h2 h3 h4 => exact .dik h1 h2 h3 h4
theorem De.loose {e : Expr} {f : EM} (h : De X W e f) : De X W e (eLoose f) := by
  refine Jd.mk ?_
  intro pins s σ H r S L Z Q I sl st p
  refine h.step I sl st p fun d S1 x u s1 H1 L1 I1 r1 sl1 st1 x1 a1 p1 => ?_
  exact ⟨x, H1, I1, r1, post_val (show PostV X W σ Z (.ok (Dn.loose d) S1) H1 L1 Q from p1) st1 a1.loose⟩
def alikes (xs : List PV) : Bool := xs.all fun a => xs.all fun b => PySem.W.alike (dat a) (dat b)
noncomputable def pMin (x : PV) (xs : List PV) : PV := xs.foldl (fun a y => if PySem.W.dataLt (dat y) (dat a) then y else a) x
noncomputable def pMax (x : PV) (xs : List PV) : PV := xs.foldl (fun a y => if PySem.W.dataLt (dat a) (dat y) then y else a) x
theorem pMin_dat : ∀ (xs : List PV) (x : PV), dat (pMin x xs) = PySem.W.minD (dat x) (xs.map dat)
  | [], x => rfl
  | y :: ys, x => by
    have := pMin_dat ys (if PySem.W.dataLt (dat y) (dat x) then y else x)
    unfold pMin PySem.W.minD at this ⊢
    rw [List.foldl_cons, List.map_cons, List.foldl_cons, this]
    congr 1
    split <;> rfl
theorem pMax_dat : ∀ (xs : List PV) (x : PV), dat (pMax x xs) = PySem.W.maxD (dat x) (xs.map dat)
  | [], x => rfl
  | y :: ys, x => by
    have := pMax_dat ys (if PySem.W.dataLt (dat x) (dat y) then y else x)
    unfold pMax PySem.W.maxD at this ⊢
    rw [List.foldl_cons, List.map_cons, List.foldl_cons, this]
    congr 1
    split <;> rfl
theorem pMin_mem : ∀ (xs : List PV) (x : PV), pMin x xs ∈ x :: xs
  | [], x => by simp [pMin]
  | y :: ys, x => by
    have := pMin_mem ys (if PySem.W.dataLt (dat y) (dat x) then y else x)
    have e : pMin x (y :: ys) = pMin (if PySem.W.dataLt (dat y) (dat x) then y else x) ys := rfl
    rw [e]
    rcases List.mem_cons.mp this with h | h
    · rw [h]; split <;> simp
    · simp [h]
theorem pMax_mem : ∀ (xs : List PV) (x : PV), pMax x xs ∈ x :: xs
  | [], x => by simp [pMax]
  | y :: ys, x => by
    have := pMax_mem ys (if PySem.W.dataLt (dat x) (dat y) then y else x)
    have e : pMax x (y :: ys) = pMax (if PySem.W.dataLt (dat x) (dat y) then y else x) ys := rfl
    rw [e]
    rcases List.mem_cons.mp this with h | h
    · rw [h]; split <;> simp
    · simp [h]
noncomputable def vMinA : List PV → Store → Res PV := one1 fun d S => match seqOf S d with
  | some (x :: xs) => if tkds (x :: xs) = true ∧ alikes (x :: xs) = true then .ok (pMin x xs) S else .bad
  | _ => .bad
noncomputable def vMaxA : List PV → Store → Res PV := one1 fun d S => match seqOf S d with
  | some (x :: xs) => if tkds (x :: xs) = true ∧ alikes (x :: xs) = true then .ok (pMax x xs) S else .bad
  | _ => .bad
theorem alikes_all {xs : List PV} (ht : tkds xs = true) (h : alikes xs = true) : PySem.W.AlikeAll (xs.map dat) := by
  refine ⟨fun a ha b hb => ?_, fun a ha e => ?_⟩
  · obtain ⟨x, hx, rfl⟩ := List.mem_map.mp ha
    obtain ⟨y, hy, rfl⟩ := List.mem_map.mp hb
    exact List.all_eq_true.mp (List.all_eq_true.mp h x hx) y hy
  · obtain ⟨x, hx, rfl⟩ := List.mem_map.mp ha
    have := (tkd_of (List.all_eq_true.mp ht x hx)).2.1
    rw [e] at this; cases this
theorem item_at (I : Inv X pins σ H s) {xs : List PV} {vs : List V} {its : List Value} {m : PV} {i : Nat} {u : Value} {h' : Heap} {bs : List Addr} (b : Ats X.K X.mg H L Z xs vs) (rv : Vals vs its) (ht : tkds xs = true) (ha : alikes xs = true) (hm : m ∈ xs) (hu : its[i]? = some u)
    (rm : Reads h' u (dat m) bs) (k : ∀ b o, s.heap.get? b = some o → h'.get? b = some o) : ∃ w, RelV w u ∧ At X.K X.mg H L Z m w := by
  have hi := (List.getElem?_eq_some_iff.mp hu).1
  have hi2 : i < xs.length := by rw [b.len, rv.length]; exact hi
  obtain ⟨w, hw, aw⟩ := b.get (List.getElem?_eq_getElem hi2)
  obtain ⟨z, hz, rz⟩ := rv.get hw
  rw [hu] at hz; cases hz
  have hx : xs[i] ∈ xs := List.getElem_mem _
  have tx := List.all_eq_true.mp ht _ hx
  have tm := List.all_eq_true.mp ht _ hm
  obtain ⟨cs, rx⟩ := At.reads I aw rz tx
  have e := PySem.W.alike_unique _ _ _ _ _ (List.all_eq_true.mp (List.all_eq_true.mp ha _ hx) _ hm) (PySem.W.reads_keeps k rx) rm
  have e2 : xs[i] = m := dat_inj tx tm e
  rw [e2] at aw
  exact ⟨w, rz, aw⟩
theorem dc_minA (hc : X.calm = true) (h64 : X.A.units + 64 < cLine) : DC X W (.builtin "min") vMinA := by
  intro pins s σ H S L Z Q ds zs us I st a r p
  match ds, a, p with
  | [d], a, p =>
    obtain ⟨v, rfl, a'⟩ := a.one
    obtain ⟨u, rfl, ru⟩ := vals1 r
    replace p : PostV X W σ Z (match seqOf S d with
      | some (x :: xs) => if tkds (x :: xs) = true ∧ alikes (x :: xs) = true then .ok (pMin x xs) S else .bad
      | _ => .bad) H L Q := p
    cases h : seqOf S d with
    | none => rw [h] at p; exact p.elim
    | some ys =>
      rw [h] at p
      cases ys with
      | nil => exact p.elim
      | cons x xs =>
        replace p : PostV X W σ Z (if tkds (x :: xs) = true ∧ alikes (x :: xs) = true then .ok (pMin x xs) S else .bad) H L Q := p
        by_cases ht : tkds (x :: xs) = true ∧ alikes (x :: xs) = true
        · rw [if_pos ht] at p
          obtain ⟨q, vs, its, as, rfl, b, rv, rs, hz, hcl⟩ := seq_reads I st a' ru h ht.1
          have hd : PyData.depthAll (dat x :: xs.map dat) ≤ 6 := depth_all (d := x) ht.1
          have fin : ∀ (i : Nat) (w : Value) (h' : Heap) (tk : Tok) (bs : List Addr), its.toArray[i]? = some w → Reads h' w (PySem.W.minD (dat x) (xs.map dat)) bs → (∀ b o, s.heap.get? b = some o → h'.get? b = some o) → EP X pins σ Q w { s with heap := h', toks := tk } := fun i w h' tk bs hi hr hk => by
            rw [← pMin_dat] at hr
            obtain ⟨z, rz, az⟩ := item_at I b rv ht.1 ht.2 (pMin_mem xs x) (by simpa using hi) hr hk
            exact ⟨z, H, I.kept hk, rz, post_val p st az⟩
          rcases hcl with ⟨o, n, ho, hcl, hd2⟩ | ⟨o, n, ho, hcl, hd2⟩
          · exact PySem.W.min_list_data (I.ok.hd hc) ⟨o, ho, hcl, n, hd2⟩ (by simpa using rs) (alikes_all ht.1 ht.2) (by omega) fin
          · exact PySem.W.min_tuple_data (I.ok.hd hc) ⟨o, ho, hcl, n, hd2⟩ (by simpa using rs) (alikes_all ht.1 ht.2) (by omega) fin
        · rw [if_neg ht] at p; exact p.elim
  | [], _, p => exact p.elim
  | _ :: _ :: _, _, p => exact p.elim
theorem dc_maxA (hc : X.calm = true) (h64 : X.A.units + 64 < cLine) : DC X W (.builtin "max") vMaxA := by
  intro pins s σ H S L Z Q ds zs us I st a r p
  match ds, a, p with
  | [d], a, p =>
    obtain ⟨v, rfl, a'⟩ := a.one
    obtain ⟨u, rfl, ru⟩ := vals1 r
    replace p : PostV X W σ Z (match seqOf S d with
      | some (x :: xs) => if tkds (x :: xs) = true ∧ alikes (x :: xs) = true then .ok (pMax x xs) S else .bad
      | _ => .bad) H L Q := p
    cases h : seqOf S d with
    | none => rw [h] at p; exact p.elim
    | some ys =>
      rw [h] at p
      cases ys with
      | nil => exact p.elim
      | cons x xs =>
        replace p : PostV X W σ Z (if tkds (x :: xs) = true ∧ alikes (x :: xs) = true then .ok (pMax x xs) S else .bad) H L Q := p
        by_cases ht : tkds (x :: xs) = true ∧ alikes (x :: xs) = true
        · rw [if_pos ht] at p
          obtain ⟨q, vs, its, as, rfl, b, rv, rs, hz, hcl⟩ := seq_reads I st a' ru h ht.1
          have hd : PyData.depthAll (dat x :: xs.map dat) ≤ 6 := depth_all (d := x) ht.1
          have fin : ∀ (i : Nat) (w : Value) (h' : Heap) (tk : Tok) (bs : List Addr), its.toArray[i]? = some w → Reads h' w (PySem.W.maxD (dat x) (xs.map dat)) bs → (∀ b o, s.heap.get? b = some o → h'.get? b = some o) → EP X pins σ Q w { s with heap := h', toks := tk } := fun i w h' tk bs hi hr hk => by
            rw [← pMax_dat] at hr
            obtain ⟨z, rz, az⟩ := item_at I b rv ht.1 ht.2 (pMax_mem xs x) (by simpa using hi) hr hk
            exact ⟨z, H, I.kept hk, rz, post_val p st az⟩
          rcases hcl with ⟨o, n, ho, hcl, hd2⟩ | ⟨o, n, ho, hcl, hd2⟩
          · exact PySem.W.max_list_data (I.ok.hd hc) ⟨o, ho, hcl, n, hd2⟩ (by simpa using rs) (alikes_all ht.1 ht.2) (by omega) fin
          · exact PySem.W.max_tuple_data (I.ok.hd hc) ⟨o, ho, hcl, n, hd2⟩ (by simpa using rs) (alikes_all ht.1 ht.2) (by omega) fin
        · rw [if_neg ht] at p; exact p.elim
  | [], _, p => exact p.elim
  | _ :: _ :: _, _, p => exact p.elim
def rows (xs : List PV) : Bool := xs.all fun d => match dat d with
  | .tuple (_ :: _) => true
  | _ => false
noncomputable def pSort (xs : List PV) : List PV := xs.mergeSort (PySem.W.dataLe false dat)
noncomputable def vSorted : List PV → Store → Res PV := one1 fun d S => match lstOf S d with
  | some xs => if (tkds xs = true ∧ alikes xs = true) ∧ rows xs = true then .ok (.lst (pSort xs)) S else .bad
  | none => .bad
end
end Dn
namespace Dn
open PySem PySem.Spec PyProof.Rows L2
def eCelD : EM := fun _ S => .ok (.loc S.length) (S ++ [.dic [] 0])
theorem dic_empty {P : Program} {w : World} {H : Hp} (h : Heap) (hb : sysModules < h.objs.size) : ObjOk P w H (h.push { cls := .type "dict", data := .dict #[] }) h.objs.size (DicO [] 0 h.objs.size) :=
  dicO_ok ⟨Nat.zero_le _, beq_eq_false_iff_ne.mpr (Ne.symm (Nat.ne_of_lt hb)), List.nodup_nil, [], .nil, _, #[], Heap.get?_push_size _ rfl, ⟨rfl, rfl, rfl⟩, rfl, rfl⟩
section
variable {X : Cx} {W : WX} {K : PySem.W.Frag} {mg : Str → Option Value} {H : Hp} {L Z : List Addr} {S : Store} {p : Addr}
theorem Sta.newD {us : List (PyData × Addr × V)} {kvs : List (PV × PV)} {ep : Nat} (st : Sta K mg H L Z S) (n : H p = none) (a : Atd K mg H L Z kvs us) : Sta K mg (upd H p (DicO us ep p)) (L ++ [p]) Z (S ++ [.dic kvs ep]) := by
  have x : Ext H L (upd H p (DicO us ep p)) (L ++ [p]) := Ext.own n
  have l := st.laid (o := DicO us ep p) n
  refine ⟨?_, by simp [st.len], fun i c b h1 h2 => ?_, l.zt, fun b hb => ?_, l.tabs⟩
  · rw [List.nodup_append]
    exact ⟨st.nd, by simp, fun b hb c hc => by simp at hc; subst hc; exact fun z => (st.fresh n).1 (z ▸ hb)⟩
  · by_cases hi : i < S.length
    · rw [List.getElem?_append_left hi] at h1
      rw [List.getElem?_append_left (by rw [← st.len]; exact hi)] at h2
      obtain ⟨u, hu⟩ := st.has (List.mem_of_getElem? h2)
      exact (st.cells i c b h1 h2).mono x (by rw [upd_ne (ne_of_none hu n)])
    · have hi' : i = S.length := by
        have := (List.getElem?_eq_some_iff.mp h1).1
        simp at this; omega
      subst hi'
      rw [List.getElem?_append_right (Nat.le_refl _)] at h1
      rw [st.len, List.getElem?_append_right (Nat.le_refl _)] at h2
      simp at h1 h2
      subst h1 h2
      exact ⟨us, upd_same, a.mono x⟩
  · rcases List.mem_append.mp hb with h | h
    · exact st.dj b h
    · simp at h; subst h; exact (st.fresh n).2
theorem De.celD {pos : Pos} : De X W (.Dict [] [] pos) eCelD := by
  refine Jd.mk ?_
  intro pins s σ H r S L Z Q I sl st p
  have n := I.hok.fresh (Nat.le_refl s.heap.objs.size)
  exact wpAny_Dict_empty ⟨.ref s.heap.objs.size, _, I.laid (a := s.heap.objs.size) (o := DicO [] 0 s.heap.objs.size) (t' := s.toks) (fun _ _ q => Heap.get?_push_of_some _ q) (Nat.le_refl _) (dic_empty s.heap I.big), rfl,
    (show PostV X W σ Z (.ok (.loc S.length) (S ++ [.dic [] 0])) H L Q from p) _ _ (L ++ [s.heap.objs.size]) (Ext.own n) (st.newD n .nil) (.loc (by rw [st.len, List.getElem?_append_right (Nat.le_refl _)]; simp))⟩
end
end Dn
namespace Dn
open PySem PySem.Spec PyProof.Rows L2
noncomputable def walkC (b : Env1 → Store → Res Unit) (g : GM) (t : BM) (c : Src) (r0 : Env1) : List PV → Store → Res Unit
  | [], S => open Classical in if c.there S then .ok () S else .bad
  | d :: ds, S => open Classical in if c.there S then (match g d r0 with
    | some r1 => (okOnly (t r1 S)).bind fun k S1 => if k = true then (okOnly (b r1 S1)).bind fun _ S2 => walkC b g t c r0 ds S2
        else walkC b g t c r0 ds S1
    | none => .bad) else .bad
theorem walkC_noerr {b : Env1 → Store → Res Unit} {g : GM} {t : BM} {c : Src} {r0 : Env1} : ∀ (l : List PV) (S : Store) (cl : Str) (S2 : Store), walkC b g t c r0 l S ≠ .err cl S2 := by
  intro l
  induction l with
  | nil => intro S cl S2; unfold walkC; split <;> (intro z; cases z)
  | cons d ds ih =>
    intro S cl S2
    unfold walkC
    split
    · cases g d r0 with
      | none => intro z; cases z
      | some r1 =>
        dsimp only
        cases t r1 S with
        | bad => intro z; cases z
        | err _ _ => intro z; cases z
        | ok k S3 =>
          simp only [okOnly_ok, Res.bind_ok]
          cases k with
          | false => exact ih S3 cl S2
          | true =>
            simp only [if_true]
            cases b r1 S3 with
            | bad => intro z; cases z
            | err _ _ => intro z; cases z
            | ok v S4 =>
              simp only [okOnly_ok, Res.bind_ok]
              exact ih S4 cl S2
    · intro z; cases z
def addL (k0 : Nat) (v : PV) (S : Store) : Res Unit := match S[k0]? with
  | some (.lst acc) => if acc.length < sizeLine then .ok () (S.set k0 (.lst (acc ++ [v]))) else .bad
  | _ => .bad
def putL (k0 : Nat) (f : EM) (r : Env1) (S : Store) : Res Unit := (okOnly (f r S)).bind fun v S1 => addL k0 v S1
noncomputable def innL (k0 : Nat) (i1 : IM) (g1 : GM) (t1 : BM) (f : EM) (vs1 : List Nat) (r : Env1) (S : Store) : Res Unit :=
  (okOnly (i1 r S)).bind fun c1 S2 => if c1.ds.length ≤ sizeLine then walkC (putL k0 f) g1 t1 c1 (wipeE r vs1) c1.ds S2 else .bad
noncomputable def eComp2 (own vs1 : List Nat) (i : IM) (g : GM) (t : BM) (i1 : IM) (g1 : GM) (t1 : BM) (f : EM) : EM := fun r S => (i r S).bind fun c S1 => if c.ds.length ≤ sizeLine then
  (walkC (innL S1.length i1 g1 t1 f vs1) g t c (wipeE r own) c.ds (S1 ++ [.lst []])).bind fun _ S2 => .ok (.loc S1.length) S2 else .bad
section
variable {X : Cx} {W : WX} {own : List (Str × Nat)} {vs1 : List Nat} {i i1 : IM} {g g1 : GM} {t t1 : BM} {f : EM}
theorem Ext.get {H H' : Hp} {L L' : List Addr} (x : Ext H L H' L') {k : Nat} {a : Addr} (h : L[k]? = some a) : L'[k]? = some a := by
  obtain ⟨new, e, _⟩ := x.pre
  rw [e, List.getElem?_append_left (List.getElem?_eq_some_iff.mp h).1]; exact h
theorem lc_rdC {σ : L2.St} {H : Hp} {r : Env1} {S : Store} {L Z : List Addr} {Q : VK} (sl : Slots X.K X.mg H L Z r σ) (st : Sta X.K X.mg H L Z S) (p : PostV X W σ Z (eComp2 (own.map (·.2)) vs1 i g t i1 g1 t1 f r S) H L Q) :
    tLc2 (rdI X W i) (rdG X (own.map (·.2)) g) (rdT X (kW WN) t) (rdI X (kW WN) i1) (rdG X vs1 g1) (rdT X (kW WN) t1) (rdE X (kW WN) f) (own.map (·.2)) vs1 σ H Q := by
  refine ⟨r, S, L, Z, sl, st, ?_⟩
  unfold eComp2 at p
  cases q : i r S with
  | bad => rw [q] at p; exact p.elim
  | err c S1 => rw [q] at p; exact p
  | ok c S1 =>
    rw [q] at p
    replace p : PostV X W σ Z (if c.ds.length ≤ sizeLine then (walkC (innL S1.length i1 g1 t1 f vs1) g t c (wipeE r (own.map (·.2))) c.ds (S1 ++ [.lst []])).bind fun _ S2 => .ok (.loc S1.length) S2 else .bad) H L Q := p
    by_cases hz : c.ds.length ≤ sizeLine
    rotate_left
    · rw [if_neg hz] at p; exact p.elim
    rw [if_pos hz] at p
    intro J H0 L0 x0 st0 y D hD
    generalize hRR : wipeE r (own.map (·.2)) = RR at p
    have hk0 : S1.length = L0.length := st0.len
    have xb : Ext H0 L0 (upd H0 D (.lst [])) (L0 ++ [D]) := Ext.own hD
    have stb := st0.new (ds := []) hD .nil
    have kb : (L0 ++ [D])[S1.length]? = some D := by rw [hk0]; simp
    have slb := ((sl.mono (x0.trans xb)).wipe (own.map (·.2)))
    rw [hRR] at slb
    generalize hHb : upd H0 D (.lst []) = Hb at xb stb slb
    generalize L0 ++ [D] = Lb at xb stb kb slb
    -- what a walk's rest must give
    refine ⟨fun k m H' => ∃ S' L', k + m = c.ds.length ∧ Ext Hb Lb H' L' ∧ Sta X.K X.mg H' L' Z S' ∧
        ∃ res : Res Unit, walkC (innL S1.length i1 g1 t1 f vs1) g t c RR (c.ds.drop k) S' = res ∧ (match res with
          | .ok _ S2 => PostV X W σ Z (.ok (.loc S1.length) S2) H L Q
          | _ => False), ⟨c.ds.length, S1 ++ [.lst []], Lb, Nat.zero_add _, Ext.refl _ _, stb, _, rfl, ?_⟩, ?_⟩
    · rw [List.drop_zero]
      cases q2 : walkC (innL S1.length i1 g1 t1 f vs1) g t c RR c.ds (S1 ++ [.lst []]) with
      | ok u S2 => rw [q2] at p; exact p
      | err cl S2 => exact (walkC_noerr _ _ _ _ q2).elim
      | bad => rw [q2] at p; exact p
    · rintro k m H1 ⟨S2, L1, hm, x1, st1, res, hres, pr⟩
      have there : c.there S2 := by
        refine Classical.byContradiction fun z => ?_
        cases hd : c.ds.drop k with
        | nil => rw [hd] at hres; unfold walkC at hres; rw [if_neg z] at hres; subst hres; exact pr
        | cons d ds => rw [hd] at hres; unfold walkC at hres; rw [if_neg z] at hres; subst hres; exact pr
      have x01 := xb.trans x1
      cases m with
      | zero =>
        have hk : k = c.ds.length := by omega
        subst hk
        rw [List.drop_length] at hres
        unfold walkC at hres
        rw [if_pos there] at hres
        subst hres
        exact .inl ⟨y.stop H1 L1 S2 x01 st1 there, pr (.ref D) H1 L1 (x0.trans x01) st1 (.loc (x1.get kb))⟩
      | succ m =>
        have hk : k < c.ds.length := by omega
        rw [List.drop_eq_getElem_cons hk] at hres
        unfold walkC at hres
        rw [if_pos there] at hres
        refine .inr ⟨y.go k H1 L1 S2 x01 st1 there hk, fun H' => ∃ S' L', Ext Hb Lb H' L' ∧ Sta X.K X.mg H' L' Z S' ∧
          ∃ res : Res Unit, walkC (innL S1.length i1 g1 t1 f vs1) g t c RR (c.ds.drop (k + 1)) S' = res ∧ (match res with
          | .ok _ S2 => PostV X W σ Z (.ok (.loc S1.length) S2) H L Q
          | _ => False), fun H' ⟨S', L', b1, b4, b6⟩ => ⟨m, Nat.lt_succ_self m, S', L', by omega, b1, b4, b6⟩, fun v H2 yv => ?_⟩
        obtain ⟨d, hd, x2, st2, a2⟩ := y.yld [] k H1 L1 S2 v H2 (fun q hq => nomatch hq) x01 st1 there yv hk
        rw [List.nil_append] at st2 a2
        have hd' : c.ds[k] = d := by
          rw [List.getElem?_eq_getElem hk] at hd; exact Option.some.inj hd
        rw [hd'] at hres
        have x12 := x1.trans x2
        cases hg' : g d RR with
        | none => simp only [hg'] at hres; subst hres; exact pr.elim
        | some r1 =>
          simp only [hg'] at hres
          refine ⟨RR, r1, S2, L1, Z, d, slb.mono x12, st2, a2, hg', fun σ3 H3 L3 chg x3 sl3 st3 => ⟨wipe_chg chg, r1, S2, L3, Z, sl3, st3, ?_⟩⟩
          cases qt : t r1 S2 with
          | bad => rw [qt] at hres; subst hres; exact pr.elim
          | err _ _ => rw [qt] at hres; subst hres; exact pr.elim
          | ok kb' S3 =>
            rw [qt] at hres
            simp only [okOnly_ok, Res.bind_ok] at hres
            intro kb'' H4 L4 x4 st4 e4
            have e4 : kb' = kb'' := e4
            subst e4
            have x34 := x3.trans x4
            cases kb' with
            | false =>
              rw [if_neg Bool.false_ne_true] at hres ⊢
              exact ⟨S3, L4, x12.trans x34, st4, res, hres, pr⟩
            | true =>
              rw [if_pos rfl] at hres ⊢
              have sl4 := sl3.mono x4
              refine ⟨r1, S3, L4, Z, sl4, st4, ?_⟩
              unfold innL at hres
              cases qi : i1 r1 S3 with
              | bad => rw [qi] at hres; subst hres; exact pr.elim
              | err _ _ => rw [qi] at hres; subst hres; exact pr.elim
              | ok c1 S4 =>
                rw [qi] at hres
                simp only [okOnly_ok, Res.bind_ok] at hres
                by_cases hz1 : c1.ds.length ≤ sizeLine
                rotate_left
                · rw [if_neg hz1] at hres; subst hres; exact pr.elim
                rw [if_pos hz1] at hres
                intro J1 H5 L5 x5 st5 y1
                have x05 := (x12.trans x34).trans x5
                generalize hR1 : wipeE r1 vs1 = R1 at hres
                have sl5 : Slots X.K X.mg H5 L5 Z R1 (wipe σ3 vs1) := by rw [← hR1]; exact (sl4.mono x5).wipe vs1
                -- the inner walk
                refine ⟨fun j n H' => ∃ S' L', j + n = c1.ds.length ∧ Ext H5 L5 H' L' ∧ Sta X.K X.mg H' L' Z S' ∧
                    ∃ res1 : Res Unit, walkC (putL S1.length f) g1 t1 c1 R1 (c1.ds.drop j) S' = res1 ∧ (match res1 with
                      | .ok _ S6 => ∃ res2 : Res Unit, walkC (innL S1.length i1 g1 t1 f vs1) g t c RR (c.ds.drop (k + 1)) S6 = res2 ∧ (match res2 with
                        | .ok _ S2 => PostV X W σ Z (.ok (.loc S1.length) S2) H L Q
                        | _ => False)
                      | _ => False), ⟨c1.ds.length, S4, L5, Nat.zero_add _, Ext.refl _ _, st5, _, rfl, ?_⟩, ?_⟩
                · rw [List.drop_zero]
                  cases q2 : walkC (putL S1.length f) g1 t1 c1 R1 c1.ds S4 with
                  | ok u S6 => rw [q2] at hres; exact ⟨res, hres, pr⟩
                  | err cl S6 => exact (walkC_noerr _ _ _ _ q2).elim
                  | bad => rw [q2] at hres; subst hres; exact pr
                · rintro j n H6 ⟨S6, L6, hn, x6, st6, res1, hres1, pr1⟩
                  have there1 : c1.there S6 := by
                    refine Classical.byContradiction fun z => ?_
                    cases hd : c1.ds.drop j with
                    | nil => rw [hd] at hres1; unfold walkC at hres1; rw [if_neg z] at hres1; subst hres1; exact pr1
                    | cons d ds => rw [hd] at hres1; unfold walkC at hres1; rw [if_neg z] at hres1; subst hres1; exact pr1
                  cases n with
                  | zero =>
                    have hj : j = c1.ds.length := by omega
                    subst hj
                    rw [List.drop_length] at hres1
                    unfold walkC at hres1
                    rw [if_pos there1] at hres1
                    subst hres1
                    exact .inl ⟨y1.stop H6 L6 S6 x6 st6 there1, S6, L6, x05.trans x6, st6, pr1⟩
                  | succ n =>
                    have hj : j < c1.ds.length := by omega
                    rw [List.drop_eq_getElem_cons hj] at hres1
                    unfold walkC at hres1
                    rw [if_pos there1] at hres1
                    refine .inr ⟨y1.go j H6 L6 S6 x6 st6 there1 hj, fun H' => ∃ S' L', Ext H5 L5 H' L' ∧ Sta X.K X.mg H' L' Z S' ∧
                      ∃ res1 : Res Unit, walkC (putL S1.length f) g1 t1 c1 R1 (c1.ds.drop (j + 1)) S' = res1 ∧ (match res1 with
                      | .ok _ S6 => ∃ res2 : Res Unit, walkC (innL S1.length i1 g1 t1 f vs1) g t c RR (c.ds.drop (k + 1)) S6 = res2 ∧ (match res2 with
                        | .ok _ S2 => PostV X W σ Z (.ok (.loc S1.length) S2) H L Q
                        | _ => False)
                      | _ => False), fun H' ⟨S', L', b1, b4, b6⟩ => ⟨n, Nat.lt_succ_self n, S', L', by omega, b1, b4, b6⟩, fun v1 H7 yv1 => ?_⟩
                    obtain ⟨d1, hd1, x7, st7, a7⟩ := y1.yld [] j H6 L6 S6 v1 H7 (fun q hq => nomatch hq) x6 st6 there1 yv1 hj
                    rw [List.nil_append] at st7 a7
                    have hd1' : c1.ds[j] = d1 := by
                      rw [List.getElem?_eq_getElem hj] at hd1; exact Option.some.inj hd1
                    rw [hd1'] at hres1
                    have x67 := x6.trans x7
                    cases hg1 : g1 d1 R1 with
                    | none => simp only [hg1] at hres1; subst hres1; exact pr1.elim
                    | some r2 =>
                      simp only [hg1] at hres1
                      refine ⟨R1, r2, S6, L6, Z, d1, sl5.mono x67, st7, a7, hg1, fun σ4 H8 L8 chg1 x8 sl8 st8 => ⟨wipe_chg chg1, r2, S6, L8, Z, sl8, st8, ?_⟩⟩
                      cases qt1 : t1 r2 S6 with
                      | bad => rw [qt1] at hres1; subst hres1; exact pr1.elim
                      | err _ _ => rw [qt1] at hres1; subst hres1; exact pr1.elim
                      | ok kc S7 =>
                        rw [qt1] at hres1
                        simp only [okOnly_ok, Res.bind_ok] at hres1
                        intro kc' H9 L9 x9 st9 e9
                        have e9 : kc = kc' := e9
                        subst e9
                        have x89 := x8.trans x9
                        cases kc with
                        | false =>
                          rw [if_neg Bool.false_ne_true] at hres1 ⊢
                          exact ⟨S7, L9, x67.trans x89, st9, res1, hres1, pr1⟩
                        | true =>
                          rw [if_pos rfl] at hres1 ⊢
                          refine ⟨r2, S7, L9, Z, sl8.mono x9, st9, ?_⟩
                          unfold putL at hres1
                          cases qf : f r2 S7 with
                          | bad => rw [qf] at hres1; subst hres1; exact pr1.elim
                          | err _ _ => rw [qf] at hres1; subst hres1; exact pr1.elim
                          | ok w S8 =>
                            rw [qf] at hres1
                            simp only [okOnly_ok, Res.bind_ok] at hres1
                            intro yv HA LA xA stA aA
                            unfold addL at hres1
                            cases qc : S8[S1.length]? with
                            | none => rw [qc] at hres1; subst hres1; exact pr1.elim
                            | some cl =>
                              rw [qc] at hres1
                              cases cl with
                              | lst acc =>
                                dsimp only at hres1
                                by_cases hza : acc.length < sizeLine
                                rotate_left
                                · rw [if_neg hza] at hres1; subst hres1; exact pr1.elim
                                rw [if_pos hza] at hres1
                                simp only [okOnly_ok, Res.bind_ok] at hres1
                                have xall := (x05.trans (x67.trans (x89.trans xA)))
                                have kA : LA[S1.length]? = some D := xall.get kb
                                obtain ⟨vs, hv, hats⟩ := stA.cells _ _ _ qc kA
                                obtain ⟨xN, stN⟩ := stA.put (ds' := acc ++ [w]) (vs' := vs ++ [yv]) qc kA (hats.append (.cons aA .nil))
                                exact ⟨vs, hv, by rw [← hats.len]; exact hza, _, LA, (x67.trans (x89.trans xA)).trans xN, stN, res1, hres1, pr1⟩
                              | ins _ _ => subst hres1; exact pr1.elim
                              | dic _ _ => subst hres1; exact pr1.elim
                              | set _ => subst hres1; exact pr1.elim
end
theorem DI.piB {X : Cx} {W : WX} {tg iter : Expr} {f : IM} {s0 : Shared} {H0 : Hp} {scope : Scope} {ce : Env} {fp : List Addr} (h : DI (X.blk s0 H0 scope ce fp) W tg iter f) : PI (X.blk s0 H0 scope ce fp) tg iter (rdI X W f) := ⟨fun pins s σ H R I ⟨r, S, L, Z, sl, st, p⟩ => by
  refine h.out pins s σ H r S L Z R I sl st ?_
  cases q : f r S with
  | bad => rw [q] at p; exact p.elim
  | err c S1 => rw [q] at p; exact p
  | ok c S1 =>
    rw [q] at p
    exact fun J H' L' x st' y => p J H' L' x st' ⟨y.go, y.stop, y.yld⟩⟩
section
variable {X : Cx} {W : WX} {tg iter elt tg1 iter1 : Expr} {ifs ifs1 : List Expr} {scope : Scope} {own : List (Str × Nat)} {vs1 : List Nat} {pos : Pos} {i i1 : IM} {g g1 : GM} {t t1 : BM} {f : EM}
variable (hc : X.calm = true) (hN : X.N.Nodup) (hi : DI X W tg iter i) (ok : BlkOk X.N X.env.scope scope own) (hvs : ∀ i ∈ vs1, i ∈ own.map (·.2))
    (hg : ∀ (s : Shared) (H : Hp) (C : Addr) (cl : List (Str × Addr)) (fp : List Addr), DG (X.blk s H scope (compEnvC scope cl C X.env) fp) (kW WN) (own.map (·.2)) tg g)
    (ht : ∀ (s : Shared) (H : Hp) (C : Addr) (cl : List (Str × Addr)) (fp : List Addr), DTs (X.blk s H scope (compEnvC scope cl C X.env) fp) (kW WN) ifs t)
    (hi1 : ∀ (s : Shared) (H : Hp) (C : Addr) (cl : List (Str × Addr)) (fp : List Addr), DI (X.blk s H scope (compEnvC scope cl C X.env) fp) (kW WN) tg1 iter1 i1)
    (hg1 : ∀ (s : Shared) (H : Hp) (C : Addr) (cl : List (Str × Addr)) (fp : List Addr), DG (X.blk s H scope (compEnvC scope cl C X.env) fp) (kW WN) vs1 tg1 g1)
    (ht1 : ∀ (s : Shared) (H : Hp) (C : Addr) (cl : List (Str × Addr)) (fp : List Addr), DTs (X.blk s H scope (compEnvC scope cl C X.env) fp) (kW WN) ifs1 t1)
    (he : ∀ (s : Shared) (H : Hp) (C : Addr) (cl : List (Str × Addr)) (fp : List Addr), De (X.blk s H scope (compEnvC scope cl C X.env) fp) (kW WN) elt f)
include hc hN hi ok hvs hg ht hi1 hg1 ht1 he
end
section
variable {X : Cx} {W : XK} {tg iter elt tg1 iter1 : Expr} {ifs ifs1 : List Expr} {scope : Scope} {own : List (Str × Nat)} {vs1 : List Nat} {pos spos py : Pos} {i i1 : IM} {g g1 : GM} {t t1 : BM} {f : EM} {j : Nat} {y : Str}
variable (hc : X.calm = true) (hN : X.N.Nodup) (hy : X.N[j]? = some y) (hyl : X.env.scope.names.lookup y = some .local) (hi : DI X (kW W) tg iter i) (ok : BlkOk X.N X.env.scope scope own) (hvs : ∀ i ∈ vs1, i ∈ own.map (·.2))
    (hg : ∀ (s : Shared) (H : Hp) (C : Addr) (cl : List (Str × Addr)) (fp : List Addr), DG (X.blk s H scope (compEnvC scope cl C X.env) fp) (kW WN) (own.map (·.2)) tg g)
    (ht : ∀ (s : Shared) (H : Hp) (C : Addr) (cl : List (Str × Addr)) (fp : List Addr), DTs (X.blk s H scope (compEnvC scope cl C X.env) fp) (kW WN) ifs t)
    (hi1 : ∀ (s : Shared) (H : Hp) (C : Addr) (cl : List (Str × Addr)) (fp : List Addr), DI (X.blk s H scope (compEnvC scope cl C X.env) fp) (kW WN) tg1 iter1 i1)
    (hg1 : ∀ (s : Shared) (H : Hp) (C : Addr) (cl : List (Str × Addr)) (fp : List Addr), DG (X.blk s H scope (compEnvC scope cl C X.env) fp) (kW WN) vs1 tg1 g1)
    (ht1 : ∀ (s : Shared) (H : Hp) (C : Addr) (cl : List (Str × Addr)) (fp : List Addr), DTs (X.blk s H scope (compEnvC scope cl C X.env) fp) (kW WN) ifs1 t1)
    (he : ∀ (s : Shared) (H : Hp) (C : Addr) (cl : List (Str × Addr)) (fp : List Addr), De (X.blk s H scope (compEnvC scope cl C X.env) fp) (kW WN) elt f)
include hc hN hy hyl hi ok hvs hg ht hi1 hg1 ht1 he
theorem DS.setComp2 (hsw : swapsWith (.ListComp elt [⟨tg, iter, ifs, 0⟩, ⟨tg1, iter1, ifs1, 0⟩] scope pos) (some (.Name y py)) spos.line X.env = pure true) (hs : ∀ x, foldedSetIterable iter X.env x = pure x := by intro _; rfl) (hs1 : ∀ env x, foldedSetIterable iter1 env x = pure x := by intro _ _; rfl) :
    DS X W (.Assign [.Name y py] (.ListComp elt [⟨tg, iter, ifs, 0⟩, ⟨tg1, iter1, ifs1, 0⟩] scope pos) spos) (sSet j (eComp2 (own.map (·.2)) vs1 i g t i1 g1 t1 f)) := by
  refine Jd.mk ?_
  intro pins s σ H r S L Z D I sl st p
  refine (ps_setLc2 (g := rdG X (own.map (·.2)) g) (tt := rdT X (kW WN) t) (wi1 := rdI X (kW WN) i1) (g1 := rdG X vs1 g1) (tt1 := rdT X (kW WN) t1) (te := rdE X (kW WN) f) hc hN hy hyl hsw hi.pi ok hvs (fun s H C cl fp => (hg s H C cl fp).pg) ht
    (fun s H C cl fp => (hi1 s H C cl fp).piB) (fun s H C cl fp => (hg1 s H C cl fp).pg) ht1 (fun s H C cl fp => (he s H C cl fp).pe) hs hs1).run pins s σ H D I ?_
  have hj := lt_of_N I hy
  refine lc_rdC (W := kW W) (Q := fun x H1 => gName j x σ H1 D.nx) sl st ?_
  unfold sSet at p
  cases q : eComp2 (own.map (·.2)) vs1 i g t i1 g1 t1 f r S with
  | bad => rw [q] at p; exact p.elim
  | err c S1 => rw [q] at p; exact p
  | ok d S1 =>
    rw [q] at p
    exact fun v H' L' x st' at' => (show PostS X W Z (.ok (.nx (r.set j (some d))) S1) H L D from p) _ _ L' x ((sl.mono x).set at' hj) st'
end
end Dn
namespace Dn
open PySem PySem.Spec PyProof.Rows L2
section
variable {X : Cx} {pins : List (Addr × Obj)} {σ : L2.St} {H : Hp} {s : Shared} {L Z : List Addr}
end
section
variable {X : Cx}
end
def addD (k0 : Nat) (k v : PV) (S : Store) : Res Unit := match S[k0]?, nkOf k with
  | some (.dic kvs ep), some n => if kvs.length < sizeLine ∧ (dLook kvs n).isSome = false then .ok () (S.set k0 (.dic (kvs ++ [(k, v)]) (ep + 1))) else .bad
  | _, _ => .bad
def putE (k0 : Nat) (fk fv : EM) (r : Env1) (S : Store) : Res Unit := (okOnly (fk r S)).bind fun k S1 => (okOnly (fv r S1)).bind fun v S2 => addD k0 k v S2
noncomputable def eCompD (own : List Nat) (i : IM) (g : GM) (t : BM) (fk fv : EM) : EM := fun r S => (i r S).bind fun c S1 => if c.ds.length ≤ sizeLine then
  (walkC (putE S1.length fk fv) g t c (wipeE r own) c.ds (S1 ++ [.dic [] 0])).bind fun _ S2 => .ok (.loc S1.length) S2 else .bad
section
variable {X : Cx} {W : WX} {own : List (Str × Nat)} {i : IM} {g : GM} {t : BM} {fk fv : EM}
end
section
variable {X : Cx} {W : WX} {tg iter kx vx : Expr} {ifs : List Expr} {scope : Scope} {own : List (Str × Nat)} {pos : Pos} {i : IM} {g : GM} {t : BM} {fk fv : EM}
end
end Dn
namespace Dn
open PySem PySem.Spec PyProof.Rows L2
section
variable {X : Cx} {W : WX} {pins : List (Addr × Obj)} {s : Shared} {σ : L2.St} {H : Hp} {L Z : List Addr} {S : Store}
abbrev Trip := Addr × PyData × Addr × V × Value
structure TripOk (X : Cx) (h : Heap) (t : Trip) : Prop where
  pair : PairAt h t.1 (.ref t.2.2.1) t.2.2.2.2
  rel : RelV t.2.2.2.1 t.2.2.2.2
  tk : isTK t.2.1 = true
  nk : (nestedKind X.prog X.w).is h (nkD t.2.1) t.2.2.1
end
end Dn
namespace Dn
open PySem PySem.Spec PyProof.Rows L2
abbrev testsOf (ifs : List Expr) (env : Env) : Sem Bool := forIn ifs true fun c r => if r = true then do let ok ← isTrue c env (eval c env); pure (ForInStep.yield ok) else pure (ForInStep.yield r)
def turnG (posI : Pos) (tg : Expr) (ifs : List Expr) (actK : Sem Fin → Sem Fin) (it : Value) (env : Env) (ag : Sem Fin) : Sem Fin :=
  standAt posI >>= fun _ => pyNext it >>= fun r => match r with
    | none => pure (.done .next)
    | some v => letOwnedTupleGo tg it v >>= fun _ => assign tg env v >>= fun _ => testsOf ifs env >>= fun ok => if ok = true then actK ag else ag
section
variable {prog : Program} {w : World} {A : Around} {R : Result → Shared → Prop} {s : Shared} {elt tg : Expr} {gens : List Comprehension} {ifs : List Expr} {scope : Scope} {pos posI : Pos} {it acc : Value} {env : Env} {actK : Sem Fin → Sem Fin} {d : Nat}
theorem loopG (htr : compTurn (.ListComp elt gens scope pos) d it acc env = turnG posI tg ifs actK it env (again (.compLoop (.ListComp elt gens scope pos) d it acc env))) (J : Nat → Shared → Prop)
    (hturn : ∀ n t, J n t → wpAny (model prog w) A (pyNext it) (fun r t1 => match r with
      | none => R (.ok .next) t1
      | some v => wpAny (model prog w) A (letOwnedTupleGo tg it v) (fun _ t2 => wpAny (model prog w) A (assign tg env v) (fun _ t3 =>
          wpAny (model prog w) A (testsOf ifs env) (fun ok t4 => if ok = true then (∀ (rest : Sem Fin) (P : Fin → Shared → Prop) (E : Value → Shared → Prop), (∀ t5, (∃ m, m < n ∧ J m t5) → wpAny (model prog w) A rest P E t5) → wpAny (model prog w) A (actK rest) P E t4)
            else ∃ m, m < n ∧ J m t4) (fun _ _ => False) t3) (fun _ _ => False) t2) (fun _ _ => False) t1) (fun _ _ => False) t)
    (n : Nat) (h : J n s) : codeAny (model prog w) A (.compLoop (.ListComp elt gens scope pos) d it acc env) R s := by
  refine codeAny_loop rfl J (fun n t hJ => ?_) n h
  show wpAny _ A ((compTurn (.ListComp elt gens scope pos) d it acc env).onRaise (fun x => do noteFrame x env; theTreesLotGoes x)) _ _ t
  refine wpAny_noted ?_
  rw [htr]
  unfold turnG
  refine wpAny_bind (wpAny_standAt (wpAny_bind (thnF (hturn n t hJ) fun r t1 q1 => ?_)))
  cases r with
  | none => exact wpAny_pure q1
  | some v =>
    refine wpAny_bind (thnF q1 fun _ t2 q2 => wpAny_bind (thnF q2 fun _ t3 q3 => wpAny_bind (thnF q3 fun ok t4 q4 => ?_)))
    cases ok with
    | false => exact wpAny_pure ⟨rfl, q4⟩
    | true => exact q4 _ _ _ fun t5 q5 => wpAny_pure ⟨rfl, q5⟩
end
def Act (Y : Cx) (vs : List Nat) (k : Nat) (D : Addr) (actK : Sem Fin → Sem Fin) (b : Env1 → Store → Res Unit) : Prop :=
  ∀ (pins : List (Addr × Obj)) (s : Shared) (σ : L2.St) (H : Hp) (r : Env1) (S : Store) (L Z : List Addr) (Q : Hp → Prop) (rest : Sem Fin) (P : Fin → Shared → Prop) (E : Value → Shared → Prop),
    Inv Y pins σ H s → Slots Y.K Y.mg H L Z r σ → Sta Y.K Y.mg H L Z S → L[k]? = some D →
    (match b r S with | .ok _ S' => ∀ H' L', Ext H L H' L' → Sta Y.K Y.mg H' L' Z S' → Q H' | _ => False) →
    (∀ σ' H' s', Inv Y pins σ' H' s' → Chg vs σ σ' → Q H' → wpAny (model Y.prog Y.w) Y.A rest P E s') → wpAny (model Y.prog Y.w) Y.A (actK rest) P E s
theorem Chg.refl (vs : List Nat) (σ : L2.St) : Chg vs σ σ := ⟨rfl, fun _ _ => rfl⟩
theorem Chg.trans {vs : List Nat} {a b c : L2.St} (h1 : Chg vs a b) (h2 : Chg vs b c) : Chg vs a c := ⟨h2.1.trans h1.1, fun j hj => (h2.2 j hj).trans (h1.2 j hj)⟩
theorem Chg.more {vs ws : List Nat} {a b : L2.St} (h : Chg vs a b) (hs : ∀ i ∈ vs, i ∈ ws) : Chg ws a b := ⟨h.1, fun j hj => h.2 j fun z => hj (hs j z)⟩
theorem Chg.wiped (vs : List Nat) (σ : L2.St) : Chg vs σ (wipe σ vs) := ⟨wipe_length σ vs, fun _ hj => wipe_out hj⟩
section
variable {Y : Cx} {vs : List Nat} {k : Nat} {D : Addr}
theorem Act.app {elt : Expr} {f : EM} (hx : Y.xe = fun _ _ => False) (he : De Y (kW WN) elt f) :
    Act Y vs k D (fun rest => (do let x ← eval elt Y.env; let _ ← call (.builtin "list.append") [.ref D, x]) >>= fun _ => rest) (putL k f) := by
  intro pins s σ H r S L Z Q rest P E I sl st kD p hrest
  unfold putL at p
  cases qf : f r S with
  | bad => rw [qf] at p; exact p.elim
  | err _ _ => rw [qf] at p; exact p.elim
  | ok wv S8 =>
    rw [qf] at p
    simp only [okOnly_ok, Res.bind_ok] at p
    have q := he.out pins s σ H r S L Z (fun v HA => ∃ LA, Ext H L HA LA ∧ Sta Y.K Y.mg HA LA Z S8 ∧ At Y.K Y.mg HA LA Z wv v) I sl st (by rw [qf]; exact fun v H' L' x y z => ⟨L', x, y, z⟩)
    rw [hx] at q
    refine wpAny_bind (wpAny_bind (thnF q fun u t1 ⟨yv, HA, IA, rv, LA, xA, stA, aA⟩ => ?_))
    unfold addL at p
    cases qc : S8[k]? with
    | none => rw [qc] at p; exact p.elim
    | some cl =>
      rw [qc] at p
      cases cl with
      | ins _ _ => exact p.elim
      | dic _ _ => exact p.elim
      | set _ => exact p.elim
      | lst acc =>
        dsimp only at p
        by_cases hza : acc.length < sizeLine
        rotate_left
        · rw [if_neg hza] at p; exact p.elim
        rw [if_pos hza] at p
        have kA : LA[k]? = some D := xA.get kD
        obtain ⟨xs, hv, hats⟩ := stA.cells _ _ _ qc kA
        obtain ⟨xN, stN⟩ := stA.put (ds' := acc ++ [wv]) (vs' := xs ++ [yv]) qc kA (hats.append (.cons aA .nil))
        refine wpAny_bind (app_ok (X := Y) IA hv (by rw [← hats.len]; exact hza) rv fun t2 I2 => ?_)
        exact wpAny_pure (hrest σ _ t2 I2 (.refl _ _) (p _ _ (xA.trans xN) stN))
end
noncomputable def innC (b : Env1 → Store → Res Unit) (i1 : IM) (g1 : GM) (t1 : BM) (vs1 : List Nat) (r : Env1) (S : Store) : Res Unit :=
  (okOnly (i1 r S)).bind fun c1 S2 => if c1.ds.length ≤ sizeLine then walkC b g1 t1 c1 (wipeE r vs1) c1.ds S2 else .bad
section
variable {Y : Cx} {vs vs1 : List Nat} {k : Nat} {D : Addr} {elt tg1 iter1 : Expr} {gens : List Comprehension} {ifs1 : List Expr} {scope : Scope} {pos : Pos} {d : Nat} {actK : Sem Fin → Sem Fin} {b : Env1 → Store → Res Unit} {i1 : IM} {g1 : GM} {t1 : BM}
theorem Act.inner (hx : Y.xe = fun _ _ => False) (hc : Y.calm = true) (hv : ∀ i ∈ vs1, i ∈ vs) (hi : DI Y (kW WN) tg1 iter1 i1) (hg : DG Y (kW WN) vs1 tg1 g1) (ht : DTs Y (kW WN) ifs1 t1) (ha : Act Y vs1 k D actK b) (hs1 : ∀ x, foldedSetIterable iter1 Y.env x = pure x)
    (htr : ∀ it, compTurn (.ListComp elt gens scope pos) d it (.ref D) Y.env = turnG iter1.pos tg1 ifs1 actK it Y.env (again (.compLoop (.ListComp elt gens scope pos) d it (.ref D) Y.env)))
    (hst : ∀ (it : Value) (R : Result → Shared → Prop) (s : Shared), codeAny (model Y.prog Y.w) Y.A (.compLoop (.ListComp elt gens scope pos) d it (.ref D) Y.env) R s →
      wpAny (model Y.prog Y.w) Y.A (pyIter it) (fun it' s' => codeAny (model Y.prog Y.w) Y.A (.compLoop (.ListComp elt gens scope pos) d it' (.ref D) Y.env) R s') (notedBy (model Y.prog Y.w) Y.A Y.env fun x s' => R (.error x) s') s →
      codeAny (model Y.prog Y.w) Y.A (.compStart (.ListComp elt gens scope pos) d it (.ref D) Y.env) R s) :
    Act Y vs k D (fun rest => eval iter1 Y.env >>= fun x => standAt iter1.pos >>= fun _ => foldedSetIterable iter1 Y.env x >>= fun x => holding [x] (pyIter x) >>= fun it => runOwn (.compStart (.ListComp elt gens scope pos) d it (.ref D) Y.env) Y.env >>= fun _ => rest) (innC b i1 g1 t1 vs1) := by
  intro pins s σ H r S L Z Q rest P E I sl st kD p hrest
  unfold innC at p
  cases qi : i1 r S with
  | bad => rw [qi] at p; exact p.elim
  | err _ _ => rw [qi] at p; exact p.elim
  | ok c1 S4 =>
    rw [qi] at p
    simp only [okOnly_ok, Res.bind_ok] at p
    by_cases hz1 : c1.ds.length ≤ sizeLine
    rotate_left
    · rw [if_neg hz1] at p; exact p.elim
    rw [if_pos hz1] at p
    have q := hi.out pins s σ H r S L Z (fun J H' => ∃ L', Ext H L H' L' ∧ Sta Y.K Y.mg H' L' Z S4 ∧ Yld Y Z J H' L' c1) I sl st (by rw [qi]; exact fun J H' L' x y z => ⟨L', x, y, z⟩)
    rw [hx] at q
    refine wpAny_bind (thnF q fun xv t1' hx1 => wpAny_bind (wpAny_standAt (wpAny_bind (wpAny_of_eq (hs1 xv) (wpAny_bind (wpAny_holding (thnF hx1 fun itv t2 h2 => ?_)))))))
    obtain ⟨it1, fp1, tn1, J1, H5, e1, I5, T1, st11, f11, L5, x5, st5, y1⟩ := h2
    subst e1
    generalize hR1 : wipeE r vs1 = R1 at p
    have sl5 : Slots Y.K Y.mg H5 L5 Z R1 (wipe σ vs1) := by rw [← hR1]; exact (sl.mono x5).wipe vs1
    have still : ∀ {H' : Hp}, (∀ a ∈ fp1, H' a = none) → ∀ a ∈ fp1, FpOk Y pins H' a := fun hn a hb => ⟨hn a hb, (f11 a hb).2⟩
    have loop1 : codeAny (model Y.prog Y.w) Y.A (.compLoop (.ListComp elt gens scope pos) d (.ref it1) (.ref D) Y.env)
        (fun r s' => match r with | .ok _ => ∃ σ' H', Inv Y pins σ' H' s' ∧ Chg vs σ σ' ∧ Q H' | .error _ => False) t2 := by
      refine loopG (htr (.ref it1)) (fun n s' => ∃ j H' S' L', j + n = c1.ds.length ∧ Inv Y pins (wipe σ vs1) H' s' ∧ tn1 j s'.heap ∧ (∀ a ∈ fp1, H' a = none) ∧ Ext H5 L5 H' L' ∧ Sta Y.K Y.mg H' L' Z S' ∧
        ∃ res : Res Unit, walkC b g1 t1 c1 R1 (c1.ds.drop j) S' = res ∧ (match res with | .ok _ S2 => ∀ H' L', Ext H L H' L' → Sta Y.K Y.mg H' L' Z S2 → Q H' | _ => False)) ?_ c1.ds.length
        ⟨0, H5, S4, L5, Nat.zero_add _, I5.weak (wipe_length _ _) (fun j v e => (wipe_some e).1), st11, fun a hb => (f11 a hb).1, Ext.refl _ _, st5, _, rfl, ?_⟩
      rotate_left
      · rw [List.drop_zero]
        cases q2 : walkC b g1 t1 c1 R1 c1.ds S4 with
        | ok u S6 => rw [q2] at p; exact p
        | err cl S6 => exact (walkC_noerr _ _ _ _ q2).elim
        | bad => rw [q2] at p; exact p
      rintro n t3 ⟨j, H6, S6, L6, hn, I6, st6t, n6, x6, st6, res1, hres1, pr1⟩
      have there1 : c1.there S6 := by
        refine Classical.byContradiction fun z => ?_
        cases hd : c1.ds.drop j with
        | nil => rw [hd] at hres1; unfold walkC at hres1; rw [if_neg z] at hres1; subst hres1; exact pr1
        | cons d ds => rw [hd] at hres1; unfold walkC at hres1; rw [if_neg z] at hres1; subst hres1; exact pr1
      cases n with
      | zero =>
        have hj : j = c1.ds.length := by omega
        subst hj
        rw [List.drop_length] at hres1
        unfold walkC at hres1
        rw [if_pos there1] at hres1
        subst hres1
        refine thnF (T1.done Y rfl rfl rfl hc _ _ t3 _ H6 (fun _ _ => False) I6 (still n6) st6t (y1.stop H6 L6 S6 x6 st6 there1)) fun r t4 ⟨hr, I7⟩ => ?_
        subst hr
        exact ⟨_, H6, I7, (Chg.wiped vs1 σ).more hv, pr1 H6 L6 (x5.trans x6) st6⟩
      | succ n =>
        have hj : j < c1.ds.length := by omega
        rw [List.drop_eq_getElem_cons hj] at hres1
        unfold walkC at hres1
        rw [if_pos there1] at hres1
        refine thnF (T1.item Y rfl rfl rfl hc j _ t3 _ H6 (fun _ _ => False) I6 (still n6) st6t (y1.go j H6 L6 S6 x6 st6 there1 hj)) fun r t4 ⟨u1, hr, h13⟩ => ?_
        subst hr
        refine thnF h13 fun _ t5 ⟨x1, H7, I7, r7, yv7, st7t, n7⟩ => ?_
        obtain ⟨d1, hd1, x7, st7, a7⟩ := y1.yld [] j H6 L6 S6 x1 H7 (fun q hq => nomatch hq) x6 st6 there1 yv7 hj
        rw [List.nil_append] at st7 a7
        have hd1' : c1.ds[j] = d1 := by
          rw [List.getElem?_eq_getElem hj] at hd1; exact Option.some.inj hd1
        rw [hd1'] at hres1
        have x67 := x6.trans x7
        have I7' := I7.pinned (still n7) (T1.obj _ _ st7t)
        cases hg1 : g1 d1 R1 with
        | none => simp only [hg1] at hres1; subst hres1; exact pr1.elim
        | some r2 =>
          simp only [hg1] at hres1
          -- the turn's end
          have fin : ∀ {σ' : L2.St} {H' : Hp} {s' : Shared}, Inv Y (pins ++ pinsAt fp1 t5.heap) σ' H' s' → Chg vs1 (wipe σ vs1) σ' →
              (∃ L' S', Ext H5 L5 H' L' ∧ Sta Y.K Y.mg H' L' Z S' ∧ ∃ res : Res Unit, walkC b g1 t1 c1 R1 (c1.ds.drop (j + 1)) S' = res ∧ (match res with | .ok _ S2 => ∀ H' L', Ext H L H' L' → Sta Y.K Y.mg H' L' Z S2 → Q H' | _ => False)) →
              ∃ m, m < n + 1 ∧ ∃ j H' S' L', j + m = c1.ds.length ∧ Inv Y pins (wipe σ vs1) H' s' ∧ tn1 j s'.heap ∧ (∀ a ∈ fp1, H' a = none) ∧ Ext H5 L5 H' L' ∧ Sta Y.K Y.mg H' L' Z S' ∧
                ∃ res : Res Unit, walkC b g1 t1 c1 R1 (c1.ds.drop j) S' = res ∧ (match res with | .ok _ S2 => ∀ H' L', Ext H L H' L' → Sta Y.K Y.mg H' L' Z S2 → Q H' | _ => False) := fun {σ' H' s'} I' ch ⟨L', S', xa, sa, ra⟩ => by
            have pin' : ∀ a ∈ fp1, ∀ o, t5.heap.get? a = some o → s'.heap.get? a = some o ∧ H' a = none := fun a hb o e =>
              let z := I'.pin (a, o) (List.mem_append_right _ (List.mem_append_right _ (mem_pinsAt hb e)))
              ⟨z.1, z.2.1⟩
            refine ⟨n, Nat.lt_succ_self n, j + 1, H', S', L', by omega, I'.unpinned.weak ch.1.symm (fun i v e => ?_), T1.keep _ _ _ st7t fun a hb o e => (pin' a hb o e).1, fun a hb => ?_, xa, sa, ra⟩
            · rw [ch.2 i (wipe_some e).2]; exact e
            · obtain ⟨o, e, _⟩ := T1.obj _ _ st7t a hb
              exact (pin' a hb o e).2
          have qg := hg.out _ t5 (wipe σ vs1) H7 R1 r2 S6 L6 Z d1 x1 u1 (fun σ' H' => ∃ L', Chg vs1 (wipe σ vs1) σ' ∧ Ext H7 L6 H' L' ∧ Slots Y.K Y.mg H' L' Z r2 σ' ∧ Sta Y.K Y.mg H' L' Z S6) I7' (sl5.mono x67) st7 a7 r7 hg1
            (fun σ' H' L' a1 a2 a3 a4 => ⟨L', a1, a2, a3, a4⟩)
          rw [hx] at qg
          refine thnF qg fun _ t6 ⟨σ8, H8, I8, L8, ch8, x8, sl8, st8⟩ => ?_
          cases qt1 : t1 r2 S6 with
          | bad => rw [qt1] at hres1; subst hres1; exact pr1.elim
          | err _ _ => rw [qt1] at hres1; subst hres1; exact pr1.elim
          | ok kc S7 =>
            rw [qt1] at hres1
            simp only [okOnly_ok, Res.bind_ok] at hres1
            have qt := ht.run _ t6 σ8 H8 (fun v H' => kc = v ∧ ∃ L', Ext H8 L8 H' L' ∧ Sta Y.K Y.mg H' L' Z S7) I8 ⟨r2, S6, L8, Z, sl8, st8, by rw [qt1]; exact fun v H' L' a1 a2 a3 => ⟨a3, L', a1, a2⟩⟩
            rw [hx] at qt
            refine thnF qt fun kc' t7 ⟨H9, I9, e9, L9, x9, st9⟩ => ?_
            subst e9
            have x59 : Ext H5 L5 H9 L9 := x67.trans (x8.trans x9)
            cases kc with
            | false =>
              rw [if_neg Bool.false_ne_true] at hres1
              rw [if_neg Bool.false_ne_true]
              exact fin I9 ch8 ⟨L9, S7, x59, st9, res1, hres1, pr1⟩
            | true =>
              rw [if_pos rfl] at hres1
              rw [if_pos rfl]
              intro rest2 P2 E2 hgo
              refine ha _ t7 σ8 H9 r2 S7 L9 Z (fun H' => ∃ L' S', Ext H5 L5 H' L' ∧ Sta Y.K Y.mg H' L' Z S' ∧ ∃ res : Res Unit, walkC b g1 t1 c1 R1 (c1.ds.drop (j + 1)) S' = res ∧ (match res with | .ok _ S2 => ∀ H' L', Ext H L H' L' → Sta Y.K Y.mg H' L' Z S2 → Q H' | _ => False)) rest2 P2 E2 I9 (sl8.mono x9) st9 (x59.get (x5.get kD)) ?_ fun σ' H' s' I' ch' qq => hgo s' (fin I' (ch8.trans ch') qq)
              cases qb : b r2 S7 with
              | bad => rw [qb] at hres1; subst hres1; exact pr1.elim
              | err _ _ => rw [qb] at hres1; subst hres1; exact pr1.elim
              | ok u S8 =>
                rw [qb] at hres1
                simp only [okOnly_ok, Res.bind_ok] at hres1
                exact fun H' L' a1 a2 => ⟨L', S8, x59.trans a1, a2, res1, hres1, pr1⟩
    refine wpAny_bind (wpAny_runOwn ?_)
    rw [Around.mark_none]
    refine codeAny_mono (hst _ _ _ loop1 (T1.self Y.A 0 _ _ _ st11 loop1)) fun r s' hr => ?_
    cases r with
    | error e => exact hr.elim
    | ok f =>
      obtain ⟨σ', H', I', ch, qq⟩ := hr
      exact hrest σ' H' s' I' ch qq
end
section
variable {X : Cx} {W : WX} {tg iter elt : Expr} {ifs : List Expr} {gens : List Comprehension} {scope : Scope} {own : List (Str × Nat)} {pos : Pos} {i : IM} {g : GM} {t : BM} {b : Nat → Env1 → Store → Res Unit} {actK : Addr → Env → Sem Fin → Sem Fin}
end
section
variable {X : Cx} {W : WX} {tg iter elt tg1 iter1 tg2 iter2 : Expr} {ifs ifs1 ifs2 : List Expr} {scope : Scope} {own : List (Str × Nat)} {vs1 vs2 : List Nat} {pos : Pos} {i i1 i2 : IM} {g g1 g2 : GM} {t t1 t2 : BM} {f : EM}
variable (hc : X.calm = true) (hN : X.N.Nodup) (hi : DI X W tg iter i) (ok : BlkOk X.N X.env.scope scope own) (hv1 : ∀ i ∈ vs1, i ∈ own.map (·.2)) (hv2 : ∀ i ∈ vs2, i ∈ vs1)
    (hg : ∀ (s : Shared) (H : Hp) (C : Addr) (cl : List (Str × Addr)) (fp : List Addr), DG (X.blk s H scope (compEnvC scope cl C X.env) fp) (kW WN) (own.map (·.2)) tg g)
    (ht : ∀ (s : Shared) (H : Hp) (C : Addr) (cl : List (Str × Addr)) (fp : List Addr), DTs (X.blk s H scope (compEnvC scope cl C X.env) fp) (kW WN) ifs t)
    (hi1 : ∀ (s : Shared) (H : Hp) (C : Addr) (cl : List (Str × Addr)) (fp : List Addr), DI (X.blk s H scope (compEnvC scope cl C X.env) fp) (kW WN) tg1 iter1 i1)
    (hg1 : ∀ (s : Shared) (H : Hp) (C : Addr) (cl : List (Str × Addr)) (fp : List Addr), DG (X.blk s H scope (compEnvC scope cl C X.env) fp) (kW WN) vs1 tg1 g1)
    (ht1 : ∀ (s : Shared) (H : Hp) (C : Addr) (cl : List (Str × Addr)) (fp : List Addr), DTs (X.blk s H scope (compEnvC scope cl C X.env) fp) (kW WN) ifs1 t1)
    (hi2 : ∀ (s : Shared) (H : Hp) (C : Addr) (cl : List (Str × Addr)) (fp : List Addr), DI (X.blk s H scope (compEnvC scope cl C X.env) fp) (kW WN) tg2 iter2 i2)
    (hg2 : ∀ (s : Shared) (H : Hp) (C : Addr) (cl : List (Str × Addr)) (fp : List Addr), DG (X.blk s H scope (compEnvC scope cl C X.env) fp) (kW WN) vs2 tg2 g2)
    (ht2 : ∀ (s : Shared) (H : Hp) (C : Addr) (cl : List (Str × Addr)) (fp : List Addr), DTs (X.blk s H scope (compEnvC scope cl C X.env) fp) (kW WN) ifs2 t2)
    (he : ∀ (s : Shared) (H : Hp) (C : Addr) (cl : List (Str × Addr)) (fp : List Addr), De (X.blk s H scope (compEnvC scope cl C X.env) fp) (kW WN) elt f)
include hc hN hi ok hv1 hv2 hg ht hi1 hg1 ht1 hi2 hg2 ht2 he
end
end Dn
namespace Dn
open PySem PySem.Spec PyProof.Rows L2
theorem relV_det {v v' : V} {u : Value} (h : RelV v u) (h' : RelV v' u) : v = v' := by
  cases v <;> cases v' <;> simp only [L2.RelV] at h h' <;> first
    | rfl
    | (obtain ⟨t, e⟩ := h; obtain ⟨t', e'⟩ := h'; rw [e] at e'; cases e'; done)
    | (obtain ⟨t, e⟩ := h; obtain ⟨t', e'⟩ := h'; rw [e] at e'; cases e'; rfl)
    | (obtain ⟨t, e⟩ := h; rw [e] at h'; cases h'; done)
    | (obtain ⟨t, e⟩ := h'; rw [e] at h; cases h; done)
    | (rw [h] at h'; cases h'; done)
    | (rw [h] at h'; cases h'; rfl)
def Itvd (a : Addr) (n ep : Nat) : It :=
  ⟨fun i H => i < n ∧ ∃ us, H a = some (DicO us ep a) ∧ us.length = n, fun i H x H' => H' = H ∧ ∀ us, H a = some (DicO us ep a) → ∃ p, us[i]? = some p ∧ x = p.2.2, fun i H => n ≤ i ∧ ∃ us, H a = some (DicO us ep a) ∧ us.length = n⟩
theorem dic_raw {X : Cx} {pins : List (Addr × Obj)} {σ : L2.St} {H : Hp} {s : Shared} {d : Addr} {us : List (PyData × Addr × V)} {ep : Nat} (I : Inv X pins σ H s) (hd : H d = some (DicO us ep d)) :
    ∃ es : Array DictEntry, s.heap.DictRaw d es ep ∧ (d == sysModules) = false ∧ es.size = us.length ∧ ∀ (i : Nat) (p : PyData × Addr × V), us[i]? = some p → ∃ e, es[i]? = some e ∧ e.key = .ref p.2.1 ∧ RelV p.2.2 e.val := by
  obtain ⟨⟨z, y, nd, xs, r, o, es, ho, hx, hdat, he⟩, _⟩ := (show ObjOk X.prog X.w H s.heap d (DicO us ep d) from I.hok d _ hd)
  obtain ⟨l1, g1⟩ := pair3 r
  refine ⟨es, ⟨o, ho, hx, hdat⟩, y, by rw [← Array.length_toList, he, List.length_map, ← l1], fun i p hp => ?_⟩
  obtain ⟨q, hq, e1, e2, e3⟩ := g1 i p hp
  refine ⟨⟨kh q.1, .ref q.2.1, q.2.2⟩, by rw [← Array.getElem?_toList, he, List.getElem?_map, hq]; rfl, by rw [e2], e3⟩
theorem raw_det {h : Heap} {d : Addr} {es es' : Array DictEntry} {ep ep' : Nat} (a : h.DictRaw d es ep) (b : h.DictRaw d es' ep') : es' = es ∧ ep' = ep := by
  obtain ⟨o, h1, _, h2⟩ := a
  obtain ⟨o', h3, _, h4⟩ := b
  rw [h1] at h3; cases h3
  rw [h2] at h4; cases h4
  exact ⟨rfl, rfl⟩
section
variable {P : Program} {w : World} {K : PySem.W.Frag} {tg : Expr} {d : Addr} {n ep : Nat}
theorem turn_valsD (it : Addr) : Turn P w K tg (Itvd d n ep) [it] it (fun i h => h.IsValIter it d i n ep) where
  mem := by simp
  obj := fun i h st b hb => by
    have e : b = it := by simpa using hb
    subst e
    obtain ⟨oi, e, c, dd⟩ := st
    exact ⟨oi, e, fun v z => by rw [dd] at z; cases z⟩
  keep := fun i h h' st k => let ⟨oi, e, c, dd⟩ := st; ⟨oi, k it (by simp) oi e, c, dd⟩
  item := by
    intro X hP hw hK hc i pins s σ H E I hf st hg
    subst hP hw hK
    obtain ⟨hi, us, hd, hl⟩ := hg
    obtain ⟨f0, f1, f2, f3, f4, f5⟩ := hf it (by simp)
    obtain ⟨es, raw, ns, sz, ent⟩ := dic_raw I hd
    rw [hl] at sz
    obtain ⟨p, hp⟩ : ∃ p, us[i]? = some p := ⟨us[i]'(by omega), List.getElem?_eq_getElem _⟩
    obtain ⟨e0, he0, _, rv⟩ := ent i p hp
    have hi' : i < es.size := by omega
    rw [← sz] at st
    refine wpAny_pyNext_values_item_raw st raw hi' fun h' st' sb => ?_
    have I1 : Inv X pins σ H { s with heap := h' } := I.turned (t' := s.toks) (fun b ob hb e => (sb.2 b hb).trans e) f0 f1 f3 f4 f5
    obtain ⟨oi, e, c, dd⟩ := id st'
    have ev : es[i].val = e0.val := by
      rw [Array.getElem?_eq_getElem hi'] at he0
      rw [Option.some.inj he0]
    rw [sz] at st'
    refine ⟨_, rfl, go_of (s := { s with heap := h' }) e c dd (by decide) ⟨p.2.2, H, I1, by rw [ev]; exact rv, ⟨rfl, fun us2 hd2 => ?_⟩, st', fun b hb => (hf b hb).1⟩⟩
    obtain ⟨es2, raw2, _, sz2, ent2⟩ := dic_raw I hd2
    obtain ⟨rfl, _⟩ := raw_det raw raw2
    obtain ⟨p2, hp2⟩ : ∃ p, us2[i]? = some p := ⟨us2[i]'(by omega), List.getElem?_eq_getElem _⟩
    obtain ⟨e2, he2, _, rv2⟩ := ent2 i p2 hp2
    rw [he0] at he2; cases he2
    exact ⟨p2, hp2, relV_det rv rv2⟩
  done := by
    intro X hP hw hK hc i pins s σ H E I hf st hg
    subst hP hw hK
    obtain ⟨hi, us, hd, hl⟩ := hg
    obtain ⟨f0, f1, f2, f3, f4, f5⟩ := hf it (by simp)
    obtain ⟨es, raw, ns, sz, ent⟩ := dic_raw I hd
    rw [hl] at sz
    rw [← sz] at st
    exact wpAny_pyNext_values_end_raw (I.ok.hd hc) st raw (by omega) fun h' eb => ⟨rfl, I.turned (t' := s.toks) (fun b ob hb e => eb b ob hb e) f0 f1 f3 f4 f5⟩
  self := fun A i s Q E st h => wpAny_pyIter_valiter st h
end
def iValsD (td : TE) : TI := fun σ H R => td σ H fun x H1 => ∃ d us ep, x = .ref d ∧ H1 d = some (DicO us ep d) ∧ R (Itvd d us.length ep) H1
theorem pi_valsD {X : Cx} {tg e : Expr} {td : TE} {apos cpos : Pos} (he : PE X e td) (hbase : attributeBase e "values" X.env (eval e X.env) = eval e X.env := by rfl) (hline : (apos.endLine == cpos.line) = true := by rfl) :
    PI X tg (.Call (.Attribute e "values" apos) [] [] cpos) (iValsD td) := by
  refine ⟨fun pins s σ H R I h => ?_⟩
  refine wpAny_Call_method (T := "dict") (id := "dict.values") hbase rfl hline PySem.F.plainAttrs_dict PySem.F.slot_dict_values PySem.F.type_dict_values (thn (he.run pins s σ H _ I h) fun u s1 ⟨x, H1, I1, rx, d, us, ep, ex, hd, q⟩ => ?_)
  subst ex
  obtain rfl : u = Value.ref d := rx
  obtain ⟨es, raw, ns, sz, ent⟩ := dic_raw I1 hd
  refine ⟨raw.typeIs, fun a ea => ?_, ?_⟩
  · cases ea
    obtain ⟨o, ho, hx, _⟩ := raw
    exact ⟨o, ho, hx.2.1⟩
  have I2 : Inv X pins σ H1 { s1 with heap := s1.heap.push { cls := .type "dict_values", data := .fields #[.ref d] } } := I1.kept (t' := s1.toks) fun b ob q => Heap.get?_push_of_some _ q
  have fin : wpAny (model X.prog X.w) X.A (pyIter (.ref s1.heap.objs.size)) (PIE X pins σ tg R) X.xe { s1 with heap := s1.heap.push { cls := .type "dict_values", data := .fields #[.ref d] } } := by
    refine wpAny_pyIter_values_raw (d := d) ⟨_, Heap.get?_push_size _ rfl, rfl, rfl⟩ (raw.at fun o e => Heap.get?_push_of_some _ e) (pi_one (tk := s1.toks) I2 _ (turn_valsD _) ⟨_, Heap.get?_push_size _ rfl, rfl, ?_⟩ q)
    rw [sz] <;> rfl
  show wpAny _ _ (callWith cpos (.builtin "dict.values") [.ref d] [] []) _ X.xe s1
  exact method_meetsIn PySem.F.slot_dict_values PySem.F.entry_dict_values rfl (PySem.evalArgs_none ⟨rfl, raw.typeIs, PySem.F.args_dict_values_1 _, _, meets_dict_values_raw d ns, ⟨es, ep, raw⟩, fin⟩)
def partOf (g : PV × PV → PV) (d : PV) (S : Store) : Res Src := match d with
  | .dic kvs => .ok ⟨kvs.map g, none⟩ S
  | .loc k => (match S[k]? with
    | some (.dic kvs ep) => if ep = kvs.length then .ok ⟨kvs.map g, some (.w k kvs)⟩ S else .bad
    | _ => .bad)
  | _ => .bad
def iVs (a : EM) : IM := fun r S => (a r S).bind (partOf (·.2))
theorem atd_both {K : PySem.W.Frag} {mg : Str → Option Value} {H : Hp} {L Z : List Addr} : ∀ {kvs : List (PV × PV)} {us : List (PyData × Addr × V)}, Atd K mg H L Z kvs us → ∀ {i : Nat} {p : PyData × Addr × V}, us[i]? = some p → ∃ q, kvs[i]? = some q ∧ At K mg H L Z q.1 (.ref p.2.1) ∧ At K mg H L Z q.2 p.2.2
  | _, _, .nil, i, p, h => by simp at h
  | _, _, .cons (k := k) (d := d) a b c e t, i, p, h => by
    cases i with
    | zero => simp at h; subst h; exact ⟨(k, d), rfl, c, e⟩
    | succ i => simp at h; obtain ⟨q, e1, e2⟩ := atd_both t h; exact ⟨q, by simpa using e1, e2⟩
section
variable {X : Cx} {W : WX} {tg e : Expr} {fe : EM} {apos cpos : Pos}
theorem yld_vdic {Z : List Addr} {H : Hp} {L : List Addr} {a : Addr} {us : List (PyData × Addr × V)} {kvs : List (PV × PV)} {ep : Nat} (h : H a = some (DicO us ep a)) (hL : a ∉ L) (b : Atd X.K X.mg H L Z kvs us) : Yld X Z (Itvd a us.length ep) H L ⟨kvs.map (·.2), none⟩ := by
  have hl := atd_len b
  have keep : ∀ {H' : Hp} {L' : List Addr}, Ext H L H' L' → H' a = some (DicO us ep a) := fun {H' L'} x => x.keep _ _ h (fun z => absurd z hL) (fun _ => nofun)
  refine ⟨fun i H' L' S x st _ hi => ?_, fun H' L' S x st _ => ?_, fun Y i H' L' S v H2 ny x st _ y hi => ?_⟩
  · have hi : i < (kvs.map (·.2)).length := hi
    exact ⟨by rw [List.length_map] at hi; omega, us, keep x, rfl⟩
  · exact ⟨by show us.length ≤ (kvs.map (·.2)).length; rw [List.length_map]; omega, us, keep x, rfl⟩
  · obtain ⟨rfl, y⟩ := y
    obtain ⟨p, hp, rfl⟩ := y us (keep x)
    obtain ⟨q, e1, _, e2⟩ := atd_both b hp
    exact ⟨q.2, by show (kvs.map (·.2))[i]? = _; rw [List.getElem?_map, e1]; rfl, Ext.refl _ _, st, (e2.hides ny).mono x⟩
theorem there_w {Z : List Addr} {H : Hp} {L : List Addr} {a : Addr} {k : Nat} {kvs : List (PV × PV)} {ds : List PV} (hk : L[k]? = some a) {H' : Hp} {L' Z' : List Addr} {S : Store} (x : Ext H L H' L') (st : Sta X.K X.mg H' L' Z' S) (t : Src.there ⟨ds, some (.w k kvs)⟩ S) :
    ∃ us, H' a = some (DicO us kvs.length a) ∧ us.length = kvs.length ∧ Atd X.K X.mg H' L' Z' kvs us := by
  obtain ⟨us, h1, b⟩ := st.cells k _ a t (x.get hk)
  exact ⟨us, h1, (atd_len b).symm, b⟩
theorem yld_vloc {Z : List Addr} {H : Hp} {L : List Addr} {a : Addr} {k : Nat} {kvs : List (PV × PV)} (hk : L[k]? = some a) : Yld X Z (Itvd a kvs.length kvs.length) H L ⟨kvs.map (·.2), some (.w k kvs)⟩ := by
  refine ⟨fun i H' L' S x st t hi => ?_, fun H' L' S x st t => ?_, fun Y i H' L' S v H2 ny x st t y hi => ?_⟩
  · obtain ⟨us, h1, hl, b⟩ := there_w (Z := Z) hk x st t
    have hi : i < (kvs.map (·.2)).length := hi
    exact ⟨by rw [List.length_map] at hi; exact hi, us, h1, hl⟩
  · obtain ⟨us, h1, hl, b⟩ := there_w (Z := Z) hk x st t
    exact ⟨by show kvs.length ≤ (kvs.map (·.2)).length; rw [List.length_map]; exact Nat.le_refl _, us, h1, hl⟩
  · obtain ⟨rfl, y⟩ := y
    obtain ⟨us, h1, hl, b⟩ := there_w (Z := Z) hk x st t
    obtain ⟨p, hp, rfl⟩ := y us h1
    obtain ⟨q, e1, _, e2⟩ := atd_both b hp
    exact ⟨q.2, by show (kvs.map (·.2))[i]? = _; rw [List.getElem?_map, e1]; rfl, Ext.refl _ _, st, e2⟩
theorem DI.vals (h : De X W e fe) (hbase : attributeBase e "values" X.env (eval e X.env) = eval e X.env := by rfl) (hline : (apos.endLine == cpos.line) = true := by rfl) : DI X W tg (.Call (.Attribute e "values" apos) [] [] cpos) (iVs fe) := by
  refine Jd.mk ?_
  intro pins s σ H r S L Z R I sl st p
  unfold iVs at p
  refine (pi_valsD h.pe hbase hline).run pins s σ H R I ⟨r, S, L, Z, sl, st, ?_⟩
  cases q : fe r S with
  | bad => rw [q] at p; exact p.elim
  | err c S1 => rw [q] at p; exact p
  | ok d S1 =>
    rw [q] at p
    replace p : PostI X W σ Z (partOf (·.2) d S1) H L R := p
    intro v H' L' x st' a
    cases d with
    | dic kvs =>
      cases a with
      | dic h1 h2 h3 h4 => exact ⟨_, _, _, rfl, h1, p _ H' L' x st' (yld_vdic h1 h2 h4)⟩
    | loc k =>
      have p : PostI X W σ Z (match S1[k]? with
        | some (.dic kvs ep) => if ep = kvs.length then .ok ⟨kvs.map (·.2), some (.w k kvs)⟩ S1 else .bad
        | _ => .bad) H L R := p
      cases hc : S1[k]? with
      | none => rw [hc] at p; exact p.elim
      | some cl =>
        cases cl with
        | lst xs => rw [hc] at p; exact p.elim
        | ins nm fs => rw [hc] at p; exact p.elim
        | set ks => rw [hc] at p; exact p.elim
        | dic kvs ep =>
          rw [hc] at p
          replace p : PostI X W σ Z (if ep = kvs.length then .ok ⟨kvs.map (·.2), some (.w k kvs)⟩ S1 else .bad) H L R := p
          by_cases hz : ep = kvs.length
          · rw [if_pos hz] at p
            subst hz
            cases a with
            | loc h1 =>
              obtain ⟨us, e1, b1⟩ := st'.cells k _ _ hc h1
              have y := yld_vloc (X := X) (Z := Z) (H := H') (kvs := kvs) h1
              have lb := atd_len b1
              refine ⟨_, us, kvs.length, rfl, e1, ?_⟩
              rw [← lb]
              exact p _ H' L' x st' y
          · rw [if_neg hz] at p; exact p.elim
    | _ => exact (show False from p).elim
end
def dPart (S : Store) : PV → Option (List (PV × PV))
  | .dic kvs => some kvs
  | .loc k => (match S[k]? with
    | some (.dic kvs _) => some kvs
    | _ => none)
  | _ => none
def maxVs (d : PV) (S : Store) : Res PV := match dPart S d with
  | some kvs => (match ints? (kvs.map (·.2)) with
    | some (n :: ns) => .ok (.int (maxI (n :: ns))) S
    | _ => .bad)
  | none => .bad
def eMaxV (a : EM) : EM := fun r S => (a r S).bind maxVs
section
variable {X : Cx} {W : WX} {e : Expr} {fe : EM} {p pos apos cpos : Pos}
end
def eTupU (a : LM) : EM := fun r S => (a r S).bind fun ds S1 => if ds.length ≤ sizeLine then .ok (.tub ds) S1 else .bad
section
variable {X : Cx} {W : WX} {es : List Expr} {la : LM} {pos : Pos}
end
end Dn
namespace Dn
open PySem PySem.Spec PyProof.Rows L2
def vRevL (d : PV) (S : Store) : Res PV := match lstOf S d with
  | some xs => .ok (.lst xs.reverse) S
  | none => .bad
def eRevL (a : EM) : EM := fun r S => (a r S).bind vRevL
end Dn
namespace Dn
open PySem PySem.Spec PyProof.Rows L2
def dnP (i : Int) (n : Nat) : List PV := (List.range n).map fun k : Nat => PV.int (i + (k : Int) * -1)
def RgD (i j : Int) : Prop := -(2 ^ 62) ≤ i ∧ i < 2 ^ 62 ∧ -(2 ^ 62) ≤ j ∧ j < 2 ^ 62 ∧ (i - j).toNat ≤ 2 ^ 24
instance (i j : Int) : Decidable (RgD i j) := by unfold RgD; infer_instance
section
variable {X : Cx} {W : WX} {a b c : Expr} {ta : TA} {la : LM} {p p2 pos pos2 : Pos}
def vTupD (ds : List PV) (S : Store) : Res PV := match ds with
  | [.int i, .int j, .int k] => if k = -1 ∧ RgD i j then .ok (.tup (dnP i (i - j).toNat)) S else .bad
  | _ => .bad
def eTupRgD (a : LM) : EM := fun r S => (a r S).bind vTupD
def eTupRg1 (b : EM) : EM := fun r S => (b r S).bind fun e S1 => tupRg (.int 0) e S1
end
@[simp] theorem eTupRgD_ap (a : LM) (r : Env1) (S : Store) : eTupRgD a r S = (a r S).bind vTupD := rfl
@[simp] theorem eTupRg1_ap (b : EM) (r : Env1) (S : Store) : eTupRg1 b r S = (b r S).bind fun e S1 => tupRg (.int 0) e S1 := rfl
end Dn
namespace Dn
open PySem PySem.Spec PyProof.Rows L2
def rowOf : PV → Option (List Int)
  | .tup xs => ints? xs
  | _ => none
theorem ints_are {xs : List PV} : ∀ {ns : List Int}, ints? xs = some ns → xs = ns.map PV.int := by
  induction xs with
  | nil => intro ns h; simp [ints?] at h; subst h; rfl
  | cons x xs ih =>
    intro ns h
    cases x with
    | int n =>
      simp only [ints?] at h
      rw [Option.map_eq_some_iff] at h
      obtain ⟨m, h1, rfl⟩ := h
      rw [ih h1]; rfl
    | _ => simp [ints?] at h
theorem ats_are {K : PySem.W.Frag} {mg : Str → Option Value} {H : Hp} {L Z : List Addr} : ∀ {ns : List Int} {vs : List V}, Ats K mg H L Z (ns.map PV.int) vs → vs = ns.map V.int
  | [], _, .nil => rfl
  | n :: ns, _, .cons a b => by cases a; rw [ats_are b]; rfl
theorem row_at {K : PySem.W.Frag} {mg : Str → Option Value} {H : Hp} {L Z : List Addr} {d : PV} {v : V} {k : List Int} (a : At K mg H L Z d v) (h : rowOf d = some k) : ∃ b, v = .ref b ∧ d = .tup (k.map PV.int) ∧ SqT K H b (k.map V.int) := by
  cases d with
  | tup xs =>
    have e := ints_are h
    subst e
    cases a with
    | tup h1 h2 => rw [ats_are h2] at h1; exact ⟨_, rfl, rfl, h1⟩
  | _ => cases h
theorem row_sq {K : PySem.W.Frag} {mg : Str → Option Value} {H : Hp} {L Z : List Addr} {b : Addr} {k : List Int} (a : At K mg H L Z (.tup (k.map PV.int)) (.ref b)) : SqT K H b (k.map V.int) := by
  cases a with
  | tup h1 h2 => rw [ats_are h2] at h1; exact h1
section
variable {X : Cx} {W : WX} {K : PySem.W.Frag} {mg : Str → Option Value} {H : Hp} {L Z : List Addr} {S : Store}
theorem set_code {P : Program} {w : World} {h : Heap} {M : List (Addr × List Int)} {p : Addr} (ok : ObjOk P w H h p (SetO M p)) (q : Str) : SetO M p ≠ LamX.CodeO p q := fun e => by
  injection e with e
  have d : SetP M p h := ok.1
  have c := d
  rw [e] at c
  obtain ⟨oc, vs, t, c1, c2, _⟩ := c
  obtain ⟨_, _, _, _, _, R⟩ := d
  obtain ⟨o, d1, _, d2⟩ := R.ob
  rw [d1] at c1; cases c1
  rw [d2] at c2; cases c2
theorem Sta.newS {p : Addr} (st : Sta K mg H L Z S) (n : H p = none) : Sta K mg (upd H p (SetO [] p)) (L ++ [p]) Z (S ++ [.set []]) := by
  have x : Ext H L (upd H p (SetO [] p)) (L ++ [p]) := Ext.own n
  have l := st.laid (o := SetO [] p) n
  refine ⟨?_, by simp [st.len], fun i c b h1 h2 => ?_, l.zt, fun b hb => ?_, l.tabs⟩
  · rw [List.nodup_append]
    exact ⟨st.nd, by simp, fun b hb c hc => by simp at hc; subst hc; exact fun z => (st.fresh n).1 (z ▸ hb)⟩
  · by_cases hi : i < S.length
    · rw [List.getElem?_append_left hi] at h1
      rw [List.getElem?_append_left (by rw [← st.len]; exact hi)] at h2
      obtain ⟨u, hu⟩ := st.has (List.mem_of_getElem? h2)
      exact (st.cells i c b h1 h2).mono x (by rw [upd_ne (ne_of_none hu n)])
    · have hi' : i = S.length := by
        have := (List.getElem?_eq_some_iff.mp h1).1
        simp at this; omega
      subst hi'
      rw [List.getElem?_append_right (Nat.le_refl _)] at h1
      rw [st.len, List.getElem?_append_right (Nat.le_refl _)] at h2
      simp at h1 h2
      subst h1 h2
      exact ⟨[], upd_same, by simp, rfl, nofun⟩
  · rcases List.mem_append.mp hb with h | h
    · exact st.dj b h
    · simp at h; subst h; exact (st.fresh n).2
theorem Sta.putS {k : Nat} {p : Addr} {ks ks' : List (List Int)} {M M' : List (Addr × List Int)} (st : Sta K mg H L Z S) (e : S[k]? = some (.set ks)) (hk : L[k]? = some p) (h1 : H p = some (SetO M p)) (ne : ∀ q, SetO M p ≠ LamX.CodeO p q)
    (m1 : ∀ z, z ∈ ks' ↔ z ∈ M'.map (·.2)) (m2 : M'.length = ks'.length) (a : ∀ q ∈ M', At K mg H L Z (.tup (q.2.map PV.int)) (.ref q.1)) :
    Ext H L (upd H p (SetO M' p)) L ∧ Sta K mg (upd H p (SetO M' p)) L Z (S.set k (.set ks')) := by
  have hp : p ∈ L := List.mem_of_getElem? hk
  have x : Ext H L (upd H p (SetO M' p)) L := by
    refine ⟨⟨[], by simp, fun _ h => nomatch h⟩, fun b u h hm _ => ?_, fun b u h => ?_⟩
    · by_cases hb : b = p
      · subst hb; rw [h1] at h; cases h; exact absurd trivial (hm hp)
      · rw [upd_ne hb]; exact h
    · by_cases hb : b = p
      · subst hb; exact ⟨_, upd_same⟩
      · exact ⟨u, by rw [upd_ne hb]; exact h⟩
  have tab : ∀ {P : Addr} {q : Str}, LamX.TabS H P q → LamX.TabS (upd H p (SetO M' p)) P q := fun {P q} t => by
    obtain ⟨ps, e1, e2, e3⟩ := t
    refine ⟨ps, by rw [upd_ne fun z => by rw [z, h1] at e1; cases e1]; exact e1, e2, fun pos cv hc => ?_⟩
    obtain ⟨c, f1, f2⟩ := e3 pos cv hc
    refine ⟨c, f1, ?_⟩
    rw [upd_ne fun z => by rw [z, h1] at f2; exact ne q (Option.some.inj f2)]
    exact f2
  refine ⟨x, st.nd, by simp [st.len], fun i c b h2 h3 => ?_, fun b h => ?_, st.dj, fun p' hp' => tab (st.tabs p' hp')⟩
  · by_cases hi : k = i
    · subst hi
      rw [hk] at h3; cases h3
      have hl : k < S.length := (List.getElem?_eq_some_iff.mp e).1
      rw [List.getElem?_set_self hl] at h2; cases h2
      exact ⟨M', upd_same, m1, m2, fun q hq => (a q hq).mono x⟩
    · rw [List.getElem?_set_ne hi] at h2
      have hb : b ≠ p := fun z => by
        subst z
        have i1 := (List.getElem?_eq_some_iff.mp hk).1
        have i2 := (List.getElem?_eq_some_iff.mp h3).1
        exact hi ((List.getElem_inj st.nd).mp ((List.getElem?_eq_some_iff.mp hk).2.trans (List.getElem?_eq_some_iff.mp h3).2.symm))
      exact (st.cells i c b h2 h3).mono x (by rw [upd_ne hb])
  · obtain ⟨u, q⟩ := st.zt b h
    by_cases hb : b = p
    · subst hb; exact ⟨_, upd_same⟩
    · exact ⟨u, by rw [upd_ne hb]; exact q⟩
def eSet0 : EM := fun _ S => .ok (.loc S.length) (S ++ [.set []])
def rSet0T : List V → Hp → VK → Prop := fun xs H Q => xs = [] ∧ ∀ p, H p = none → Q (.ref p) (upd H p (SetO [] p))
theorem cr_set0T : CallR X (.type "set") rSet0T := by
  intro pins s σ H xs us Q I r h
  obtain ⟨rfl, q⟩ := h
  cases r
  refine setR_new fun _ => ?_
  have ok : SetP [] s.heap.objs.size (s.heap.push { cls := .type "set", dict := none, data := .set #[] 0 (.fresh 0 0 (!X.w.params.followText "set-order")) }) := ⟨X.prog, X.w, _, _, _, setB_new (P := X.prog) (w := X.w) (Heap.get?_push_size _ rfl)⟩
  exact ⟨.ref _, upd H s.heap.objs.size (SetO [] s.heap.objs.size), I.laid (t' := s.toks) (fun b u e => Heap.get?_push_of_some _ e) (Nat.le_refl _) (setO_ok ok), rfl, q _ (I.hok.fresh (Nat.le_refl _))⟩
theorem De.set0 {p pos : Pos} (hg : Gl X "set") (hm : X.mg "set" = none) : De X W (.Call (.Name "set" p) [] [] pos) eSet0 := by
  refine Jd.mk ?_
  intro pins s σ H r S L Z Q I sl st pp
  refine (pe_callTy0 (p := p) (pos := pos) cr_set0T hg hm rfl (by decide +kernel) (by decide +kernel)).run pins s σ H Q I ?_
  show rSet0T [] H Q
  refine ⟨rfl, fun q n => ?_⟩
  exact (show PostV X W σ Z (.ok (.loc S.length) (S ++ [.set []])) H L Q from pp) _ _ (L ++ [q]) (Ext.own n) (st.newS n) (.loc (by rw [st.len, List.getElem?_append_right (Nat.le_refl _)]; simp))
def vSAdd (o : PV) (ds : List PV) (S : Store) : Res PV := match o, ds with
  | .loc k, [d] => (match S[k]?, rowOf d with
    | some (.set ks), some z => if ks.length < 300 then .ok .non (S.set k (.set (if z ∈ ks then ks else ks ++ [z]))) else .bad
    | _, _ => .bad)
  | _, _ => .bad
def isSet (S : Store) (d : PV) : Bool := match d with
  | .loc k => (match S[k]? with
    | some (.set _) => true
    | _ => false)
  | _ => false
theorem set_at (st : Sta K mg H L Z S) {d : PV} {v : V} (a : At K mg H L Z d v) (h : isSet S d = true) : ∃ k ks p M, d = .loc k ∧ S[k]? = some (.set ks) ∧ L[k]? = some p ∧ v = .ref p ∧ H p = some (SetO M p) ∧ (∀ z, z ∈ ks ↔ z ∈ M.map (·.2)) ∧ M.length = ks.length ∧ ∀ q ∈ M, At K mg H L Z (.tup (q.2.map PV.int)) (.ref q.1) := by
  cases d with
  | loc k =>
    cases a with
    | loc hk =>
      cases hc : S[k]? with
      | none => simp [isSet, hc] at h
      | some cl =>
        cases cl with
        | set ks =>
          obtain ⟨M, h1, h2, h3, h4⟩ := st.cells k _ _ hc hk
          exact ⟨k, ks, _, M, rfl, hc, hk, rfl, h1, h2, h3, h4⟩
        | _ => simp [isSet, hc] at h
  | _ => simp [isSet] at h
theorem setB_of {pins : List (Addr × Obj)} {σ : L2.St} {s : Shared} {M : List (Addr × List Int)} {p : Addr} (I : Inv X pins σ H s) (h : H p = some (SetO M p)) : ∃ es ep t, SetB X.prog X.w s.heap p M es ep t := by
  obtain ⟨P, w, es, ep, t, R⟩ : SetP M p s.heap := (I.hok p _ h).1
  exact ⟨es, ep, t, R.moved X.prog X.w⟩
theorem rows_at {pins : List (Addr × Obj)} {σ : L2.St} {s : Shared} {M : List (Addr × List Int)} (I : Inv X pins σ H s) (h : ∀ q ∈ M, At X.K X.mg H L Z (.tup (q.2.map PV.int)) (.ref q.1)) : ∀ q ∈ M, IsT X.prog X.w s.heap q.2 q.1 := fun q hq => L2.Inv.isT I (row_sq (h q hq))
theorem call_sadd (h64 : X.A.units + 64 < cLine) {pins : List (Addr × Obj)} {s : Shared} {σ : L2.St} {Q : VK} {d : PV} {x : V} {ds : List PV} {xs : List V} {v : Value} {us : List Value} (I : Inv X pins σ H s) (st : Sta X.K X.mg H L Z S) (a : At X.K X.mg H L Z d x) (b : Ats X.K X.mg H L Z ds xs) (r : RelV x v) (r2 : Vals xs us)
    (p : PostV X W σ Z (vSAdd d ds S) H L Q) : wpAny (model X.prog X.w) X.A (call (.builtin "set.add") (v :: us)) (EP X pins σ Q) X.xe s := by
  unfold vSAdd at p
  match ds, d, a, b, p with
  | [y], .loc k, a, b, p =>
    cases hc : S[k]? with
    | none => simp only [hc] at p; exact p.elim
    | some cl =>
      cases cl with
      | set ks =>
        cases hr : rowOf y with
        | none => simp only [hc, hr] at p; exact p.elim
        | some z =>
          simp only [hc, hr] at p
          by_cases hz : ks.length < 300
          · rw [if_pos hz] at p
            cases a with
            | loc hk =>
              obtain ⟨yv, rfl, ay⟩ := b.one
              obtain ⟨c, rfl, rfl, sq⟩ := row_at ay hr
              obtain ⟨M, h1, h2, h3, h4⟩ := st.cells k _ _ hc hk
              obtain ⟨es, ep, t, R⟩ := setB_of I h1
              cases r
              cases r2 with
              | cons ry r2 =>
                cases r2
                cases ry
                refine R.call_add (rows_at I h4) (L2.Inv.isT I sq) (by omega) (by omega) fun h' M' es' ep' t' n sb R' e1 e2 => ?_
                have he : ∃ u, h'.get? _ = some u := let ⟨o, ho, _⟩ := R'.ob; ⟨o, ho⟩
                have m : (∀ q, q ∈ (if z ∈ ks then ks else ks ++ [z]) ↔ q ∈ M'.map (·.2)) ∧ M'.length = (if z ∈ ks then ks else ks ++ [z]).length ∧ ∀ q ∈ M', At X.K X.mg H L Z (.tup (q.2.map PV.int)) (.ref q.1) := by
                  by_cases w : z ∈ ks
                  · rw [if_pos w, e1 ((h2 z).mp w)]; exact ⟨h2, h3, h4⟩
                  · have pm := e2 fun q => w ((h2 z).mpr q)
                    rw [if_neg w]
                    refine ⟨fun q => ?_, by rw [pm.length_eq]; simp [h3], fun q hq => ?_⟩
                    · rw [(pm.map (·.2)).mem_iff, List.map_cons, List.mem_cons, List.mem_append, h2 q, List.mem_singleton]; exact Or.comm
                    · rcases List.mem_cons.mp (pm.mem_iff.mp hq) with e | e
                      · rw [e]; exact ay
                      · exact h4 q e
                obtain ⟨x4, st4⟩ := st.putS hc hk h1 (set_code (I.hok _ _ h1)) m.1 m.2.1 m.2.2
                exact ⟨.non, _, I.write (t' := n) (by rw [h1]; trivial) (.inl rfl) (fun b u hb hu => (sb.2 b hb).trans hu) he (setO_ok (P := X.prog) (w := X.w) ⟨X.prog, X.w, es', ep', t', R'⟩), rfl, p _ _ L x4 st4 .non⟩
          · rw [if_neg hz] at p; exact p.elim
      | _ => simp only [hc] at p; exact p.elim
  | [], d, _, _, p => exact (show False from by cases d <;> exact p).elim
  | _ :: _ :: _, d, _, _, p => exact (show False from by cases d <;> exact p).elim
  | [_], .non, _, _, p => exact p.elim
  | [_], .bl _, _, _, p => exact p.elim
  | [_], .int _, _, _, p => exact p.elim
  | [_], .str _, _, _, p => exact p.elim
  | [_], .tup _, _, _, p => exact p.elim
  | [_], .lst _, _, _, p => exact p.elim
  | [_], .obj _ _, _, _, p => exact p.elim
  | [_], .scr _, _, _, p => exact p.elim
  | [_], .ty _, _, _, p => exact p.elim
  | [_], .cls _, _, _, p => exact p.elim
  | [_], .exc _, _, _, p => exact p.elim
  | [_], .dic _, _, _, p => exact p.elim
  | [_], .dik _, _, _, p => exact p.elim
  | [_], .tub _, _, _, p => exact p.elim
def eSAdd (o : EM) (a : LM) : EM := fun r S => (o r S).bind fun d S1 => if isSet S1 d = true then (a r S1).bind fun ds S2 => vSAdd d ds S2 else .bad
theorem De.sadd (h64 : X.A.units + 64 < cLine) {o e : Expr} {es : List Expr} {fo : EM} {la : LM} {apos cpos : Pos} (ho : De X W o fo) (ha : DA X W (e :: es) la)
    (hbase : attributeBase o "add" X.env (eval o X.env) = eval o X.env := by rfl)
    (hfew : ((backTo cpos (starEach (e :: es) X.env)).all (fun x => !x.1) && (backToKw cpos (keywordEach [] X.env)).all (fun x => x.1.isSome)
      && decide ((e :: es).length + ([] : List Keyword).length + (if ([] : List Keyword).isEmpty then 0 else 1) < 30)) = true := by rfl)
    (hline : (apos.endLine == cpos.line) = true := by rfl) (hs : starEach (e :: es) X.env = (false, eval e X.env) :: starEach es X.env := by rfl) (hplain : (backTo cpos (starEach es X.env)).any (·.1) = false := by rfl) :
    De X W (.Call (.Attribute o "add" apos) (e :: es) [] cpos) (eSAdd fo la) := by
  refine Jd.mk ?_
  intro pins s σ H r S L Z Q I sl st p
  refine wpAny_Call_method_late hbase hfew hline rfl (ho.step I sl st p fun d S1 x v s1 H1 L1 I1 r1 sl1 st1 x1 a1 p1 => ?_)
  by_cases hT : isSet S1 d = true
  · rw [if_pos hT] at p1
    obtain ⟨k, ks, q, M, _, _, _, e1, h1, _⟩ := set_at st1 a1 hT
    obtain ⟨es', ep, t, R⟩ := setB_of I1 h1
    subst e1
    obtain rfl : v = Value.ref q := r1
    refine ⟨"set", "set.add", F.plainAttrs_set, F.slot_set_add, F.type_set_add, R.ty, R.bare, ?_⟩
    have hA := ha.step cpos I1 sl1 st1 p1 (Qf := fun us s2 => wpAny (model X.prog X.w) X.A (PySem.call (.builtin "set.add") (.ref q :: us)) (EP X pins σ Q) X.xe s2) fun ds S2 xs us s2 H2 L2 I2 r2 sl2 st2 x2 a2 p2 => call_sadd h64 I2 st2 (a1.mono x2) a2 rfl r2 p2
    rw [hs] at hA ⊢
    exact Calls.callWith_builtin (by show (false || (backTo cpos (starEach es X.env)).any (·.1)) = false; rw [hplain] <;> rfl) (Calls.evalArgs_plain hA)
  · rw [if_neg hT] at p1; exact p1.elim
def vInS (neg : Bool) (d e : PV) (S : Store) : Res PV := match e, rowOf d with
  | .loc k, some z => (match S[k]? with
    | some (.set ks) => .ok (.bl (if neg then !decide (z ∈ ks) else decide (z ∈ ks))) S
    | _ => .bad)
  | _, _ => .bad
theorem in_set_core (h64 : X.A.units + 64 < cLine) {neg : Bool} {pins : List (Addr × Obj)} {s : Shared} {σ : L2.St} {d e : PV} {x y : V} {u v : Value} {Q : VK} (I : Inv X pins σ H s) (st : Sta X.K X.mg H L Z S) (a1 : At X.K X.mg H L Z d x) (a2 : At X.K X.mg H L Z e y) (r1 : RelV x u) (r2 : RelV y v)
    (p : PostV X W σ Z (vInS neg d e S) H L Q) : ∃ b : Bool, (∀ t, EP X pins σ Q (.bool (if neg then !b else b)) { s with toks := t }) ∧ ∀ {Q' : Bool → Shared → Prop}, (∀ n, Q' b { s with toks := n }) → wpAny (model X.prog X.w) X.A (contains v u) Q' X.xe s := by
  unfold vInS at p
  cases e with
  | loc k =>
    cases hr : rowOf d with
    | none => simp only [hr] at p; exact p.elim
    | some z =>
      cases hc : S[k]? with
      | none => simp only [hr, hc] at p; exact p.elim
      | some cl =>
        cases cl with
        | set ks =>
          simp only [hr, hc] at p
          cases a2 with
          | loc hk =>
            obtain ⟨c, rfl, rfl, sq⟩ := row_at a1 hr
            obtain ⟨M, h1, h2, h3, h4⟩ := st.cells k _ _ hc hk
            obtain ⟨es, ep, t, R⟩ := setB_of I h1
            cases r1; cases r2
            have ez : decide (z ∈ M.map (·.2)) = decide (z ∈ ks) := by rw [Bool.eq_iff_iff, decide_eq_true_eq, decide_eq_true_eq]; exact (h2 z).symm
            refine ⟨decide (z ∈ ks), fun t' => ⟨.bl _, H, I.tok t', rfl, post_val p st (.bl _)⟩, fun {Q'} q => ?_⟩
            exact R.within (rows_at I h4) (L2.Inv.isT I sq) (by omega) fun n => by rw [ez]; exact q n
        | _ => simp only [hr, hc] at p; exact p.elim
  | _ => exact (show False from p).elim
theorem dop_ninS (h64 : X.A.units + 64 < cLine) : DOp X W (compareOp .NotIn) (vInS true) := by
  intro pins s σ H S L Z Q d e x y u v I st a1 a2 r1 r2 p
  obtain ⟨b, f, c⟩ := in_set_core h64 I st a1 a2 r1 r2 p
  show wpAny _ _ (do return Value.bool (!(← contains v u))) _ _ s
  exact wpAny_bind (c fun n => wpAny_pure (f n))
def vPop (o : PV) (ds : List PV) (S : Store) : Res PV := match o, ds with
  | .loc k, [] => (match S[k]? with
    | some (.lst xs) => (match xs.getLast? with
      | some d => .ok d (S.set k (.lst xs.dropLast))
      | none => .bad)
    | _ => .bad)
  | _, _ => .bad
theorem Ats.last : ∀ {ds : List PV} {vs : List V}, Ats K mg H L Z ds vs → ∀ {d : PV}, ds.getLast? = some d → ∃ v, vs[vs.length - 1]? = some v ∧ At K mg H L Z d v ∧ Ats K mg H L Z ds.dropLast vs.dropLast
  | _, _, .nil, d, h => by cases h
  | _, _, .cons a .nil, d, h => by simp at h; subst h; exact ⟨_, rfl, a, .nil⟩
  | _, _, .cons (ds := _) a (.cons a1 b1), d, h => by
    rw [List.getLast?_cons_cons] at h
    obtain ⟨v, e1, e2, e3⟩ := Ats.last (.cons a1 b1) h
    exact ⟨v, by simpa using e1, e2, .cons a e3⟩
theorem dmt_pop : DMt X W "list" "list.pop" vPop := by
  intro pins s σ H S L Z Q d x ds xs v us I st a b r r2 p
  unfold vPop at p
  cases d with
  | loc k =>
    cases ds with
    | cons _ _ => exact (show False from p).elim
    | nil =>
      cases b
      cases hc : S[k]? with
      | none => simp only [hc] at p; exact p.elim
      | some cl =>
        cases cl with
        | lst zs =>
          simp only [hc] at p
          cases hl : zs.getLast? with
          | none => simp only [hl] at p; exact p.elim
          | some y =>
            simp only [hl] at p
            cases a with
            | loc hk =>
              obtain ⟨vs, e1, b1⟩ := st.cells k _ _ hc hk
              obtain ⟨yv, g1, g2, g3⟩ := Ats.last b1 hl
              obtain ⟨x4, st4⟩ := st.put hc hk g3
              exact mt_pop pins s σ H _ _ v us Q I r r2 ⟨_, vs, yv, rfl, rfl, e1, g1, p _ _ L x4 st4 (g2.mono x4)⟩
        | _ => simp only [hc] at p; exact p.elim
  | _ => exact (show False from p).elim
end
@[simp] theorem eSet0_ap (r : Env1) (S : Store) : eSet0 r S = .ok (.loc S.length) (S ++ [.set []]) := rfl
@[simp] theorem eSAdd_ap (o : EM) (a : LM) (r : Env1) (S : Store) : eSAdd o a r S = (o r S).bind fun d S1 => if isSet S1 d = true then (a r S1).bind fun ds S2 => vSAdd d ds S2 else .bad := rfl
end Dn
namespace Hl
open PySem L2 Dn
end Hl
namespace Hl
open PySem L2 Dn
noncomputable def b_fit_k74 : SM := (sSeq (sSet 2 (eBin vIx (eVar 0) (eC (.int 3))))
    (sSeq (sIf (bNot (bVal (eBin vIx (eVar 0) (eC (.int 5))))) (sRet (eCB vMax (lCons (eUn vNeg (eVar 2)) (lCons (eCB vMin (lCons (eVar 2) (lCons (eVar 1) lNil))) lNil)))) sNil)
    (sRet (eBin vSub (eBin vMod (eBin vAdd (eVar 1) (eVar 2)) (eBin vAdd (eBin vMul (eC (.int 2)) (eVar 2)) (eC (.int 1)))) (eVar 2)))))
noncomputable def m_fit_k74 : Fn := fnM false 3 b_fit_k74
noncomputable def b_round_k74 : SM := (sSeq (sSet 3 (eBin vDiv (eVar 0) (eVar 1)))
    (sSeq (sSet 4 (eBin vSub (eVar 0) (eBin vMul (eVar 3) (eVar 1))))
    (sSeq (sIf (bOr (bVal (eBin vEq (eVar 2) (eC (.str "down")))) (bVal (eBin vEq (eVar 4) (eC (.int 0))))) (sRet (eVar 3)) sNil)
    (sSeq (sIf (bVal (eBin vEq (eVar 2) (eC (.str "cut")))) (sRet (eBin vAdd (eVar 3) (eCB vInt (lCons (eBin vLt (eVar 0) (eC (.int 0))) lNil)))) sNil)
    (sRet (eBin vAdd (eVar 3) (eCB vInt (lCons (eOr (eBin vGt (eBin vMul (eC (.int 2)) (eVar 4)) (eVar 1)) (eAnd (eBin vEq (eBin vMul (eC (.int 2)) (eVar 4)) (eVar 1)) (eBin vGt (eVar 0) (eC (.int 0))))) lNil))))))))
noncomputable def m_round_k74 : Fn := fnM false 5 b_round_k74
noncomputable def c_sum_k74_1 : LM := lComp [2, 3] (iZip (eBin vIx (eVar 0) (eC (.int 0))) (eVar 1)) (gTp 2 (gsCons (gNm 2) (gsCons (gNm 3) gsNil))) bYes (eCallN 3 m_round_k74 [] (lCons (eBin vMul (eVar 2) (eVar 3)) (lCons (eBin vIx (eVar 0) (eC (.int 1))) (lCons (eBin vIx (eVar 0) (eC (.int 2))) lNil))))
noncomputable def c_sum_k74_2 : LM := lComp [2, 3] (iZip (eBin vIx (eVar 0) (eC (.int 0))) (eVar 1)) (gTp 2 (gsCons (gNm 2) (gsCons (gNm 3) gsNil))) bYes (eBin vMul (eVar 2) (eVar 3))
noncomputable def b_sum_k74 : SM := (sSeq (sIf (bVal (eBin vIx (eVar 0) (eC (.int 4)))) (sRet (eCB vSum (lCons (eNew c_sum_k74_1) lNil))) sNil)
    (sRet (eCallN 3 m_round_k74 [] (lCons (eCB vSum (lCons (eNew c_sum_k74_2) lNil)) (lCons (eBin vIx (eVar 0) (eC (.int 1))) (lCons (eBin vIx (eVar 0) (eC (.int 2))) lNil))))))
noncomputable def m_sum_k74 : Fn := fnM false 4 b_sum_k74
noncomputable def b_step_k74 : SM := (sRet (eBin vAdd (eTup (lCons (eCallN 2 m_fit_k74 [] (lCons (eVar 0) (lCons (eBin vAdd (eCallN 2 m_sum_k74 [] (lCons (eVar 0) (lCons (eVar 1) lNil))) (eVar 2)) lNil))) lNil)) (eSl (eVar 1) oNone (oSome (eUn vNeg (eC (.int 1)))))))
noncomputable def m_step_k74 : Fn := fnM false 3 b_step_k74
end Hl
namespace Hl
open PySem L2 Dn
noncomputable def c_states_1 : LM := lComp [5] (iRange2 (eUn vNeg (eBin vIx (eVar 0) (eC (.int 3)))) (eBin vAdd (eBin vIx (eVar 0) (eC (.int 3))) (eC (.int 1)))) (gNm 5) bYes (eBin vAdd (eVar 4) (eTup (lCons (eVar 5) lNil)))
noncomputable def w_states_1 : SM := (sSet 3 (eBin vAdd (eVar 3) (eNew c_states_1)))
noncomputable def l_states_1 : SM := sFor (iVal (eVar 1)) (gNm 4) w_states_1
noncomputable def w_states_2 : SM := (sSeq (sSet 3 (eLst lNil))
    (sSeq l_states_1
    (sSet 1 (eVar 3))))
noncomputable def l_states_2 : SM := sFor (iVal (eBin vIx (eVar 0) (eC (.int 0)))) (gNm 2) w_states_2
noncomputable def b_states : SM := (sSeq (sSet 1 (eLst (lCons (eTup lNil) lNil)))
    (sSeq l_states_2
    (sRet (eVar 1))))
noncomputable def m_states : Fn := fnM false 6 b_states
noncomputable def b_least : SM := (sSeq (sSet 1 (eMt "list" vIndexA (eVar 0) (lCons (eCB vMinA (lCons (eVar 0) lNil)) lNil)))
    (sRet (eCB vTuple (lCons (eBin vAdd (eSl (eVar 0) (oSome (eVar 1)) oNone) (eSl (eVar 0) oNone (oSome (eVar 1)))) lNil))))
noncomputable def m_least : Fn := fnM false 2 b_least
noncomputable def t_rings_1 : BM := (bVal (eBin (vInD true) (eVar 5) (eVar 3)))
noncomputable def w_rings_1 : SM := (sSeq (sPutC (eVar 3) (eVar 5) (eVar 4))
    (sSeq (sExpr (eMt "list" vAppend (eVar 6) (lCons (eVar 5) lNil)))
    (sSet 5 (eCallN 3 m_step_k74 [] (lCons (eVar 0) (lCons (eVar 5) (lCons (eVar 1) lNil)))))))
noncomputable def l_rings_1 : SM := sWhile t_rings_1 w_rings_1
noncomputable def w_rings_2 : SM := (sSeq (sPar 5 6 (lCons (eVar 4) (lCons (eCell (lDis lNil)) lNil)))
    (sSeq l_rings_1
    (sIf (bAnd (bVal (eBin vNe (eVar 6) (eLst lNil))) (bVal (eBin vEq (eBin vIxC (eVar 3) (eVar 5)) (eVar 4)))) (sExpr (eMt "list" vAppend (eVar 2) (lCons (eCallN 1 m_least [] (lCons (eSl (eVar 6) (oSome (eMt "list" vIndexA (eVar 6) (lCons (eVar 5) lNil))) oNone) lNil)) lNil))) sNil)))
noncomputable def l_rings_2 : SM := sFor (iVal (eCallN 1 m_states [] (lCons (eVar 0) lNil))) (gNm 4) w_rings_2
noncomputable def b_rings : SM := (sSeq (sPar 2 3 (lCons (eCell (lDis lNil)) (lCons eCelD lNil)))
    (sSeq l_rings_2
    (sRet (eCB vSorted (lCons (eVar 2) lNil)))))
noncomputable def m_rings : Fn := fnM false 7 b_rings
noncomputable def b_p_next_of_k67 : SM := (sRet (eIf (bVal (eCB vIsiU (lCons (eVar 0) (lCons (eC (.cls "Filter")) lNil)))) (eCallN 3 m_p_stepped [] (lCons (eVar 0) (lCons (eVar 1) (lCons (eVar 2) lNil)))) eBad))
noncomputable def m_p_next_of_k67 : Fn := fnM false 3 b_p_next_of_k67
noncomputable def t_p_path_from_1 : BM := (bVal (eBin (vInD true) (eVar 1) (eVar 3)))
noncomputable def w_p_path_from_1 : SM := (sSeq (sPutC (eVar 3) (eVar 1) (eCB vLen (lCons (eVar 4) lNil)))
    (sSeq (sExpr (eMt "list" vAppend (eVar 4) (lCons (eVar 1) lNil)))
    (sSet 1 (eCallN 3 m_p_next_of_k67 [] (lCons (eVar 0) (lCons (eVar 1) (lCons (eVar 2) lNil)))))))
noncomputable def l_p_path_from_1 : SM := sWhile t_p_path_from_1 w_p_path_from_1
noncomputable def b_p_path_from : SM := (sSeq (sPar 3 4 (lCons eCelD (lCons (eCell (lDis lNil)) lNil)))
    (sSeq l_p_path_from_1
    (sRet (eTup (lCons (eVar 4) (lCons (eBin vIxC (eVar 3) (eVar 1)) lNil))))))
noncomputable def m_p_path_from : Fn := fnM false 5 b_p_path_from
noncomputable def b_p_begun_least : SM := (sSeq (sSet 1 (eIdxU (eVar 0) (lCons (eCB vMinA (lCons (eLoose (eVar 0)) lNil)) lNil)))
    (sRet (eTup (lStar (eSl (eLoose (eVar 0)) (oSome (eVar 1)) oNone) (lStar (eSl (eLoose (eVar 0)) oNone (oSome (eVar 1))) lNil)))))
noncomputable def m_p_begun_least : Fn := fnM false 2 b_p_begun_least
end Hl
namespace Hl
open PySem L2 Dn
noncomputable def t_p_rings_in_1 : BM := (bVal (eBin (vInD true) (eVar 4) (eVar 2)))
noncomputable def w_p_rings_in_1 : SM := (sSeq (sPutC (eVar 2) (eVar 4) (eVar 3))
    (sSeq (sExpr (eMt "list" vAppend (eVar 5) (lCons (eVar 4) lNil)))
    (sSet 4 (eBin vIxC (eVar 0) (eVar 4)))))
noncomputable def l_p_rings_in_1 : SM := sWhile t_p_rings_in_1 w_p_rings_in_1
noncomputable def w_p_rings_in_2 : SM := (sSeq (sPar 4 5 (lCons (eVar 3) (lCons (eCell (lDis lNil)) lNil)))
    (sSeq l_p_rings_in_1
    (sIf (bAnd (bVal (eBin vEq (eBin vIxC (eVar 2) (eVar 4)) (eVar 3))) (bVal (eBin vNe (eVar 5) (eLst lNil)))) (sExpr (eMt "list" vAppend (eVar 1) (lCons (eCallN 1 m_p_begun_least [] (lCons (eCB vTupleU (lCons (eSl (eVar 5) (oSome (eMt "list" vIndexA (eVar 5) (lCons (eVar 4) lNil))) oNone) lNil)) lNil)) lNil))) sNil)))
noncomputable def l_p_rings_in_2 : SM := sFor (iVal (eVar 0)) (gNm 3) w_p_rings_in_2
noncomputable def b_p_rings_in : SM := (sSeq (sPar 1 2 (lCons (eCell (lDis lNil)) (lCons eCelD lNil)))
    (sSeq l_p_rings_in_2
    (sRet (eCB vSorted (lCons (eVar 1) lNil)))))
noncomputable def m_p_rings_in : Fn := fnM false 6 b_p_rings_in
noncomputable def c_p_states_of_1 : EM := eComp2 [3, 4] [4] (iVal (eVar 1)) (gNm 3) bYes (iRange2 (eUn vNeg (eProp "Filter" m_p_Filter_high (eVar 0))) (eBin vAdd (eProp "Filter" m_p_Filter_high (eVar 0)) (eC (.int 1)))) (gNm 4) bYes (eTup (lStar (eVar 3) (lCons (eVar 4) lNil)))
noncomputable def w_p_states_of_1 : SM := (sSet 1 c_p_states_of_1)
noncomputable def l_p_states_of_1 : SM := sFor (iRange1 (eProp "Filter" m_p_Filter_order (eVar 0))) (gNm 2) w_p_states_of_1
noncomputable def b_p_states_of : SM := (sSeq (sSet 1 (eLst (lCons (eTup lNil) lNil)))
    (sSeq l_p_states_of_1
    (sRet (eVar 1))))
noncomputable def m_p_states_of : Fn := fnM false 5 b_p_states_of
noncomputable def b_p_all_states : SM := (sSeq (sIf (bVal (eCB vIsiU (lCons (eVar 0) (lCons (eC (.cls "Filter")) lNil)))) (sRet (eCallN 1 m_p_states_of [] (lCons (eVar 0) lNil))) sNil)
    (sRet eBad))
noncomputable def m_p_all_states : Fn := fnM false 3 b_p_all_states
noncomputable def c_p_steps_of_1 : EM := eCompD [2] (iVal (eCallN 1 m_p_all_states [] (lCons (eVar 0) lNil))) (gNm 2) bYes (eVar 2) (eCallN 3 m_p_next_of_k67 [] (lCons (eVar 0) (lCons (eVar 2) (lCons (eVar 1) lNil))))
noncomputable def b_p_steps_of : SM := (sRet c_p_steps_of_1)
noncomputable def m_p_steps_of : Fn := fnM false 3 b_p_steps_of
noncomputable def b_p_rings : SM := (sSeq (sExpr (eCallN 1 m_p_need_source [] (lCons (eVar 0) lNil)))
    (sSeq (sExpr (eCallN 1 m_p_need_input [] (lCons (eVar 1) lNil)))
    (sRet (eCB vTupleU (lCons (eCallN 1 m_p_rings_in [] (lCons (eCallN 2 m_p_steps_of [] (lCons (eVar 0) (lCons (eVar 1) lNil))) lNil)) lNil)))))
noncomputable def m_p_rings : Fn := fnM false 2 b_p_rings
end Hl
namespace Hl
open PySem L2 Dn
noncomputable def c_peak_3 : LM := lComp [5] (iVal (eCallN 1 m_states [] (lCons (eVar 0) lNil))) (gNm 5) (bAnd (bVal (eBin vLe (eCB vMaxA (lCons (eVar 5) lNil)) (eVar 1))) (bVal (eBin vGe (eCB vMinA (lCons (eVar 5) lNil)) (eUn vNeg (eVar 1))))) (eVar 5)
noncomputable def c_peak_4 : LM := lComp [5] (iVal (eVar 2)) (gNm 5) bYes (eCallN 3 m_step_k74 [] (lCons (eVar 0) (lCons (eVar 5) (lCons (eC (.int 0)) lNil))))
noncomputable def w_peak_1 : SM := (sIf (bVal (eBin (vInD true) (eVar 5) (eVar 3))) (sSeq (sPutC (eVar 3) (eVar 5) (eCB vAbs (lCons (eBin vIx (eVar 5) (eC (.int 0))) lNil)))
    (sExpr (eMt "list" vAppend (eVar 2) (lCons (eVar 5) lNil)))) sNil)
noncomputable def l_peak_1 : SM := sFor (iVal (eVar 4)) (gNm 5) w_peak_1
noncomputable def t_peak_1 : BM := (bVal (eBin vNe (eVar 2) (eLst lNil)))
noncomputable def w_peak_2 : SM := (sSeq (sSet 4 (eNew c_peak_4))
    (sSeq (sSet 2 (eCell (lDis lNil)))
    l_peak_1))
noncomputable def l_peak_2 : SM := sWhile t_peak_1 w_peak_2
noncomputable def c_peak_5 : LM := lComp [5] (iVal (eVar 3)) (gNm 5) bYes (eBin vIxC (eVar 3) (eVar 5))
noncomputable def b_peak : SM := (sSeq (sAsg (gTp 2 (gsCons (gNm 2) (gsCons (gNm 3) gsNil))) (eTup (lCons (eCell c_peak_3) (lCons eCelD lNil))))
    (sSeq l_peak_2
    (sRet (eCB vMax (lCons (eNew c_peak_5) lNil)))))
noncomputable def m_peak : Fn := fnM false 6 b_peak
noncomputable def c_p_peak_1 : LM := lComp [7] (iVal (eVar 6)) (gNm 7) bYes (eCB vAbs (lCons (eVar 7) lNil))
noncomputable def c_p_peak_2 : LM := lComp [6] (iVal (eCallN 1 m_p_states_of [] (lCons (eVar 0) lNil))) (gNm 6) (bVal (eBin vLe (eCB vMax (lCons (eNew c_p_peak_1) lNil)) (eVar 1))) (eVar 6)
noncomputable def t_p_peak_1 : BM := (bVal (eBin vNe (eVar 2) (eLst lNil)))
noncomputable def w_p_peak_1 : SM := (sSeq (sSet 5 (eCallN 3 m_p_stepped [] (lCons (eVar 0) (lCons (eMt "list" vPop (eVar 2) lNil) (lCons (eC (.int 0)) lNil)))))
    (sSeq (sSet 4 (eCB vMax (lCons (eVar 4) (lCons (eCB vAbs (lCons (eBin vIx (eVar 5) (eC (.int 0))) lNil)) lNil))))
    (sIf (bVal (eBin (vInS true) (eVar 5) (eVar 3))) (sSeq (sExpr (eSAdd (eVar 3) (lCons (eVar 5) lNil)))
    (sExpr (eMt "list" vAppend (eVar 2) (lCons (eVar 5) lNil)))) sNil)))
noncomputable def l_p_peak_1 : SM := sWhile t_p_peak_1 w_p_peak_1
noncomputable def b_p_peak : SM := (sSeq (sExpr (eCallN 1 m_p_need_filter [] (lCons (eVar 0) lNil)))
    (sSeq (sIf (bNot (bVal (eCallN 3 m_p_is_between [] (lCons (eVar 1) (lCons (eC (.int 0)) (lCons (eProp "Filter" m_p_Filter_high (eVar 0)) lNil)))))) (sRaise "NoSize") sNil)
    (sSeq (sSet 2 (eCell c_p_peak_2))
    (sSeq (sSet 3 eSet0)
    (sSeq (sSet 4 (eC (.int 0)))
    (sSeq l_p_peak_1
    (sRet (eVar 4))))))))
noncomputable def m_p_peak : Fn := fnM false 8 b_p_peak
noncomputable def w_law_k61_1 : SM := (sSeq (sSet 7 (eCallN 2 m_peak [] (lCons (eVar 4) (lCons (eVar 6) lNil))))
    (sIf (bNot (bVal (eCallN 2 m_same [] (lCons (eLst (lCons (eCallN 2 m_p_peak [] (lCons (eVar 5) (lCons (eVar 6) lNil))) (lCons (eCallN 2 m_p_peak [] (lCons (eVar 5) (lCons (eVar 6) lNil))) lNil))) (lCons (eLst (lCons (eVar 7) (lCons (eVar 7) lNil))) lNil))))) (sRet (eC (.bl false))) sNil))
noncomputable def l_law_k61_1 : SM := sFor (iRange1 (eBin vAdd (eBin vIx (eVar 4) (eC (.int 3))) (eC (.int 1)))) (gNm 6) w_law_k61_1
noncomputable def w_law_k61_2 : SM := (sSeq (sSet 4 (eCallN 1 m_parts_k60 [] (lCons (eVar 2) lNil)))
    (sSeq (sSet 5 (eCallN 1 m_made [] (lCons (eVar 4) lNil)))
    l_law_k61_1))
noncomputable def l_law_k61_2 : SM := sFor (iRange1 (eC (.int 5))) (gNm 3) w_law_k61_2
noncomputable def w_law_k61_3 : SM := (sSeq (sSet 2 (eCallN 1 m_pen [] (lCons (eCallN 2 m_cell [] (lCons (eVar 0) (lCons (eVar 1) lNil))) lNil)))
    l_law_k61_2)
noncomputable def l_law_k61_3 : SM := sFor (iRange1 (eCB vMax (lCons (eC (.int 1)) (lCons (eCB vMin (lCons (eCB vLen (lCons (eVar 0) lNil)) (lCons (eC (.int 3)) lNil))) lNil)))) (gNm 1) w_law_k61_3
noncomputable def b_law_k61 : SM := (sSeq l_law_k61_3
    (sRet (eC (.bl true))))
noncomputable def m_law_k61 : Fn := fnM false 8 b_law_k61
end Hl
namespace K61
open PySem PySem.Spec PyProof.Rows L2 Dn Hl
section
variable {P : Program} {w : World} {K : PySem.W.Frag} {mg : Str → Option Value} {base : Heap}
theorem sc_pen : FnScope ["_law_cell_here"] ["_law_cell_here"] d_pen.scope := ⟨rfl, rfl, rfl, by decide +kernel, rfl, by decide +kernel, by decide +kernel⟩
theorem g_pen (B : Bas fs ds K mg base) : FnG P w K mg base 1 (Pl.ad K (.glo "_law_pen")) (fdAt K (Pl.ad K (.glo "_law_pen"))) ["_law_cell_here"] m_pen :=
  fn_ok (B.c.def_ 0 (d := d_pen)) sc_pen (fun cdv A outer s H E hr => (DSs.one (DS.ret (De.cell (DF.lst (DA.cons (De.callB (dc_max rfl) (gl (by kernel_rfl)) (B.free 2) (by kernel_rfl) (DA.cons De.int (DA.cons (De.bin dop_sub (De.var (i := 0) rfl (.inl (by kernel_rfl))) (De.bin dop_pow De.int De.int)) DA.nil))) (DA.cons (De.bin dop_add (De.bin dop_mod (De.var (i := 0) rfl (.inl (by kernel_rfl))) De.int) De.int) (DA.cons De.int DA.nil))))))))
theorem x_pen (B : Bas fs ds K mg base) : Fx P w K mg base 1 "_law_pen" 1 [] m_pen := ⟨Pl.ad K (.glo "_law_pen"), _, _, [], B.glo 45, B.kp 0 (d := d_pen) rfl, g_pen B, B.binds 0 (d := d_pen) rfl rfl (fun _ _ _ _ _ _ us hl => match us, hl with | [_], _ => by kernel_rfl), .nil, rfl, rfl⟩
theorem sc_cell : FnScope ["_law_script", "_law_k"] ["_law_script", "_law_k"] d_cell.scope := ⟨rfl, rfl, rfl, by decide +kernel, rfl, by decide +kernel, by decide +kernel⟩
theorem g_cell (B : Bas fs ds K mg base) : FnG P w K mg base 1 (Pl.ad K (.glo "_law_cell")) (fdAt K (Pl.ad K (.glo "_law_cell"))) ["_law_script", "_law_k"] m_cell :=
  fn_ok (B.c.def_ 1 (d := d_cell)) sc_cell (fun cdv A outer s H E hr => (DSs.one (DS.ret (De.ifExp (DT.cmp dop_lt (De.var (i := 1) rfl (.inl (by kernel_rfl))) (De.callB dc_len (gl (by kernel_rfl)) (B.free 0) (by kernel_rfl) (DA.cons (De.var (i := 0) rfl (.inl (by kernel_rfl))) DA.nil)) rfl) (De.ix (De.var (i := 0) rfl (.inl (by kernel_rfl))) (De.var (i := 1) rfl (.inl (by kernel_rfl)))) De.int))))
theorem x_cell (B : Bas fs ds K mg base) : Fx P w K mg base 1 "_law_cell" 2 [] m_cell := ⟨Pl.ad K (.glo "_law_cell"), _, _, [], B.glo 46, B.kp 1 (d := d_cell) rfl, g_cell B, B.binds 1 (d := d_cell) rfl rfl (fun _ _ _ _ _ _ us hl => match us, hl with | [_, _], _ => by kernel_rfl), .nil, rfl, rfl⟩
theorem sc_draw : FnScope ["_law_pen_here", "_law_many", "_law_found", "_law_stirred"] ["_law_pen_here", "_law_many"] d_draw.scope := ⟨rfl, rfl, rfl, by decide +kernel, rfl, by decide +kernel, by decide +kernel⟩
theorem g_draw (B : Bas fs ds K mg base) : FnG P w K mg base 1 (Pl.ad K (.glo "_law_draw")) (fdAt K (Pl.ad K (.glo "_law_draw"))) ["_law_pen_here", "_law_many"] m_draw :=
  fn_ok (B.c.def_ 2 (d := d_draw)) sc_draw (fun cdv A outer s H E hr => (DSs.cons (DS.ite (DT.cmp dop_gt (De.ix (De.var (i := 0) rfl (.inl (by kernel_rfl))) De.int) De.int rfl) (DSs.cons (DS.set (i := 2) sc_draw.nd rfl (.inl (by kernel_rfl)) (De.bin dop_mod (De.ix (De.var (i := 0) rfl (.inl (by kernel_rfl))) De.int) (De.var (i := 1) rfl (.inl (by kernel_rfl)))))
    (DSs.cons (DS.put (De.bin dop_div (De.ix (De.var (i := 0) rfl (.inl (by kernel_rfl))) De.int) (De.var (i := 1) rfl (.inl (by kernel_rfl)))) (De.var (i := 0) rfl (.inl (by kernel_rfl))) De.int)
    (DSs.one (DS.ret (De.var (i := 2) rfl (.inl (by kernel_rfl))))))) DSs.nil)
    (DSs.cons (DS.put (De.bin dop_add (De.ix (De.var (i := 0) rfl (.inl (by kernel_rfl))) De.int) De.int) (De.var (i := 0) rfl (.inl (by kernel_rfl))) De.int)
    (DSs.cons (DS.put (De.bin dop_mod (De.bin dop_add (De.bin dop_add (De.bin dop_mul (De.ix (De.var (i := 0) rfl (.inl (by kernel_rfl))) De.int) De.int) (De.bin dop_mul De.int (De.ix (De.var (i := 0) rfl (.inl (by kernel_rfl))) De.int))) De.int) De.int) (De.var (i := 0) rfl (.inl (by kernel_rfl))) De.int)
    (DSs.cons (DS.set (i := 3) sc_draw.nd rfl (.inl (by kernel_rfl)) (De.bin dop_mod (De.bin dop_add (De.bin dop_add (De.bin dop_mul (De.ix (De.var (i := 0) rfl (.inl (by kernel_rfl))) De.int) (De.ix (De.var (i := 0) rfl (.inl (by kernel_rfl))) De.int)) (De.bin dop_mul De.int (De.ix (De.var (i := 0) rfl (.inl (by kernel_rfl))) De.int))) De.int) De.int))
    (DSs.cons (DS.set (i := 3) sc_draw.nd rfl (.inl (by kernel_rfl)) (De.bin dop_mod (De.bin dop_add (De.bin dop_mul (De.var (i := 3) rfl (.inl (by kernel_rfl))) (De.var (i := 3) rfl (.inl (by kernel_rfl)))) (De.bin dop_mul De.int (De.var (i := 3) rfl (.inl (by kernel_rfl))))) De.int))
    (DSs.one (DS.ret (De.bin dop_mod (De.bin dop_div (De.var (i := 3) rfl (.inl (by kernel_rfl))) De.int) (De.var (i := 1) rfl (.inl (by kernel_rfl))))))))))))
theorem x_draw (B : Bas fs ds K mg base) : Fx P w K mg base 1 "_law_draw" 2 [] m_draw := ⟨Pl.ad K (.glo "_law_draw"), _, _, [], B.glo 47, B.kp 2 (d := d_draw) rfl, g_draw B, B.binds 2 (d := d_draw) rfl rfl (fun _ _ _ _ _ _ us hl => match us, hl with | [_, _], _ => by kernel_rfl), .nil, rfl, rfl⟩
theorem sc_parts : FnScope ["_law_pen_here", "_law_many", "_law_bottom", "_law_most", "_law_tops", "_law_high", "_law_word", "_law_turn"] ["_law_pen_here"] d_parts.scope := ⟨rfl, rfl, rfl, by decide +kernel, rfl, by decide +kernel, by decide +kernel⟩
theorem g_parts (B : Bas fs ds K mg base) : FnG P w K mg base 2 (Pl.ad K (.glo "_law_parts")) (fdAt K (Pl.ad K (.glo "_law_parts"))) ["_law_pen_here"] m_parts_k60 :=
  fn_ok (B.c.def_ 3 (d := d_parts)) sc_parts (fun cdv A outer s H E hr => (DSs.cons (DS.par (i := 1) (j := 2) rfl sc_parts.nd rfl rfl (by decide) (by kernel_rfl) (by kernel_rfl) (DA.cons (De.ix (De.lst (DA.cons De.int (DA.cons De.int (DA.cons De.int (DA.cons De.int (DA.cons De.int DA.nil)))))) (De.fx (x_draw B) hr takesG (DA.cons (De.var (i := 0) rfl (.inr (.inl (by kernel_rfl)))) (DA.cons De.int DA.nil)) (gl (by kernel_rfl)))) (DA.cons (De.bin dop_add De.int (De.fx (x_draw B) hr takesG (DA.cons (De.var (i := 0) rfl (.inr (.inl (by kernel_rfl)))) (DA.cons De.int DA.nil)) (gl (by kernel_rfl)))) DA.nil)) (by kernel_rfl))
    (DSs.cons (DS.set (i := 3) sc_parts.nd rfl (.inr (by kernel_rfl)) (De.ix (De.lst (DA.cons (De.var (i := 2) rfl (.inl (by kernel_rfl))) (DA.cons De.int (DA.cons (De.bin dop_add (De.var (i := 2) rfl (.inl (by kernel_rfl))) De.int) DA.nil)))) (De.fx (x_draw B) hr takesG (DA.cons (De.var (i := 0) rfl (.inr (.inl (by kernel_rfl)))) (DA.cons De.int DA.nil)) (gl (by kernel_rfl)))))
    (DSs.cons (DS.set (i := 4) sc_parts.nd rfl (.inl (by kernel_rfl)) (De.callTy dc_tuple (gl (by kernel_rfl)) (B.free 4) (by kernel_rfl) (DA.cons (De.new (DF.comp (own := [("_law_turn", 7)]) rfl sc_parts.nd (DI.range1 (gl (by kernel_rfl)) (B.free 3) (De.var (i := 1) rfl (.inl (by kernel_rfl)))) (blkOk_by (by kernel_rfl)) (fun s H C cl fp => (DG.name (vs0 := [7]) (i := 7) (by decide) sc_parts.nd rfl (.inl (by kernel_rfl)))) (fun s H C cl fp => DTs.nil) (fun s H C cl fp => (De.bin dop_sub (De.fx (x_draw B) hr takes_never (DA.cons (De.var (i := 0) rfl (.inr (.inl (by kernel_rfl)))) (DA.cons (De.bin dop_add (De.bin dop_mul De.int (De.var (i := 3) rfl (.inr (.inl (by kernel_rfl))))) De.int) DA.nil)) (gl (by kernel_rfl))) (De.var (i := 3) rfl (.inr (.inl (by kernel_rfl)))))))) DA.nil)))
    (DSs.cons (DS.set (i := 5) sc_parts.nd rfl (.inl (by kernel_rfl)) (De.bin dop_add De.int (De.fx (x_draw B) hr takesG (DA.cons (De.var (i := 0) rfl (.inr (.inl (by kernel_rfl)))) (DA.cons (De.ix (De.lst (DA.cons De.int (DA.cons De.int (DA.cons De.int DA.nil)))) (De.bin dop_sub (De.var (i := 1) rfl (.inl (by kernel_rfl))) De.int)) DA.nil)) (gl (by kernel_rfl)))))
    (DSs.cons (DS.set (i := 6) sc_parts.nd rfl (.inl (by kernel_rfl)) (De.ix (De.lst (DA.cons De.str (DA.cons De.str (DA.cons De.str (DA.cons De.str DA.nil))))) (De.fx (x_draw B) hr takesG (DA.cons (De.var (i := 0) rfl (.inr (.inl (by kernel_rfl)))) (DA.cons De.int DA.nil)) (gl (by kernel_rfl)))))
    (DSs.one (DS.ret (De.tup (DA.cons (De.var (i := 4) rfl (.inl (by kernel_rfl))) (DA.cons (De.var (i := 2) rfl (.inl (by kernel_rfl))) (DA.cons (De.var (i := 6) rfl (.inl (by kernel_rfl))) (DA.cons (De.var (i := 5) rfl (.inl (by kernel_rfl))) (DA.cons (De.cmp dop_gt (De.fx (x_draw B) hr takesG (DA.cons (De.var (i := 0) rfl (.inr (.inl (by kernel_rfl)))) (DA.cons De.int DA.nil)) (gl (by kernel_rfl))) De.int rfl) (DA.cons (De.cmp (dop_eq hr.h64) (De.fx (x_draw B) hr takesG (DA.cons (De.var (i := 0) rfl (.inr (.inl (by kernel_rfl)))) (DA.cons De.int DA.nil)) (gl (by kernel_rfl))) De.int rfl) DA.nil)))))))))))))))
theorem x_parts (B : Bas fs ds K mg base) : Fx P w K mg base 2 "_law_parts" 1 [] m_parts_k60 := ⟨Pl.ad K (.glo "_law_parts"), _, _, [], B.glo 48, B.kp 3 (d := d_parts) rfl, g_parts B, B.binds 3 (d := d_parts) rfl rfl (fun _ _ _ _ _ _ us hl => match us, hl with | [_], _ => by kernel_rfl), .nil, rfl, rfl⟩
theorem sc_p_is_between : FnScope ["thing", "low", "high"] ["thing", "low", "high"] d_p_is_between.scope := ⟨rfl, rfl, rfl, by decide +kernel, rfl, by decide +kernel, by decide +kernel⟩
theorem g_p_is_between (B : Bas fs ds K mg base) : FnG P w K mg base 1 (Pl.ad K (.glo "is_between")) (fdAt K (Pl.ad K (.glo "is_between"))) ["thing", "low", "high"] m_p_is_between :=
  fn_ok (B.c.def_ 4 (d := d_p_is_between)) sc_p_is_between (fun cdv A outer s H E hr => (DSs.one (DS.ret (De.and (De.callB (dc_isiU (isiU_ok B.k B.g (B.c.fact 5)) (B.isx 6 rfl rfl rfl)) (gl (by kernel_rfl)) (B.free 7) (by kernel_rfl) (DA.cons (De.var (i := 0) rfl (.inl (by kernel_rfl))) (DA.cons (De.bty (gl (by kernel_rfl)) (B.free 8) (by kernel_rfl)) DA.nil))) (De.and (De.not (De.callB (dc_isiU (isiU_ok B.k B.g (B.c.fact 5)) (B.isx 6 rfl rfl rfl)) (gl (by kernel_rfl)) (B.free 7) (by kernel_rfl) (DA.cons (De.var (i := 0) rfl (.inl (by kernel_rfl))) (DA.cons (De.bty (gl (by kernel_rfl)) (B.free 9) (by kernel_rfl)) DA.nil)))) (De.one (De.chain dop_le dop_le (De.var (i := 1) rfl (.inl (by kernel_rfl))) (De.var (i := 0) rfl (.inl (by kernel_rfl))) (De.var (i := 2) rfl (.inl (by kernel_rfl))))))))))
theorem x_p_is_between (B : Bas fs ds K mg base) : Fx P w K mg base 1 "is_between" 3 [] m_p_is_between := ⟨Pl.ad K (.glo "is_between"), _, _, [], B.glo 49, B.kp 4 (d := d_p_is_between) rfl, g_p_is_between B, B.binds 4 (d := d_p_is_between) rfl rfl (fun _ _ _ _ _ _ us hl => match us, hl with | [_, _, _], _ => by kernel_rfl), .nil, rfl, rfl⟩
theorem sc_p_are_between : FnScope ["thing", "low", "high", "one"] ["thing", "low", "high"] d_p_are_between.scope := ⟨rfl, rfl, rfl, by decide +kernel, rfl, by decide +kernel, by decide +kernel⟩
theorem g_p_are_between (B : Bas fs ds K mg base) : FnG P w K mg base 2 (Pl.ad K (.glo "are_between")) (fdAt K (Pl.ad K (.glo "are_between"))) ["thing", "low", "high"] m_p_are_between :=
  fn_ok (B.c.def_ 5 (d := d_p_are_between)) sc_p_are_between (fun cdv A outer s H E hr => (DSs.one (DS.ret (De.and (De.callB (dc_isiU (isiU_ok B.k B.g (B.c.fact 5)) (B.isx 6 rfl rfl rfl)) (gl (by kernel_rfl)) (B.free 7) (by kernel_rfl) (DA.cons (De.var (i := 0) rfl (.inl (by kernel_rfl))) (DA.cons (De.bty (gl (by kernel_rfl)) (B.free 4) (by kernel_rfl)) DA.nil))) (De.one (De.callB (dc_all rfl) (gl (by kernel_rfl)) (B.free 10) (by kernel_rfl) (DA.cons (De.new (DF.comp (own := [("one", 3)]) rfl sc_p_are_between.nd (DI.val (De.var (i := 0) rfl (.inl (by kernel_rfl)))) (blkOk_by (by kernel_rfl)) (fun s H C cl fp => (DG.name (vs0 := [3]) (i := 3) (by decide) sc_p_are_between.nd rfl (.inl (by kernel_rfl)))) (fun s H C cl fp => DTs.nil) (fun s H C cl fp => (De.fx (x_p_is_between B) hr takes_never (DA.cons (De.var (i := 3) rfl (.inl (by kernel_rfl))) (DA.cons (De.var (i := 1) rfl (.inr (.inl (by kernel_rfl)))) (DA.cons (De.var (i := 2) rfl (.inr (.inl (by kernel_rfl)))) DA.nil))) (gl (by kernel_rfl)))))) DA.nil)))))))
theorem x_p_are_between (B : Bas fs ds K mg base) : Fx P w K mg base 2 "are_between" 3 [] m_p_are_between := ⟨Pl.ad K (.glo "are_between"), _, _, [], B.glo 50, B.kp 5 (d := d_p_are_between) rfl, g_p_are_between B, B.binds 5 (d := d_p_are_between) rfl rfl (fun _ _ _ _ _ _ us hl => match us, hl with | [_, _, _], _ => by kernel_rfl), .nil, rfl, rfl⟩
theorem sc_p_is_rounding : FnScope ["thing"] ["thing"] d_p_is_rounding.scope := ⟨rfl, rfl, rfl, by decide +kernel, rfl, by decide +kernel, by decide +kernel⟩
theorem g_p_is_rounding (B : Bas fs ds K mg base) : FnG P w K mg base 1 (Pl.ad K (.glo "is_rounding")) (fdAt K (Pl.ad K (.glo "is_rounding"))) ["thing"] m_p_is_rounding :=
  fn_ok (B.c.def_ 6 (d := d_p_is_rounding)) sc_p_is_rounding (fun cdv A outer s H E hr => (DSs.one (DS.ret (De.and (De.callB (dc_isiU (isiU_ok B.k B.g (B.c.fact 5)) (B.isx 6 rfl rfl rfl)) (gl (by kernel_rfl)) (B.free 7) (by kernel_rfl) (DA.cons (De.var (i := 0) rfl (.inl (by kernel_rfl))) (DA.cons (De.bty (gl (by kernel_rfl)) (B.free 18) (by kernel_rfl)) DA.nil))) (De.one (De.cmp dop_in (De.var (i := 0) rfl (.inl (by kernel_rfl))) (De.tup (DA.cons (De.gStr' (B.str 19) (gl (by kernel_rfl))) (DA.cons (De.gStr' (B.str 20) (gl (by kernel_rfl))) (DA.cons (De.gStr' (B.str 21) (gl (by kernel_rfl))) DA.nil)))) rfl))))))
theorem x_p_is_rounding (B : Bas fs ds K mg base) : Fx P w K mg base 1 "is_rounding" 1 [] m_p_is_rounding := ⟨Pl.ad K (.glo "is_rounding"), _, _, [], B.glo 51, B.kp 6 (d := d_p_is_rounding) rfl, g_p_is_rounding B, B.binds 6 (d := d_p_is_rounding) rfl rfl (fun _ _ _ _ _ _ us hl => match us, hl with | [_], _ => by kernel_rfl), .nil, rfl, rfl⟩
theorem sc_p_power : FnScope ["number", "many", "found", "turn"] ["number", "many"] d_p_power.scope := ⟨rfl, rfl, rfl, by decide +kernel, rfl, by decide +kernel, by decide +kernel⟩
theorem g_p_power (B : Bas fs ds K mg base) : FnG P w K mg base 1 (Pl.ad K (.glo "power")) (fdAt K (Pl.ad K (.glo "power"))) ["number", "many"] m_p_power :=
  fn_ok (B.c.def_ 7 (d := d_p_power)) sc_p_power (fun cdv A outer s H E hr => (DSs.cons (DS.set (i := 2) sc_p_power.nd rfl (.inl (by kernel_rfl)) De.int)
    (DSs.cons (DS.for passesG rfl (DI.range1 (gl (by kernel_rfl)) (B.free 3) (De.var (i := 1) rfl (.inl (by kernel_rfl)))) (DG.name (vs0 := [3]) (i := 3) (by decide) sc_p_power.nd rfl (.inl (by kernel_rfl))) (DSs.one (DS.set (i := 2) sc_p_power.nd rfl (.inl (by kernel_rfl)) (De.bin dop_mul (De.var (i := 2) rfl (.inl (by kernel_rfl))) (De.var (i := 0) rfl (.inl (by kernel_rfl)))))) (fun _ => by kernel_rfl))
    (DSs.one (DS.ret (De.var (i := 2) rfl (.inl (by kernel_rfl))))))))
theorem x_p_power (B : Bas fs ds K mg base) : Fx P w K mg base 1 "power" 2 [] m_p_power := ⟨Pl.ad K (.glo "power"), _, _, [], B.glo 52, B.kp 7 (d := d_p_power) rfl, g_p_power B, B.binds 7 (d := d_p_power) rfl rfl (fun _ _ _ _ _ _ us hl => match us, hl with | [_, _], _ => by kernel_rfl), .nil, rfl, rfl⟩
theorem sc_p_need_parts : FnScope ["tops", "bottom", "rounding", "high", "flags", "flag"] ["tops", "bottom", "rounding", "high", "flags"] d_p_need_parts.scope := ⟨rfl, rfl, rfl, by decide +kernel, rfl, by decide +kernel, by decide +kernel⟩
theorem g_p_need_parts (B : Bas fs ds K mg base) : FnG P w K mg base 3 (Pl.ad K (.glo "need_parts")) (fdAt K (Pl.ad K (.glo "need_parts"))) ["tops", "bottom", "rounding", "high", "flags"] m_p_need_parts :=
  fn_ok (B.c.def_ 8 (d := d_p_need_parts)) sc_p_need_parts (fun cdv A outer s H E hr => (DSs.cons (DS.ite (DW.dt (DW.or (DT.not (DT.val (De.fx (x_p_are_between B) hr takesG (DA.cons (De.var (i := 0) rfl (.inl (by kernel_rfl))) (DA.cons (De.un du_neg (De.gInt' (B.int 11) (gl (by kernel_rfl)))) (DA.cons (De.gInt' (B.int 11) (gl (by kernel_rfl))) DA.nil))) (gl (by kernel_rfl))))) (DW.or1 (DT.not (DT.chain dop_le dop_le De.int (De.callB dc_len (gl (by kernel_rfl)) (B.free 0) (by kernel_rfl) (DA.cons (De.var (i := 0) rfl (.inl (by kernel_rfl))) DA.nil)) (De.gInt' (B.int 12) (gl (by kernel_rfl)))))))) (DSs.one (DS.rs (i := 13) (i2 := 14) B takesG rfl (gl (by kernel_rfl)))) DSs.nil)
    (DSs.cons (DS.ite (DT.not (DT.val (De.fx (x_p_is_between B) hr takesG (DA.cons (De.var (i := 1) rfl (.inl (by kernel_rfl))) (DA.cons De.int (DA.cons (De.gInt' (B.int 15) (gl (by kernel_rfl))) DA.nil))) (gl (by kernel_rfl))))) (DSs.one (DS.rs (i := 16) (i2 := 17) B takesG rfl (gl (by kernel_rfl)))) DSs.nil)
    (DSs.cons (DS.ite (DT.not (DT.val (De.fx (x_p_is_rounding B) hr takesG (DA.cons (De.var (i := 2) rfl (.inl (by kernel_rfl))) DA.nil) (gl (by kernel_rfl))))) (DSs.one (DS.rs (i := 22) (i2 := 23) B takesG rfl (gl (by kernel_rfl)))) DSs.nil)
    (DSs.cons (DS.ite (DT.not (DT.val (De.fx (x_p_is_between B) hr takesG (DA.cons (De.var (i := 3) rfl (.inl (by kernel_rfl))) (DA.cons De.int (DA.cons (De.gInt' (B.int 24) (gl (by kernel_rfl))) DA.nil))) (gl (by kernel_rfl))))) (DSs.one (DS.rs (i := 25) (i2 := 26) B takesG rfl (gl (by kernel_rfl)))) DSs.nil)
    (DSs.cons (DS.ite (DT.not (DT.val (De.callB (dc_all rfl) (gl (by kernel_rfl)) (B.free 10) (by kernel_rfl) (DA.cons (De.new (DF.comp (own := [("flag", 5)]) rfl sc_p_need_parts.nd (DI.val (De.var (i := 4) rfl (.inl (by kernel_rfl)))) (blkOk_by (by kernel_rfl)) (fun s H C cl fp => (DG.name (vs0 := [5]) (i := 5) (by decide) sc_p_need_parts.nd rfl (.inl (by kernel_rfl)))) (fun s H C cl fp => DTs.nil) (fun s H C cl fp => (De.callB (dc_isiU (isiU_ok B.k B.g (B.c.fact 5)) (B.isx 6 rfl rfl rfl)) (gl (by kernel_rfl)) (B.free 7) (by kernel_rfl) (DA.cons (De.var (i := 5) rfl (.inl (by kernel_rfl))) (DA.cons (De.bty (gl (by kernel_rfl)) (B.free 9) (by kernel_rfl)) DA.nil)))))) DA.nil)))) (DSs.one (DS.rs (i := 27) (i2 := 28) B takesG rfl (gl (by kernel_rfl)))) DSs.nil)
    (DSs.one (DS.ite (DT.cmp dop_gt (De.fx (x_p_power B) hr takesG (DA.cons (De.bin dop_add (De.bin dop_mul De.int (De.var (i := 3) rfl (.inl (by kernel_rfl)))) De.int) (DA.cons (De.callB dc_len (gl (by kernel_rfl)) (B.free 0) (by kernel_rfl) (DA.cons (De.var (i := 0) rfl (.inl (by kernel_rfl))) DA.nil)) DA.nil)) (gl (by kernel_rfl))) (De.gInt' (B.int 29) (gl (by kernel_rfl))) rfl) (DSs.one (DS.rs (i := 30) (i2 := 31) B takesG rfl (gl (by kernel_rfl)))) DSs.nil))))))))
theorem x_p_need_parts (B : Bas fs ds K mg base) : Fx P w K mg base 3 "need_parts" 5 [] m_p_need_parts := ⟨Pl.ad K (.glo "need_parts"), _, _, [], B.glo 53, B.kp 8 (d := d_p_need_parts) rfl, g_p_need_parts B, B.binds 8 (d := d_p_need_parts) rfl rfl (fun _ _ _ _ _ _ us hl => match us, hl with | [_, _, _, _, _], _ => by kernel_rfl), .nil, rfl, rfl⟩
theorem sc_p_Filter_init : FnScope ["self", "tops", "bottom", "rounding", "high", "each", "wraps"] ["self", "tops", "bottom", "rounding", "high", "each", "wraps"] d_p_Filter_init.scope := ⟨rfl, rfl, rfl, by decide +kernel, rfl, by decide +kernel, by decide +kernel⟩
theorem g_p_Filter_init (B : Bas fs ds K mg base) : FnG P w K mg base 4 (Pl.ad K (.meth "Filter" "__init__")) (fdAt K (Pl.ad K (.meth "Filter" "__init__"))) ["self", "tops", "bottom", "rounding", "high", "each", "wraps"] m_p_Filter_init :=
  fn_ok (B.c.def_ 9 (d := d_p_Filter_init)) sc_p_Filter_init (fun cdv A outer s H E hr => (DSs.cons (DS.expr (De.fx (x_p_need_parts B) hr takesG (DA.cons (De.var (i := 1) rfl (.inl (by kernel_rfl))) (DA.cons (De.var (i := 2) rfl (.inl (by kernel_rfl))) (DA.cons (De.var (i := 3) rfl (.inl (by kernel_rfl))) (DA.cons (De.var (i := 4) rfl (.inl (by kernel_rfl))) (DA.cons (De.tup (DA.cons (De.var (i := 5) rfl (.inl (by kernel_rfl))) (DA.cons (De.var (i := 6) rfl (.inl (by kernel_rfl))) DA.nil))) DA.nil))))) (gl (by kernel_rfl))))
    (DSs.one (DS.fs (i := 32) (i2 := 33) (i3 := 34) B (De.var (i := 0) rfl (.inl (by kernel_rfl))) (De.tup (DA.cons (De.var (i := 1) rfl (.inl (by kernel_rfl))) (DA.cons (De.var (i := 2) rfl (.inl (by kernel_rfl))) (DA.cons (De.var (i := 3) rfl (.inl (by kernel_rfl))) (DA.cons (De.var (i := 4) rfl (.inl (by kernel_rfl))) (DA.cons (De.var (i := 5) rfl (.inl (by kernel_rfl))) (DA.cons (De.var (i := 6) rfl (.inl (by kernel_rfl))) DA.nil)))))))))))
theorem x_p_Filter_init_6 (B : Bas fs ds K mg base) : Mx P w K mg base 4 "Filter" 6 [] m_p_Filter_init := by
  obtain ⟨us0, hd, hb⟩ := B.bindsD (ps := ["self", "tops", "bottom", "rounding", "high", "each", "wraps"]) 9 (d := d_p_Filter_init) 7 4 rfl [] (by simp [Df.dvs, d_p_Filter_init]) rfl rfl (fun _ _ _ _ _ _ _ us its hl hi => match us, hl, its, hi with | [_, _, _, _, _, _, _], _, [_, _, _, _], _ => ⟨_, rfl, by kernel_rfl⟩)
  exact ⟨_, _, _, _, us0, B.glo 32, He.mkr_ok (B.c.fact 54 (f := fa (.mkr "Filter"))), g_p_Filter_init B, hb, hd, rfl, rfl⟩
theorem sc_made : FnScope ["_law_parts_here"] ["_law_parts_here"] d_made.scope := ⟨rfl, rfl, rfl, by decide +kernel, rfl, by decide +kernel, by decide +kernel⟩
theorem g_made (B : Bas fs ds K mg base) : FnG P w K mg base 6 (Pl.ad K (.glo "_law_made")) (fdAt K (Pl.ad K (.glo "_law_made"))) ["_law_parts_here"] m_made :=
  fn_ok (B.c.def_ 10 (d := d_made)) sc_made (fun cdv A outer s H E hr => (DSs.one (DS.ret (De.mx true (x_p_Filter_init_6 B) hr takesG (DA.cons (De.ix (De.var (i := 0) rfl (.inl (by kernel_rfl))) De.int) (DA.cons (De.ix (De.var (i := 0) rfl (.inl (by kernel_rfl))) De.int) (DA.cons (De.ix (De.var (i := 0) rfl (.inl (by kernel_rfl))) De.int) (DA.cons (De.ix (De.var (i := 0) rfl (.inl (by kernel_rfl))) De.int) (DA.cons (De.ix (De.var (i := 0) rfl (.inl (by kernel_rfl))) De.int) (DA.cons (De.ix (De.var (i := 0) rfl (.inl (by kernel_rfl))) De.int) DA.nil)))))) (gl (by kernel_rfl))))))
theorem x_made (B : Bas fs ds K mg base) : Fx P w K mg base 6 "_law_made" 1 [] m_made := ⟨Pl.ad K (.glo "_law_made"), _, _, [], B.glo 55, B.kp 10 (d := d_made) rfl, g_made B, B.binds 10 (d := d_made) rfl rfl (fun _ _ _ _ _ _ us hl => match us, hl with | [_], _ => by kernel_rfl), .nil, rfl, rfl⟩
theorem sc_states : FnScope ["_law_parts_here", "_law_found", "_law_turn", "_law_longer", "_law_state", "_law_one"] ["_law_parts_here"] d_states.scope := ⟨rfl, rfl, rfl, by decide +kernel, rfl, by decide +kernel, by decide +kernel⟩
theorem g_states (B : Bas fs ds K mg base) : FnG P w K mg base 1 (Pl.ad K (.glo "_law_states")) (fdAt K (Pl.ad K (.glo "_law_states"))) ["_law_parts_here"] m_states :=
  fn_ok (B.c.def_ 11 (d := d_states)) sc_states (fun cdv A outer s H E hr => (DSs.cons (DS.set (i := 1) sc_states.nd rfl (.inl (by kernel_rfl)) (De.lst (DA.cons (De.tup DA.nil) DA.nil)))
    (DSs.cons (DS.for passesG rfl (DI.val (De.ix (De.var (i := 0) rfl (.inl (by kernel_rfl))) De.int)) (DG.name (vs0 := [2]) (i := 2) (by decide) sc_states.nd rfl (.inl (by kernel_rfl))) (DSs.cons (DS.set (i := 3) sc_states.nd rfl (.inl (by kernel_rfl)) (De.lst DA.nil))
    (DSs.cons (DS.for passesG rfl (DI.val (De.var (i := 1) rfl (.inl (by kernel_rfl)))) (DG.name (vs0 := [4]) (i := 4) (by decide) sc_states.nd rfl (.inr (by kernel_rfl))) (DSs.one (DS.set (i := 3) sc_states.nd rfl (.inl (by kernel_rfl)) (De.bin dop_add (De.var (i := 3) rfl (.inl (by kernel_rfl))) (De.new (DF.comp (own := [("_law_one", 5)]) rfl sc_states.nd (DI.range2 (gl (by kernel_rfl)) (B.free 3) (De.un du_neg (De.ix (De.var (i := 0) rfl (.inl (by kernel_rfl))) De.int)) (De.bin dop_add (De.ix (De.var (i := 0) rfl (.inl (by kernel_rfl))) De.int) De.int)) (blkOk_by (by kernel_rfl)) (fun s H C cl fp => (DG.name (vs0 := [5]) (i := 5) (by decide) sc_states.nd rfl (.inl (by kernel_rfl)))) (fun s H C cl fp => DTs.nil) (fun s H C cl fp => (De.bin dop_add (De.var (i := 4) rfl (.inr (.inl (by kernel_rfl)))) (De.tup (DA.cons (De.var (i := 5) rfl (.inl (by kernel_rfl))) DA.nil))))))))) (fun _ => by kernel_rfl))
    (DSs.one (DS.set (i := 1) sc_states.nd rfl (.inl (by kernel_rfl)) (De.var (i := 3) rfl (.inl (by kernel_rfl))))))) (fun _ => by kernel_rfl))
    (DSs.one (DS.ret (De.var (i := 1) rfl (.inl (by kernel_rfl))))))))
theorem x_states (B : Bas fs ds K mg base) : Fx P w K mg base 1 "_law_states" 1 [] m_states := ⟨Pl.ad K (.glo "_law_states"), _, _, [], B.glo 56, B.kp 11 (d := d_states) rfl, g_states B, B.binds 11 (d := d_states) rfl rfl (fun _ _ _ _ _ _ us hl => match us, hl with | [_], _ => by kernel_rfl), .nil, rfl, rfl⟩
theorem sc_fit : FnScope ["_law_parts_here", "_law_number", "_law_high"] ["_law_parts_here", "_law_number"] d_fit.scope := ⟨rfl, rfl, rfl, by decide +kernel, rfl, by decide +kernel, by decide +kernel⟩
theorem g_fit (B : Bas fs ds K mg base) : FnG P w K mg base 1 (Pl.ad K (.glo "_law_fit")) (fdAt K (Pl.ad K (.glo "_law_fit"))) ["_law_parts_here", "_law_number"] m_fit_k74 :=
  fn_ok (B.c.def_ 12 (d := d_fit)) sc_fit (fun cdv A outer s H E hr => (DSs.cons (DS.set (i := 2) sc_fit.nd rfl (.inl (by kernel_rfl)) (De.ix (De.var (i := 0) rfl (.inl (by kernel_rfl))) De.int))
    (DSs.cons (DS.ite (DT.not (DT.val (De.ix (De.var (i := 0) rfl (.inl (by kernel_rfl))) De.int))) (DSs.one (DS.ret (De.callB (dc_max rfl) (gl (by kernel_rfl)) (B.free 2) (by kernel_rfl) (DA.cons (De.un du_neg (De.var (i := 2) rfl (.inl (by kernel_rfl)))) (DA.cons (De.callB (dc_min rfl) (gl (by kernel_rfl)) (B.free 1) (by kernel_rfl) (DA.cons (De.var (i := 2) rfl (.inl (by kernel_rfl))) (DA.cons (De.var (i := 1) rfl (.inl (by kernel_rfl))) DA.nil))) DA.nil))))) DSs.nil)
    (DSs.one (DS.ret (De.bin dop_sub (De.bin dop_mod (De.bin dop_add (De.var (i := 1) rfl (.inl (by kernel_rfl))) (De.var (i := 2) rfl (.inl (by kernel_rfl)))) (De.bin dop_add (De.bin dop_mul De.int (De.var (i := 2) rfl (.inl (by kernel_rfl)))) De.int)) (De.var (i := 2) rfl (.inl (by kernel_rfl)))))))))
theorem x_fit (B : Bas fs ds K mg base) : Fx P w K mg base 1 "_law_fit" 2 [] m_fit_k74 := ⟨Pl.ad K (.glo "_law_fit"), _, _, [], B.glo 57, B.kp 12 (d := d_fit) rfl, g_fit B, B.binds 12 (d := d_fit) rfl rfl (fun _ _ _ _ _ _ us hl => match us, hl with | [_, _], _ => by kernel_rfl), .nil, rfl, rfl⟩
theorem sc_round : FnScope ["_law_top", "_law_bottom", "_law_word", "_law_low", "_law_more"] ["_law_top", "_law_bottom", "_law_word"] d_round.scope := ⟨rfl, rfl, rfl, by decide +kernel, rfl, by decide +kernel, by decide +kernel⟩
theorem g_round (B : Bas fs ds K mg base) : FnG P w K mg base 1 (Pl.ad K (.glo "_law_round")) (fdAt K (Pl.ad K (.glo "_law_round"))) ["_law_top", "_law_bottom", "_law_word"] m_round_k74 :=
  fn_ok (B.c.def_ 13 (d := d_round)) sc_round (fun cdv A outer s H E hr => (DSs.cons (DS.set (i := 3) sc_round.nd rfl (.inl (by kernel_rfl)) (De.bin dop_div (De.var (i := 0) rfl (.inl (by kernel_rfl))) (De.var (i := 1) rfl (.inl (by kernel_rfl)))))
    (DSs.cons (DS.set (i := 4) sc_round.nd rfl (.inl (by kernel_rfl)) (De.bin dop_sub (De.var (i := 0) rfl (.inl (by kernel_rfl))) (De.bin dop_mul (De.var (i := 3) rfl (.inl (by kernel_rfl))) (De.var (i := 1) rfl (.inl (by kernel_rfl))))))
    (DSs.cons (DS.ite (DW.dt (DW.or (DT.cmp (dop_eq hr.h64) (De.var (i := 2) rfl (.inl (by kernel_rfl))) De.str rfl) (DW.or1 (DT.cmp (dop_eq hr.h64) (De.var (i := 4) rfl (.inl (by kernel_rfl))) De.int rfl)))) (DSs.one (DS.ret (De.var (i := 3) rfl (.inl (by kernel_rfl))))) DSs.nil)
    (DSs.cons (DS.ite (DT.cmp (dop_eq hr.h64) (De.var (i := 2) rfl (.inl (by kernel_rfl))) De.str rfl) (DSs.one (DS.ret (De.bin dop_add (De.var (i := 3) rfl (.inl (by kernel_rfl))) (De.callTy dc_int (gl (by kernel_rfl)) (B.free 8) (by kernel_rfl) (DA.cons (De.cmp dop_lt (De.var (i := 0) rfl (.inl (by kernel_rfl))) De.int rfl) DA.nil))))) DSs.nil)
    (DSs.one (DS.ret (De.bin dop_add (De.var (i := 3) rfl (.inl (by kernel_rfl))) (De.callTy dc_int (gl (by kernel_rfl)) (B.free 8) (by kernel_rfl) (DA.cons (De.or (De.cmp dop_gt (De.bin dop_mul De.int (De.var (i := 4) rfl (.inl (by kernel_rfl)))) (De.var (i := 1) rfl (.inl (by kernel_rfl))) rfl) (De.one (De.and (De.cmp (dop_eq hr.h64) (De.bin dop_mul De.int (De.var (i := 4) rfl (.inl (by kernel_rfl)))) (De.var (i := 1) rfl (.inl (by kernel_rfl))) rfl) (De.one (De.cmp dop_gt (De.var (i := 0) rfl (.inl (by kernel_rfl))) De.int rfl))))) DA.nil))))))))))
theorem x_round (B : Bas fs ds K mg base) : Fx P w K mg base 1 "_law_round" 3 [] m_round_k74 := ⟨Pl.ad K (.glo "_law_round"), _, _, [], B.glo 58, B.kp 13 (d := d_round) rfl, g_round B, B.binds 13 (d := d_round) rfl rfl (fun _ _ _ _ _ _ us hl => match us, hl with | [_, _, _], _ => by kernel_rfl), .nil, rfl, rfl⟩
theorem sc_sum : FnScope ["_law_parts_here", "_law_state", "_law_top", "_law_one"] ["_law_parts_here", "_law_state"] d_sum.scope := ⟨rfl, rfl, rfl, by decide +kernel, rfl, by decide +kernel, by decide +kernel⟩
theorem g_sum (B : Bas fs ds K mg base) : FnG P w K mg base 2 (Pl.ad K (.glo "_law_sum")) (fdAt K (Pl.ad K (.glo "_law_sum"))) ["_law_parts_here", "_law_state"] m_sum_k74 :=
  fn_ok (B.c.def_ 14 (d := d_sum)) sc_sum (fun cdv A outer s H E hr => (DSs.cons (DS.ite (DT.val (De.ix (De.var (i := 0) rfl (.inr (.inl (by kernel_rfl)))) De.int)) (DSs.one (DS.ret (De.callB (dc_sum rfl) (gl (by kernel_rfl)) (B.free 36) (by kernel_rfl) (DA.cons (De.new (DF.comp (own := [("_law_top", 2), ("_law_one", 3)]) rfl sc_sum.nd (DI.zip (gl (by kernel_rfl)) (B.free 35) (De.ix (De.var (i := 0) rfl (.inr (.inl (by kernel_rfl)))) De.int) (De.var (i := 1) rfl (.inl (by kernel_rfl)))) (blkOk_by (by kernel_rfl)) (fun s H C cl fp => (DG.tup rfl (DGs.cons (DG.name (vs0 := [2, 3]) (i := 2) (by decide) sc_sum.nd rfl (.inl (by kernel_rfl))) (DGs.cons (DG.name (vs0 := [2, 3]) (i := 3) (by decide) sc_sum.nd rfl (.inl (by kernel_rfl))) DGs.nil)))) (fun s H C cl fp => DTs.nil) (fun s H C cl fp => (De.fx (x_round B) hr takes_never (DA.cons (De.bin dop_mul (De.var (i := 2) rfl (.inl (by kernel_rfl))) (De.var (i := 3) rfl (.inl (by kernel_rfl)))) (DA.cons (De.ix (De.var (i := 0) rfl (.inr (.inl (by kernel_rfl)))) De.int) (DA.cons (De.ix (De.var (i := 0) rfl (.inr (.inl (by kernel_rfl)))) De.int) DA.nil))) (gl (by kernel_rfl)))))) DA.nil)))) DSs.nil)
    (DSs.one (DS.ret (De.fx (x_round B) hr takesG (DA.cons (De.callB (dc_sum rfl) (gl (by kernel_rfl)) (B.free 36) (by kernel_rfl) (DA.cons (De.new (DF.comp (own := [("_law_top", 2), ("_law_one", 3)]) rfl sc_sum.nd (DI.zip (gl (by kernel_rfl)) (B.free 35) (De.ix (De.var (i := 0) rfl (.inr (.inl (by kernel_rfl)))) De.int) (De.var (i := 1) rfl (.inl (by kernel_rfl)))) (blkOk_by (by kernel_rfl)) (fun s H C cl fp => (DG.tup rfl (DGs.cons (DG.name (vs0 := [2, 3]) (i := 2) (by decide) sc_sum.nd rfl (.inl (by kernel_rfl))) (DGs.cons (DG.name (vs0 := [2, 3]) (i := 3) (by decide) sc_sum.nd rfl (.inl (by kernel_rfl))) DGs.nil)))) (fun s H C cl fp => DTs.nil) (fun s H C cl fp => (De.bin dop_mul (De.var (i := 2) rfl (.inl (by kernel_rfl))) (De.var (i := 3) rfl (.inl (by kernel_rfl))))))) DA.nil)) (DA.cons (De.ix (De.var (i := 0) rfl (.inr (.inl (by kernel_rfl)))) De.int) (DA.cons (De.ix (De.var (i := 0) rfl (.inr (.inl (by kernel_rfl)))) De.int) DA.nil))) (gl (by kernel_rfl)))))))
theorem x_sum (B : Bas fs ds K mg base) : Fx P w K mg base 2 "_law_sum" 2 [] m_sum_k74 := ⟨Pl.ad K (.glo "_law_sum"), _, _, [], B.glo 59, B.kp 14 (d := d_sum) rfl, g_sum B, B.binds 14 (d := d_sum) rfl rfl (fun _ _ _ _ _ _ us hl => match us, hl with | [_, _], _ => by kernel_rfl), .nil, rfl, rfl⟩
theorem sc_step : FnScope ["_law_parts_here", "_law_state", "_law_x"] ["_law_parts_here", "_law_state", "_law_x"] d_step.scope := ⟨rfl, rfl, rfl, by decide +kernel, rfl, by decide +kernel, by decide +kernel⟩
theorem g_step (B : Bas fs ds K mg base) : FnG P w K mg base 3 (Pl.ad K (.glo "_law_step")) (fdAt K (Pl.ad K (.glo "_law_step"))) ["_law_parts_here", "_law_state", "_law_x"] m_step_k74 :=
  fn_ok (B.c.def_ 15 (d := d_step)) sc_step (fun cdv A outer s H E hr => (DSs.one (DS.ret (De.bin dop_add (De.tup (DA.cons (De.fx (x_fit B) hr takesG (DA.cons (De.var (i := 0) rfl (.inl (by kernel_rfl))) (DA.cons (De.bin dop_add (De.fx (x_sum B) hr takesG (DA.cons (De.var (i := 0) rfl (.inl (by kernel_rfl))) (DA.cons (De.var (i := 1) rfl (.inl (by kernel_rfl))) DA.nil)) (gl (by kernel_rfl))) (De.var (i := 2) rfl (.inl (by kernel_rfl)))) DA.nil)) (gl (by kernel_rfl))) DA.nil)) (De.slice (De.var (i := 1) rfl (.inl (by kernel_rfl))) DO.none (DO.some (De.un du_neg De.int)))))))
theorem x_step (B : Bas fs ds K mg base) : Fx P w K mg base 3 "_law_step" 3 [] m_step_k74 := ⟨Pl.ad K (.glo "_law_step"), _, _, [], B.glo 60, B.kp 15 (d := d_step) rfl, g_step B, B.binds 15 (d := d_step) rfl rfl (fun _ _ _ _ _ _ us hl => match us, hl with | [_, _, _], _ => by kernel_rfl), .nil, rfl, rfl⟩
theorem sc_peak : FnScope ["_law_parts_here", "_law_size", "_law_here", "_law_met", "_law_later", "_law_one"] ["_law_parts_here", "_law_size"] d_peak.scope := ⟨rfl, rfl, rfl, by decide +kernel, rfl, by decide +kernel, by decide +kernel⟩
theorem g_peak (B : Bas fs ds K mg base) : FnG P w K mg base 4 (Pl.ad K (.glo "_law_peak")) (fdAt K (Pl.ad K (.glo "_law_peak"))) ["_law_parts_here", "_law_size"] m_peak :=
  fn_ok (B.c.def_ 16 (d := d_peak)) sc_peak (fun cdv A outer s H E hr => (DSs.cons (DS.asg (De.tup (DA.cons (De.cell (DF.comp (own := [("_law_one", 5)]) rfl sc_peak.nd (DI.val (De.fx (x_states B) hr takesG (DA.cons (De.var (i := 0) rfl (.inr (.inl (by kernel_rfl)))) DA.nil) (gl (by kernel_rfl)))) (blkOk_by (by kernel_rfl)) (fun s H C cl fp => (DG.name (vs0 := [5]) (i := 5) (by decide) sc_peak.nd rfl (.inl (by kernel_rfl)))) (fun s H C cl fp => (DTs.one (DW.dt (DW.and (DT.cmp dop_le (De.callB (dc_maxA rfl hr.h64) (gl (by kernel_rfl)) (B.free 2) (by kernel_rfl) (DA.cons (De.var (i := 5) rfl (.inl (by kernel_rfl))) DA.nil)) (De.var (i := 1) rfl (.inr (.inl (by kernel_rfl)))) rfl) (DW.and1 (DT.cmp dop_ge (De.callB (dc_minA rfl hr.h64) (gl (by kernel_rfl)) (B.free 1) (by kernel_rfl) (DA.cons (De.var (i := 5) rfl (.inl (by kernel_rfl))) DA.nil)) (De.un du_neg (De.var (i := 1) rfl (.inr (.inl (by kernel_rfl))))) rfl)))))) (fun s H C cl fp => (De.var (i := 5) rfl (.inl (by kernel_rfl)))))) (DA.cons De.celD DA.nil))) (DG.tup rfl (DGs.cons (DG.name (vs0 := [2, 3]) (i := 2) (by decide) sc_peak.nd rfl (.inl (by kernel_rfl))) (DGs.cons (DG.name (vs0 := [2, 3]) (i := 3) (by decide) sc_peak.nd rfl (.inr (by kernel_rfl))) DGs.nil))))
    (DSs.cons (DS.while passesG (DT.cmp (dop_ne hr.h64) (De.var (i := 2) rfl (.inl (by kernel_rfl))) (De.lst DA.nil) rfl) (DSs.cons (DS.setComp (j := 4) (own := [("_law_one", 5)]) rfl sc_peak.nd rfl (by kernel_rfl) (DI.val (De.var (i := 2) rfl (.inl (by kernel_rfl)))) (blkOk_by (by kernel_rfl)) (fun s H C cl fp => (DG.name (vs0 := [5]) (i := 5) (by decide) sc_peak.nd rfl (.inl (by kernel_rfl)))) (fun s H C cl fp => DTs.nil) (fun s H C cl fp => (De.fx (x_step B) hr takes_never (DA.cons (De.var (i := 0) rfl (.inr (.inl (by kernel_rfl)))) (DA.cons (De.var (i := 5) rfl (.inl (by kernel_rfl))) (DA.cons De.int DA.nil))) (gl (by kernel_rfl)))) (sw_true rfl (by kernel_rfl) rfl (by kernel_rfl)))
    (DSs.cons (DS.set (i := 2) sc_peak.nd rfl (.inl (by kernel_rfl)) (De.cell (DF.lst DA.nil)))
    (DSs.one (DS.for passesG rfl (DI.val (De.var (i := 4) rfl (.inl (by kernel_rfl)))) (DG.name (vs0 := [5]) (i := 5) (by decide) sc_peak.nd rfl (.inl (by kernel_rfl))) (DSs.one (DS.ite (DT.cmp (dop_ninD hr.h64) (De.var (i := 5) rfl (.inl (by kernel_rfl))) (De.var (i := 3) rfl (.inr (.inl (by kernel_rfl)))) rfl) (DSs.cons (DS.putC hr.h64 (De.callB dc_abs (gl (by kernel_rfl)) (B.free 37) (by kernel_rfl) (DA.cons (De.ix (De.var (i := 5) rfl (.inl (by kernel_rfl))) De.int) DA.nil)) (De.var (i := 3) rfl (.inr (.inl (by kernel_rfl)))) (De.var (i := 5) rfl (.inl (by kernel_rfl))))
    (DSs.one (DS.expr (De.bm PySem.F.plainAttrs_list PySem.F.slot_list_append PySem.F.type_list_append dmt_append (De.var (i := 2) rfl (.inl (by kernel_rfl))) (DA.cons (De.var (i := 5) rfl (.inl (by kernel_rfl))) DA.nil))))) DSs.nil)) (fun _ => by kernel_rfl))))))
    (DSs.one (DS.ret (De.callB (dc_max rfl) (gl (by kernel_rfl)) (B.free 2) (by kernel_rfl) (DA.cons (De.new (DF.comp (own := [("_law_one", 5)]) rfl sc_peak.nd (DI.val (De.var (i := 3) rfl (.inr (.inl (by kernel_rfl))))) (blkOk_by (by kernel_rfl)) (fun s H C cl fp => (DG.name (vs0 := [5]) (i := 5) (by decide) sc_peak.nd rfl (.inl (by kernel_rfl)))) (fun s H C cl fp => DTs.nil) (fun s H C cl fp => (De.ixC hr.h64 (De.var (i := 3) rfl (.inr (.inl (by kernel_rfl)))) (De.var (i := 5) rfl (.inl (by kernel_rfl))))))) DA.nil)))))))
theorem x_peak (B : Bas fs ds K mg base) : Fx P w K mg base 4 "_law_peak" 2 [] m_peak := ⟨Pl.ad K (.glo "_law_peak"), _, _, [], B.glo 61, B.kp 16 (d := d_peak) rfl, g_peak B, B.binds 16 (d := d_peak) rfl rfl (fun _ _ _ _ _ _ us hl => match us, hl with | [_, _], _ => by kernel_rfl), .nil, rfl, rfl⟩
theorem sc_same : FnScope ["_law_found", "_law_due"] ["_law_found", "_law_due"] d_same.scope := ⟨rfl, rfl, rfl, by decide +kernel, rfl, by decide +kernel, by decide +kernel⟩
theorem g_same (B : Bas fs ds K mg base) : FnG P w K mg base 1 (Pl.ad K (.glo "_law_same")) (fdAt K (Pl.ad K (.glo "_law_same"))) ["_law_found", "_law_due"] m_same :=
  fn_ok (B.c.def_ 17 (d := d_same)) sc_same (fun cdv A outer s H E hr => (DSs.one (DS.ret (De.cmp (dop_eq hr.h64) (De.callB (dc_repr hr.gd hr.h100 (B.c.fact 38 (f := sysB))) (gl (by kernel_rfl)) (B.free 39) (by kernel_rfl) (DA.cons (De.var (i := 0) rfl (.inl (by kernel_rfl))) DA.nil)) (De.callB (dc_repr hr.gd hr.h100 (B.c.fact 38 (f := sysB))) (gl (by kernel_rfl)) (B.free 39) (by kernel_rfl) (DA.cons (De.var (i := 1) rfl (.inl (by kernel_rfl))) DA.nil)) rfl))))
theorem x_same (B : Bas fs ds K mg base) : Fx P w K mg base 1 "_law_same" 2 [] m_same := ⟨Pl.ad K (.glo "_law_same"), _, _, [], B.glo 62, B.kp 17 (d := d_same) rfl, g_same B, B.binds 17 (d := d_same) rfl rfl (fun _ _ _ _ _ _ us hl => match us, hl with | [_, _], _ => by kernel_rfl), .nil, rfl, rfl⟩
theorem sc_p_need_filter : FnScope ["device"] ["device"] d_p_need_filter.scope := ⟨rfl, rfl, rfl, by decide +kernel, rfl, by decide +kernel, by decide +kernel⟩
theorem g_p_need_filter (B : Bas fs ds K mg base) : FnG P w K mg base 1 (Pl.ad K (.glo "need_filter")) (fdAt K (Pl.ad K (.glo "need_filter"))) ["device"] m_p_need_filter :=
  fn_ok (B.c.def_ 18 (d := d_p_need_filter)) sc_p_need_filter (fun cdv A outer s H E hr => (DSs.one (DS.ite (DT.not (DT.val (De.callB (dc_isiU (isiU_ok B.k B.g (B.c.fact 5)) (B.isx 6 rfl rfl rfl)) (gl (by kernel_rfl)) (B.free 7) (by kernel_rfl) (DA.cons (De.var (i := 0) rfl (.inl (by kernel_rfl))) (DA.cons (De.gCls (gl (by kernel_rfl)) (B.glo 32)) DA.nil))))) (DSs.one (DS.rs (i := 40) (i2 := 41) B takesG rfl (gl (by kernel_rfl)))) DSs.nil)))
theorem x_p_need_filter (B : Bas fs ds K mg base) : Fx P w K mg base 1 "need_filter" 1 [] m_p_need_filter := ⟨Pl.ad K (.glo "need_filter"), _, _, [], B.glo 63, B.kp 18 (d := d_p_need_filter) rfl, g_p_need_filter B, B.binds 18 (d := d_p_need_filter) rfl rfl (fun _ _ _ _ _ _ us hl => match us, hl with | [_], _ => by kernel_rfl), .nil, rfl, rfl⟩
theorem sc_p_Filter_high : FnScope ["self"] ["self"] d_p_Filter_high.scope := ⟨rfl, rfl, rfl, by decide +kernel, rfl, by decide +kernel, by decide +kernel⟩
theorem g_p_Filter_high (B : Bas fs ds K mg base) : FnG P w K mg base 1 (Pl.ad K (.get "Filter" "high")) (fdAt K (Pl.ad K (.get "Filter" "high"))) ["self"] m_p_Filter_high :=
  fn_ok (B.c.def_ 19 (d := d_p_Filter_high)) sc_p_Filter_high (fun cdv A outer s H E hr => (DSs.one (DS.ret (De.ix (De.fl (i := 32) (i2 := 33) (i3 := 34) B (De.var (i := 0) rfl (.inl (by kernel_rfl)))) De.int))))
theorem x_p_Filter_high (B : Bas fs ds K mg base) : Px P w K mg base 1 "Filter" "high" m_p_Filter_high := ⟨_, _, _, _, _, B.glo 32, He.cls_ok (B.c.fact 33 (f := fa (.cls "Filter"))), propB_ok (B.c.fact 64 (f := propB "Filter" "high")), g_p_Filter_high B, B.binds 19 (d := d_p_Filter_high) rfl rfl (fun _ _ _ _ _ _ us hl => match us, hl with | [_], _ => by kernel_rfl), rfl⟩
theorem sc_p_Filter_tops : FnScope ["self"] ["self"] d_p_Filter_tops.scope := ⟨rfl, rfl, rfl, by decide +kernel, rfl, by decide +kernel, by decide +kernel⟩
theorem g_p_Filter_tops (B : Bas fs ds K mg base) : FnG P w K mg base 1 (Pl.ad K (.get "Filter" "tops")) (fdAt K (Pl.ad K (.get "Filter" "tops"))) ["self"] m_p_Filter_tops :=
  fn_ok (B.c.def_ 20 (d := d_p_Filter_tops)) sc_p_Filter_tops (fun cdv A outer s H E hr => (DSs.one (DS.ret (De.ix (De.fl (i := 32) (i2 := 33) (i3 := 34) B (De.var (i := 0) rfl (.inl (by kernel_rfl)))) De.int))))
theorem x_p_Filter_tops (B : Bas fs ds K mg base) : Px P w K mg base 1 "Filter" "tops" m_p_Filter_tops := ⟨_, _, _, _, _, B.glo 32, He.cls_ok (B.c.fact 33 (f := fa (.cls "Filter"))), propB_ok (B.c.fact 65 (f := propB "Filter" "tops")), g_p_Filter_tops B, B.binds 20 (d := d_p_Filter_tops) rfl rfl (fun _ _ _ _ _ _ us hl => match us, hl with | [_], _ => by kernel_rfl), rfl⟩
theorem sc_p_Filter_order : FnScope ["self"] ["self"] d_p_Filter_order.scope := ⟨rfl, rfl, rfl, by decide +kernel, rfl, by decide +kernel, by decide +kernel⟩
theorem g_p_Filter_order (B : Bas fs ds K mg base) : FnG P w K mg base 3 (Pl.ad K (.get "Filter" "order")) (fdAt K (Pl.ad K (.get "Filter" "order"))) ["self"] m_p_Filter_order :=
  fn_ok (B.c.def_ 21 (d := d_p_Filter_order)) sc_p_Filter_order (fun cdv A outer s H E hr => (DSs.one (DS.ret (De.callB dc_len (gl (by kernel_rfl)) (B.free 0) (by kernel_rfl) (DA.cons (De.px (x_p_Filter_tops B) hr (De.var (i := 0) rfl (.inl (by kernel_rfl)))) DA.nil)))))
theorem x_p_Filter_order (B : Bas fs ds K mg base) : Px P w K mg base 3 "Filter" "order" m_p_Filter_order := ⟨_, _, _, _, _, B.glo 32, He.cls_ok (B.c.fact 33 (f := fa (.cls "Filter"))), propB_ok (B.c.fact 66 (f := propB "Filter" "order")), g_p_Filter_order B, B.binds 21 (d := d_p_Filter_order) rfl rfl (fun _ _ _ _ _ _ us hl => match us, hl with | [_], _ => by kernel_rfl), rfl⟩
theorem sc_p_states_of : FnScope ["device", "found", "turn", "state", "one"] ["device"] d_p_states_of.scope := ⟨rfl, rfl, rfl, by decide +kernel, rfl, by decide +kernel, by decide +kernel⟩
theorem g_p_states_of (B : Bas fs ds K mg base) : FnG P w K mg base 5 (Pl.ad K (.glo "states_of")) (fdAt K (Pl.ad K (.glo "states_of"))) ["device"] m_p_states_of :=
  fn_ok (B.c.def_ 22 (d := d_p_states_of)) sc_p_states_of (fun cdv A outer s H E hr => (DSs.cons (DS.set (i := 1) sc_p_states_of.nd rfl (.inl (by kernel_rfl)) (De.lst (DA.cons (De.tup DA.nil) DA.nil)))
    (DSs.cons (DS.for passesG rfl (DI.range1 (gl (by kernel_rfl)) (B.free 3) (De.px (x_p_Filter_order B) hr (De.var (i := 0) rfl (.inr (.inl (by kernel_rfl)))))) (DG.name (vs0 := [2]) (i := 2) (by decide) sc_p_states_of.nd rfl (.inl (by kernel_rfl))) (DSs.one (DS.setComp2 (j := 1) (own := [("state", 3), ("one", 4)]) (vs1 := [4]) rfl sc_p_states_of.nd rfl (by kernel_rfl) (DI.val (De.var (i := 1) rfl (.inl (by kernel_rfl)))) (blkOk_by (by kernel_rfl)) (by decide) (fun s H C cl fp => (DG.name (vs0 := [3, 4]) (i := 3) (by decide) sc_p_states_of.nd rfl (.inl (by kernel_rfl)))) (fun s H C cl fp => DTs.nil) (fun s H C cl fp => (DI.range2 (gl (by kernel_rfl)) (B.free 3) (De.un du_neg (De.px (x_p_Filter_high B) hr (De.var (i := 0) rfl (.inr (.inl (by kernel_rfl)))))) (De.bin dop_add (De.px (x_p_Filter_high B) hr (De.var (i := 0) rfl (.inr (.inl (by kernel_rfl))))) De.int))) (fun s H C cl fp => (DG.name (vs0 := [4]) (i := 4) (by decide) sc_p_states_of.nd rfl (.inl (by kernel_rfl)))) (fun s H C cl fp => DTs.nil) (fun s H C cl fp => (De.tup (DA.star (De.var (i := 3) rfl (.inl (by kernel_rfl))) (DA.cons (De.var (i := 4) rfl (.inl (by kernel_rfl))) DA.nil)))) (sw_true rfl (by kernel_rfl) rfl (by kernel_rfl)))) (fun _ => by kernel_rfl))
    (DSs.one (DS.ret (De.var (i := 1) rfl (.inl (by kernel_rfl))))))))
theorem x_p_states_of (B : Bas fs ds K mg base) : Fx P w K mg base 5 "states_of" 1 [] m_p_states_of := ⟨Pl.ad K (.glo "states_of"), _, _, [], B.glo 67, B.kp 22 (d := d_p_states_of) rfl, g_p_states_of B, B.binds 22 (d := d_p_states_of) rfl rfl (fun _ _ _ _ _ _ us hl => match us, hl with | [_], _ => by kernel_rfl), .nil, rfl, rfl⟩
theorem sc_p_Filter_wraps : FnScope ["self"] ["self"] d_p_Filter_wraps.scope := ⟨rfl, rfl, rfl, by decide +kernel, rfl, by decide +kernel, by decide +kernel⟩
theorem g_p_Filter_wraps (B : Bas fs ds K mg base) : FnG P w K mg base 1 (Pl.ad K (.get "Filter" "wraps")) (fdAt K (Pl.ad K (.get "Filter" "wraps"))) ["self"] m_p_Filter_wraps :=
  fn_ok (B.c.def_ 23 (d := d_p_Filter_wraps)) sc_p_Filter_wraps (fun cdv A outer s H E hr => (DSs.one (DS.ret (De.ix (De.fl (i := 32) (i2 := 33) (i3 := 34) B (De.var (i := 0) rfl (.inl (by kernel_rfl)))) De.int))))
theorem x_p_Filter_wraps (B : Bas fs ds K mg base) : Px P w K mg base 1 "Filter" "wraps" m_p_Filter_wraps := ⟨_, _, _, _, _, B.glo 32, He.cls_ok (B.c.fact 33 (f := fa (.cls "Filter"))), propB_ok (B.c.fact 68 (f := propB "Filter" "wraps")), g_p_Filter_wraps B, B.binds 23 (d := d_p_Filter_wraps) rfl rfl (fun _ _ _ _ _ _ us hl => match us, hl with | [_], _ => by kernel_rfl), rfl⟩
theorem sc_p_fitted : FnScope ["device", "number"] ["device", "number"] d_p_fitted.scope := ⟨rfl, rfl, rfl, by decide +kernel, rfl, by decide +kernel, by decide +kernel⟩
theorem g_p_fitted (B : Bas fs ds K mg base) : FnG P w K mg base 3 (Pl.ad K (.glo "fitted")) (fdAt K (Pl.ad K (.glo "fitted"))) ["device", "number"] m_p_fitted :=
  fn_ok (B.c.def_ 24 (d := d_p_fitted)) sc_p_fitted (fun cdv A outer s H E hr => (DSs.cons (DS.ite (DT.val (De.px (x_p_Filter_wraps B) hr (De.var (i := 0) rfl (.inl (by kernel_rfl))))) (DSs.one (DS.ret (De.bin dop_sub (De.bin dop_mod (De.bin dop_add (De.var (i := 1) rfl (.inl (by kernel_rfl))) (De.px (x_p_Filter_high B) hr (De.var (i := 0) rfl (.inl (by kernel_rfl))))) (De.bin dop_add (De.bin dop_mul De.int (De.px (x_p_Filter_high B) hr (De.var (i := 0) rfl (.inl (by kernel_rfl))))) De.int)) (De.px (x_p_Filter_high B) hr (De.var (i := 0) rfl (.inl (by kernel_rfl))))))) DSs.nil)
    (DSs.one (DS.ret (De.callB (dc_max rfl) (gl (by kernel_rfl)) (B.free 2) (by kernel_rfl) (DA.cons (De.un du_neg (De.px (x_p_Filter_high B) hr (De.var (i := 0) rfl (.inl (by kernel_rfl))))) (DA.cons (De.callB (dc_min rfl) (gl (by kernel_rfl)) (B.free 1) (by kernel_rfl) (DA.cons (De.px (x_p_Filter_high B) hr (De.var (i := 0) rfl (.inl (by kernel_rfl)))) (DA.cons (De.var (i := 1) rfl (.inl (by kernel_rfl))) DA.nil))) DA.nil)))))))
theorem x_p_fitted (B : Bas fs ds K mg base) : Fx P w K mg base 3 "fitted" 2 [] m_p_fitted := ⟨Pl.ad K (.glo "fitted"), _, _, [], B.glo 69, B.kp 24 (d := d_p_fitted) rfl, g_p_fitted B, B.binds 24 (d := d_p_fitted) rfl rfl (fun _ _ _ _ _ _ us hl => match us, hl with | [_, _], _ => by kernel_rfl), .nil, rfl, rfl⟩
theorem sc_p_Filter_each : FnScope ["self"] ["self"] d_p_Filter_each.scope := ⟨rfl, rfl, rfl, by decide +kernel, rfl, by decide +kernel, by decide +kernel⟩
theorem g_p_Filter_each (B : Bas fs ds K mg base) : FnG P w K mg base 1 (Pl.ad K (.get "Filter" "each")) (fdAt K (Pl.ad K (.get "Filter" "each"))) ["self"] m_p_Filter_each :=
  fn_ok (B.c.def_ 25 (d := d_p_Filter_each)) sc_p_Filter_each (fun cdv A outer s H E hr => (DSs.one (DS.ret (De.ix (De.fl (i := 32) (i2 := 33) (i3 := 34) B (De.var (i := 0) rfl (.inl (by kernel_rfl)))) De.int))))
theorem x_p_Filter_each (B : Bas fs ds K mg base) : Px P w K mg base 1 "Filter" "each" m_p_Filter_each := ⟨_, _, _, _, _, B.glo 32, He.cls_ok (B.c.fact 33 (f := fa (.cls "Filter"))), propB_ok (B.c.fact 70 (f := propB "Filter" "each")), g_p_Filter_each B, B.binds 25 (d := d_p_Filter_each) rfl rfl (fun _ _ _ _ _ _ us hl => match us, hl with | [_], _ => by kernel_rfl), rfl⟩
theorem sc_p_rounded : FnScope ["top", "bottom", "rounding", "size"] ["top", "bottom", "rounding"] d_p_rounded.scope := ⟨rfl, rfl, rfl, by decide +kernel, rfl, by decide +kernel, by decide +kernel⟩
theorem g_p_rounded (B : Bas fs ds K mg base) : FnG P w K mg base 1 (Pl.ad K (.glo "rounded")) (fdAt K (Pl.ad K (.glo "rounded"))) ["top", "bottom", "rounding"] m_p_rounded :=
  fn_ok (B.c.def_ 26 (d := d_p_rounded)) sc_p_rounded (fun cdv A outer s H E hr => (DSs.cons (DS.ite (DT.cmp (dop_eq hr.h64) (De.var (i := 2) rfl (.inl (by kernel_rfl))) (De.gStr' (B.str 21) (gl (by kernel_rfl))) rfl) (DSs.one (DS.ret (De.bin dop_div (De.var (i := 0) rfl (.inl (by kernel_rfl))) (De.var (i := 1) rfl (.inl (by kernel_rfl)))))) DSs.nil)
    (DSs.cons (DS.set (i := 3) sc_p_rounded.nd rfl (.inl (by kernel_rfl)) (De.ifExp (DT.cmp (dop_eq hr.h64) (De.var (i := 2) rfl (.inl (by kernel_rfl))) (De.gStr' (B.str 20) (gl (by kernel_rfl))) rfl) (De.bin dop_div (De.callB dc_abs (gl (by kernel_rfl)) (B.free 37) (by kernel_rfl) (DA.cons (De.var (i := 0) rfl (.inl (by kernel_rfl))) DA.nil)) (De.var (i := 1) rfl (.inl (by kernel_rfl)))) (De.bin dop_div (De.bin dop_add (De.bin dop_mul De.int (De.callB dc_abs (gl (by kernel_rfl)) (B.free 37) (by kernel_rfl) (DA.cons (De.var (i := 0) rfl (.inl (by kernel_rfl))) DA.nil))) (De.var (i := 1) rfl (.inl (by kernel_rfl)))) (De.bin dop_mul De.int (De.var (i := 1) rfl (.inl (by kernel_rfl)))))))
    (DSs.one (DS.ret (De.ifExp (DT.cmp dop_ge (De.var (i := 0) rfl (.inl (by kernel_rfl))) De.int rfl) (De.var (i := 3) rfl (.inl (by kernel_rfl))) (De.un du_neg (De.var (i := 3) rfl (.inl (by kernel_rfl))))))))))
theorem x_p_rounded (B : Bas fs ds K mg base) : Fx P w K mg base 1 "rounded" 3 [] m_p_rounded := ⟨Pl.ad K (.glo "rounded"), _, _, [], B.glo 71, B.kp 26 (d := d_p_rounded) rfl, g_p_rounded B, B.binds 26 (d := d_p_rounded) rfl rfl (fun _ _ _ _ _ _ us hl => match us, hl with | [_, _, _], _ => by kernel_rfl), .nil, rfl, rfl⟩
theorem sc_p_Filter_bottom : FnScope ["self"] ["self"] d_p_Filter_bottom.scope := ⟨rfl, rfl, rfl, by decide +kernel, rfl, by decide +kernel, by decide +kernel⟩
theorem g_p_Filter_bottom (B : Bas fs ds K mg base) : FnG P w K mg base 1 (Pl.ad K (.get "Filter" "bottom")) (fdAt K (Pl.ad K (.get "Filter" "bottom"))) ["self"] m_p_Filter_bottom :=
  fn_ok (B.c.def_ 27 (d := d_p_Filter_bottom)) sc_p_Filter_bottom (fun cdv A outer s H E hr => (DSs.one (DS.ret (De.ix (De.fl (i := 32) (i2 := 33) (i3 := 34) B (De.var (i := 0) rfl (.inl (by kernel_rfl)))) De.int))))
theorem x_p_Filter_bottom (B : Bas fs ds K mg base) : Px P w K mg base 1 "Filter" "bottom" m_p_Filter_bottom := ⟨_, _, _, _, _, B.glo 32, He.cls_ok (B.c.fact 33 (f := fa (.cls "Filter"))), propB_ok (B.c.fact 72 (f := propB "Filter" "bottom")), g_p_Filter_bottom B, B.binds 27 (d := d_p_Filter_bottom) rfl rfl (fun _ _ _ _ _ _ us hl => match us, hl with | [_], _ => by kernel_rfl), rfl⟩
theorem sc_p_Filter_rounding : FnScope ["self"] ["self"] d_p_Filter_rounding.scope := ⟨rfl, rfl, rfl, by decide +kernel, rfl, by decide +kernel, by decide +kernel⟩
theorem g_p_Filter_rounding (B : Bas fs ds K mg base) : FnG P w K mg base 1 (Pl.ad K (.get "Filter" "rounding")) (fdAt K (Pl.ad K (.get "Filter" "rounding"))) ["self"] m_p_Filter_rounding :=
  fn_ok (B.c.def_ 28 (d := d_p_Filter_rounding)) sc_p_Filter_rounding (fun cdv A outer s H E hr => (DSs.one (DS.ret (De.ix (De.fl (i := 32) (i2 := 33) (i3 := 34) B (De.var (i := 0) rfl (.inl (by kernel_rfl)))) De.int))))
theorem x_p_Filter_rounding (B : Bas fs ds K mg base) : Px P w K mg base 1 "Filter" "rounding" m_p_Filter_rounding := ⟨_, _, _, _, _, B.glo 32, He.cls_ok (B.c.fact 33 (f := fa (.cls "Filter"))), propB_ok (B.c.fact 73 (f := propB "Filter" "rounding")), g_p_Filter_rounding B, B.binds 28 (d := d_p_Filter_rounding) rfl rfl (fun _ _ _ _ _ _ us hl => match us, hl with | [_], _ => by kernel_rfl), rfl⟩
theorem sc_p_summed : FnScope ["device", "state", "products", "top", "one"] ["device", "state"] d_p_summed.scope := ⟨rfl, rfl, rfl, by decide +kernel, rfl, by decide +kernel, by decide +kernel⟩
theorem g_p_summed (B : Bas fs ds K mg base) : FnG P w K mg base 3 (Pl.ad K (.glo "summed")) (fdAt K (Pl.ad K (.glo "summed"))) ["device", "state"] m_p_summed :=
  fn_ok (B.c.def_ 29 (d := d_p_summed)) sc_p_summed (fun cdv A outer s H E hr => (DSs.cons (DS.setComp (j := 2) (own := [("top", 3), ("one", 4)]) rfl sc_p_summed.nd rfl (by kernel_rfl) (DI.zip (gl (by kernel_rfl)) (B.free 35) (De.px (x_p_Filter_tops B) hr (De.var (i := 0) rfl (.inr (.inl (by kernel_rfl))))) (De.var (i := 1) rfl (.inl (by kernel_rfl)))) (blkOk_by (by kernel_rfl)) (fun s H C cl fp => (DG.tup rfl (DGs.cons (DG.name (vs0 := [3, 4]) (i := 3) (by decide) sc_p_summed.nd rfl (.inl (by kernel_rfl))) (DGs.cons (DG.name (vs0 := [3, 4]) (i := 4) (by decide) sc_p_summed.nd rfl (.inl (by kernel_rfl))) DGs.nil)))) (fun s H C cl fp => DTs.nil) (fun s H C cl fp => (De.bin dop_mul (De.var (i := 3) rfl (.inl (by kernel_rfl))) (De.var (i := 4) rfl (.inl (by kernel_rfl))))) (sw_true rfl (by kernel_rfl) rfl (by kernel_rfl)))
    (DSs.cons (DS.ite (DT.not (DT.val (De.px (x_p_Filter_each B) hr (De.var (i := 0) rfl (.inr (.inl (by kernel_rfl))))))) (DSs.one (DS.ret (De.fx (x_p_rounded B) hr takesG (DA.cons (De.callB (dc_sum rfl) (gl (by kernel_rfl)) (B.free 36) (by kernel_rfl) (DA.cons (De.var (i := 2) rfl (.inl (by kernel_rfl))) DA.nil)) (DA.cons (De.px (x_p_Filter_bottom B) hr (De.var (i := 0) rfl (.inr (.inl (by kernel_rfl))))) (DA.cons (De.px (x_p_Filter_rounding B) hr (De.var (i := 0) rfl (.inr (.inl (by kernel_rfl))))) DA.nil))) (gl (by kernel_rfl))))) DSs.nil)
    (DSs.one (DS.ret (De.callB (dc_sum rfl) (gl (by kernel_rfl)) (B.free 36) (by kernel_rfl) (DA.cons (De.new (DF.comp (own := [("one", 4)]) rfl sc_p_summed.nd (DI.val (De.var (i := 2) rfl (.inl (by kernel_rfl)))) (blkOk_by (by kernel_rfl)) (fun s H C cl fp => (DG.name (vs0 := [4]) (i := 4) (by decide) sc_p_summed.nd rfl (.inl (by kernel_rfl)))) (fun s H C cl fp => DTs.nil) (fun s H C cl fp => (De.fx (x_p_rounded B) hr takes_never (DA.cons (De.var (i := 4) rfl (.inl (by kernel_rfl))) (DA.cons (De.px (x_p_Filter_bottom B) hr (De.var (i := 0) rfl (.inr (.inl (by kernel_rfl))))) (DA.cons (De.px (x_p_Filter_rounding B) hr (De.var (i := 0) rfl (.inr (.inl (by kernel_rfl))))) DA.nil))) (gl (by kernel_rfl)))))) DA.nil)))))))
theorem x_p_summed (B : Bas fs ds K mg base) : Fx P w K mg base 3 "summed" 2 [] m_p_summed := ⟨Pl.ad K (.glo "summed"), _, _, [], B.glo 74, B.kp 29 (d := d_p_summed) rfl, g_p_summed B, B.binds 29 (d := d_p_summed) rfl rfl (fun _ _ _ _ _ _ us hl => match us, hl with | [_, _], _ => by kernel_rfl), .nil, rfl, rfl⟩
theorem sc_p_stepped : FnScope ["device", "state", "x"] ["device", "state", "x"] d_p_stepped.scope := ⟨rfl, rfl, rfl, by decide +kernel, rfl, by decide +kernel, by decide +kernel⟩
theorem g_p_stepped (B : Bas fs ds K mg base) : FnG P w K mg base 4 (Pl.ad K (.glo "stepped")) (fdAt K (Pl.ad K (.glo "stepped"))) ["device", "state", "x"] m_p_stepped :=
  fn_ok (B.c.def_ 30 (d := d_p_stepped)) sc_p_stepped (fun cdv A outer s H E hr => (DSs.one (DS.ret (De.tup (DA.cons (De.fx (x_p_fitted B) hr takesG (DA.cons (De.var (i := 0) rfl (.inl (by kernel_rfl))) (DA.cons (De.bin dop_add (De.fx (x_p_summed B) hr takesG (DA.cons (De.var (i := 0) rfl (.inl (by kernel_rfl))) (DA.cons (De.var (i := 1) rfl (.inl (by kernel_rfl))) DA.nil)) (gl (by kernel_rfl))) (De.var (i := 2) rfl (.inl (by kernel_rfl)))) DA.nil)) (gl (by kernel_rfl))) (DA.star (De.slice (De.var (i := 1) rfl (.inl (by kernel_rfl))) DO.none (DO.some (De.un du_neg De.int))) DA.nil))))))
theorem x_p_stepped (B : Bas fs ds K mg base) : Fx P w K mg base 4 "stepped" 3 [] m_p_stepped := ⟨Pl.ad K (.glo "stepped"), _, _, [], B.glo 75, B.kp 30 (d := d_p_stepped) rfl, g_p_stepped B, B.binds 30 (d := d_p_stepped) rfl rfl (fun _ _ _ _ _ _ us hl => match us, hl with | [_, _, _], _ => by kernel_rfl), .nil, rfl, rfl⟩
theorem sc_p_peak : FnScope ["device", "size", "waiting", "met", "most", "later", "state", "one"] ["device", "size"] d_p_peak.scope := ⟨rfl, rfl, rfl, by decide +kernel, rfl, by decide +kernel, by decide +kernel⟩
theorem g_p_peak (B : Bas fs ds K mg base) : FnG P w K mg base 6 (Pl.ad K (.glo "peak")) (fdAt K (Pl.ad K (.glo "peak"))) ["device", "size"] m_p_peak :=
  fn_ok (B.c.def_ 31 (d := d_p_peak)) sc_p_peak (fun cdv A outer s H E hr => (DSs.cons (DS.expr (De.fx (x_p_need_filter B) hr takesG (DA.cons (De.var (i := 0) rfl (.inl (by kernel_rfl))) DA.nil) (gl (by kernel_rfl))))
    (DSs.cons (DS.ite (DT.not (DT.val (De.fx (x_p_is_between B) hr takesG (DA.cons (De.var (i := 1) rfl (.inr (.inl (by kernel_rfl)))) (DA.cons De.int (DA.cons (De.px (x_p_Filter_high B) hr (De.var (i := 0) rfl (.inl (by kernel_rfl)))) DA.nil))) (gl (by kernel_rfl))))) (DSs.one (DS.rs (i := 42) (i2 := 43) B takesG rfl (gl (by kernel_rfl)))) DSs.nil)
    (DSs.cons (DS.setCompC (j := 2) (own := [("state", 6)]) rfl sc_p_peak.nd rfl (by kernel_rfl) (DI.val (De.fx (x_p_states_of B) hr takesG (DA.cons (De.var (i := 0) rfl (.inl (by kernel_rfl))) DA.nil) (gl (by kernel_rfl)))) (blkOk_by (by kernel_rfl)) (fun s H C cl fp => (DG.name (vs0 := [6]) (i := 6) (by decide) sc_p_peak.nd rfl (.inl (by kernel_rfl)))) (fun s H C cl fp => (DTs.one (DT.cmp dop_le (De.callB (dc_max rfl) (gl (by kernel_rfl)) (B.free 2) (by kernel_rfl) (DA.cons (De.new (DF.comp (own := [("one", 7)]) rfl sc_p_peak.nd (DI.val (De.var (i := 6) rfl (.inl (by kernel_rfl)))) (blkOk_by (by kernel_rfl)) (fun s H C cl fp => (DG.name (vs0 := [7]) (i := 7) (by decide) sc_p_peak.nd rfl (.inl (by kernel_rfl)))) (fun s H C cl fp => DTs.nil) (fun s H C cl fp => (De.callB dc_abs (gl (by kernel_rfl)) (B.free 37) (by kernel_rfl) (DA.cons (De.var (i := 7) rfl (.inl (by kernel_rfl))) DA.nil))))) DA.nil)) (De.var (i := 1) rfl (.inr (.inl (by kernel_rfl)))) rfl))) (fun s H C cl fp => (De.var (i := 6) rfl (.inl (by kernel_rfl)))) (sw_true rfl (by kernel_rfl) rfl (by kernel_rfl)))
    (DSs.cons (DS.set (i := 3) sc_p_peak.nd rfl (.inl (by kernel_rfl)) (De.set0 (gl (by kernel_rfl)) (B.free 44)))
    (DSs.cons (DS.set (i := 4) sc_p_peak.nd rfl (.inl (by kernel_rfl)) De.int)
    (DSs.cons (DS.while passesG (DT.cmp (dop_ne hr.h64) (De.var (i := 2) rfl (.inl (by kernel_rfl))) (De.lst DA.nil) rfl) (DSs.cons (DS.set (i := 5) sc_p_peak.nd rfl (.inl (by kernel_rfl)) (De.fx (x_p_stepped B) hr takesG (DA.cons (De.var (i := 0) rfl (.inl (by kernel_rfl))) (DA.cons (De.bm0 PySem.F.plainAttrs_list PySem.F.slot_list_pop PySem.F.type_list_pop dmt_pop (De.var (i := 2) rfl (.inl (by kernel_rfl)))) (DA.cons De.int DA.nil))) (gl (by kernel_rfl))))
    (DSs.cons (DS.set (i := 4) sc_p_peak.nd rfl (.inl (by kernel_rfl)) (De.callB (dc_max rfl) (gl (by kernel_rfl)) (B.free 2) (by kernel_rfl) (DA.cons (De.var (i := 4) rfl (.inl (by kernel_rfl))) (DA.cons (De.callB dc_abs (gl (by kernel_rfl)) (B.free 37) (by kernel_rfl) (DA.cons (De.ix (De.var (i := 5) rfl (.inl (by kernel_rfl))) De.int) DA.nil)) DA.nil))))
    (DSs.one (DS.ite (DT.cmp (dop_ninS hr.h64) (De.var (i := 5) rfl (.inl (by kernel_rfl))) (De.var (i := 3) rfl (.inl (by kernel_rfl))) rfl) (DSs.cons (DS.expr (De.sadd hr.h64 (De.var (i := 3) rfl (.inl (by kernel_rfl))) (DA.cons (De.var (i := 5) rfl (.inl (by kernel_rfl))) DA.nil)))
    (DSs.one (DS.expr (De.bm PySem.F.plainAttrs_list PySem.F.slot_list_append PySem.F.type_list_append dmt_append (De.var (i := 2) rfl (.inl (by kernel_rfl))) (DA.cons (De.var (i := 5) rfl (.inl (by kernel_rfl))) DA.nil))))) DSs.nil)))))
    (DSs.one (DS.ret (De.var (i := 4) rfl (.inl (by kernel_rfl))))))))))))
theorem x_p_peak (B : Bas fs ds K mg base) : Fx P w K mg base 6 "peak" 2 [] m_p_peak := ⟨Pl.ad K (.glo "peak"), _, _, [], B.glo 76, B.kp 31 (d := d_p_peak) rfl, g_p_peak B, B.binds 31 (d := d_p_peak) rfl rfl (fun _ _ _ _ _ _ us hl => match us, hl with | [_, _], _ => by kernel_rfl), .nil, rfl, rfl⟩
theorem sc_law : FnScope ["_law_script", "_law_k", "_law_pen_here", "_law_turn", "_law_parts_here", "_law_made_here", "_law_size", "_law_due"] ["_law_script"] d_law.scope := ⟨rfl, rfl, rfl, by decide +kernel, rfl, by decide +kernel, by decide +kernel⟩
theorem g_law (B : Bas fs ds K mg base) : FnG P w K mg base 7 (Pl.ad K (.glo "law")) (fdAt K (Pl.ad K (.glo "law"))) ["_law_script"] m_law_k61 :=
  fn_ok (B.c.def_ 32 (d := d_law)) sc_law (fun cdv A outer s H E hr => (DSs.cons (DS.for passesG rfl (DI.range1 (gl (by kernel_rfl)) (B.free 3) (De.callB (dc_max rfl) (gl (by kernel_rfl)) (B.free 2) (by kernel_rfl) (DA.cons De.int (DA.cons (De.callB (dc_min rfl) (gl (by kernel_rfl)) (B.free 1) (by kernel_rfl) (DA.cons (De.callB dc_len (gl (by kernel_rfl)) (B.free 0) (by kernel_rfl) (DA.cons (De.var (i := 0) rfl (.inl (by kernel_rfl))) DA.nil)) (DA.cons De.int DA.nil))) DA.nil)))) (DG.name (vs0 := [1]) (i := 1) (by decide) sc_law.nd rfl (.inl (by kernel_rfl))) (DSs.cons (DS.set (i := 2) sc_law.nd rfl (.inl (by kernel_rfl)) (De.fx (x_pen B) hr takesG (DA.cons (De.fx (x_cell B) hr takesG (DA.cons (De.var (i := 0) rfl (.inl (by kernel_rfl))) (DA.cons (De.var (i := 1) rfl (.inl (by kernel_rfl))) DA.nil)) (gl (by kernel_rfl))) DA.nil) (gl (by kernel_rfl))))
    (DSs.one (DS.for passesG rfl (DI.range1 (gl (by kernel_rfl)) (B.free 3) De.int) (DG.name (vs0 := [3]) (i := 3) (by decide) sc_law.nd rfl (.inl (by kernel_rfl))) (DSs.cons (DS.set (i := 4) sc_law.nd rfl (.inl (by kernel_rfl)) (De.fx (x_parts B) hr takesG (DA.cons (De.var (i := 2) rfl (.inl (by kernel_rfl))) DA.nil) (gl (by kernel_rfl))))
    (DSs.cons (DS.set (i := 5) sc_law.nd rfl (.inl (by kernel_rfl)) (De.fx (x_made B) hr takesG (DA.cons (De.var (i := 4) rfl (.inl (by kernel_rfl))) DA.nil) (gl (by kernel_rfl))))
    (DSs.one (DS.for passesG rfl (DI.range1 (gl (by kernel_rfl)) (B.free 3) (De.bin dop_add (De.ix (De.var (i := 4) rfl (.inl (by kernel_rfl))) De.int) De.int)) (DG.name (vs0 := [6]) (i := 6) (by decide) sc_law.nd rfl (.inl (by kernel_rfl))) (DSs.cons (DS.set (i := 7) sc_law.nd rfl (.inl (by kernel_rfl)) (De.fx (x_peak B) hr takesG (DA.cons (De.var (i := 4) rfl (.inl (by kernel_rfl))) (DA.cons (De.var (i := 6) rfl (.inl (by kernel_rfl))) DA.nil)) (gl (by kernel_rfl))))
    (DSs.one (DS.ite (DT.not (DT.val (De.fx (x_same B) hr takesG (DA.cons (De.lst (DA.cons (De.fx (x_p_peak B) hr takesG (DA.cons (De.var (i := 5) rfl (.inl (by kernel_rfl))) (DA.cons (De.var (i := 6) rfl (.inl (by kernel_rfl))) DA.nil)) (gl (by kernel_rfl))) (DA.cons (De.fx (x_p_peak B) hr takesG (DA.cons (De.var (i := 5) rfl (.inl (by kernel_rfl))) (DA.cons (De.var (i := 6) rfl (.inl (by kernel_rfl))) DA.nil)) (gl (by kernel_rfl))) DA.nil))) (DA.cons (De.lst (DA.cons (De.var (i := 7) rfl (.inl (by kernel_rfl))) (DA.cons (De.var (i := 7) rfl (.inl (by kernel_rfl))) DA.nil))) DA.nil)) (gl (by kernel_rfl))))) (DSs.one (DS.ret De.bl)) DSs.nil))) (fun _ => by kernel_rfl))))) (fun _ => by kernel_rfl)))) (fun _ => by kernel_rfl))
    (DSs.one (DS.ret De.bl))))
end
end K61
namespace Dn
open PySem L2
theorem forM_inv {b : PV → Env1 → Store → Res Fl} {c : Src} (hc : c.k = none) (J : Nat → Env1 → Store → Prop) : ∀ (ds : List PV) (j : Nat) (r : Env1) (S : Store), (∀ i d, ds[i]? = some d → ∀ r S, J (j + i) r S → ∃ r' S', (b d r S = .ok (.nx r') S' ∨ b d r S = .ok (.ct r') S') ∧ J (j + i + 1) r' S') → J j r S →
    ∃ r' S', forM b c ds r S = .ok (.nx r') S' ∧ J (j + ds.length) r' S'
  | [], j, r, S, _, h => by
    refine ⟨r, S, ?_, by simpa using h⟩
    have t : c.there S := by unfold Src.there; rw [hc]; trivial
    unfold forM
    rw [if_pos t]
  | d :: ds, j, r, S, hb, h => by
    have t : c.there S := by unfold Src.there; rw [hc]; trivial
    obtain ⟨r1, S1, e, h1⟩ := hb 0 d rfl r S (by simpa using h)
    obtain ⟨r2, S2, e2, h2⟩ := forM_inv hc J ds (j + 1) r1 S1 (fun i d' hd r S hj => by
      have e3 : j + (i + 1) = j + 1 + i := by omega
      have := hb (i + 1) d' (by simpa using hd) r S (by rw [e3]; exact hj)
      rw [e3] at this
      exact this) (by simpa using h1)
    refine ⟨r2, S2, ?_, by rw [List.length_cons, Nat.add_comm ds.length 1, ← Nat.add_assoc]; exact h2⟩
    unfold forM
    rw [if_pos t]
    rcases e with e | e <;> rw [e] <;> exact e2
theorem sFor_inv {it : IM} {g : GM} {b : SM} {r : Env1} {S S1 : Store} {ds : List PV} (hi : it r S = .ok ⟨ds, none⟩ S1) (J : Nat → Env1 → Store → Prop) (h0 : J 0 r S1)
    (hb : ∀ i d, ds[i]? = some d → ∀ r S, J i r S → ∃ r1 r' S', g d r = some r1 ∧ (b r1 S = .ok (.nx r') S' ∨ b r1 S = .ok (.ct r') S') ∧ J (i + 1) r' S') : ∃ r' S', sFor it g b r S = .ok (.nx r') S' ∧ J ds.length r' S' := by
  obtain ⟨r', S', e, h⟩ := forM_inv (b := turn g b) (c := ⟨ds, none⟩) rfl J ds 0 r S1 (fun i d hd r S hj => by
    rw [Nat.zero_add] at hj ⊢
    obtain ⟨r1, r', S', e1, e2, h2⟩ := hb i d hd r S hj
    exact ⟨r', S', by unfold turn; rw [e1]; exact e2, h2⟩) h0
  refine ⟨r', S', ?_, by simpa using h⟩
  unfold sFor
  rw [hi]
  exact e
theorem compM_inv {g : GM} {t : BM} {f : EM} {c : Src} {r0 : Env1} (hc : c.k = none) (J : Nat → Store → Prop) (R : Nat → PV → Prop) : ∀ (ds : List PV) (j : Nat) (S : Store), (∀ i d, ds[i]? = some d → ∀ S, J (j + i) S → ∃ r1 v S', g d r0 = some r1 ∧ t r1 S = .ok true S ∧ f r1 S = .ok v S' ∧ R (j + i) v ∧ J (j + i + 1) S') → J j S →
    ∃ vs S', compM g t f c r0 ds S = .ok vs S' ∧ J (j + ds.length) S' ∧ vs.length = ds.length ∧ ∀ i v, vs[i]? = some v → R (j + i) v
  | [], j, S, _, h => by
    have th : c.there S := by unfold Src.there; rw [hc]; trivial
    exact ⟨[], S, by unfold compM; rw [if_pos th], by simpa using h, rfl, fun i v e => by simp at e⟩
  | d :: ds, j, S, hb, h => by
    have th : c.there S := by unfold Src.there; rw [hc]; trivial
    obtain ⟨r1, v, S1, e1, e2, e3, hR, h1⟩ := hb 0 d rfl S (by simpa using h)
    obtain ⟨vs, S2, e4, h2, hl, hv⟩ := compM_inv hc J R ds (j + 1) S1 (fun i d' hd S hj => by
      have e3 : j + (i + 1) = j + 1 + i := by omega
      have := hb (i + 1) d' (by simpa using hd) S (by rw [e3]; exact hj)
      rw [e3] at this
      exact this) (by simpa using h1)
    refine ⟨v :: vs, S2, ?_, by rw [List.length_cons, Nat.add_comm ds.length 1, ← Nat.add_assoc]; exact h2, by simp [hl], fun i w e => ?_⟩
    · unfold compM
      rw [if_pos th, e1]
      simp only [e2, okOnly_ok, Res.bind_ok, if_true, e3, e4]
    · cases i with
      | zero => simp at e; subst e; exact hR
      | succ i =>
        have := hv i w (by simpa using e)
        have e3 : j + (i + 1) = j + 1 + i := by omega
        rw [e3]; exact this
theorem compM_map {g : GM} {t : BM} {f : EM} {c : Src} {r0 : Env1} {S : Store} (hc : c.k = none ∨ c.there S) (h : PV → PV) : ∀ (ds : List PV), (∀ d ∈ ds, ∃ r1, g d r0 = some r1 ∧ t r1 S = .ok true S ∧ f r1 S = .ok (h d) S) → compM g t f c r0 ds S = .ok (ds.map h) S := fun ds => by
  have th : c.there S := hc.elim (fun e => by unfold Src.there; rw [e]; trivial) id
  induction ds with
  | nil => intro _; unfold compM; rw [if_pos th]; rfl
  | cons d ds ih =>
    intro hb
    obtain ⟨r1, e1, e2, e3⟩ := hb d List.mem_cons_self
    unfold compM
    rw [if_pos th, e1]
    simp only [e2, okOnly_ok, Res.bind_ok, if_true, e3, ih fun d hd => hb d (List.mem_cons_of_mem _ hd), List.map_cons]
theorem compM_map2 {α : Type} {g : GM} {t : BM} {f : EM} {c : Src} {r0 : Env1} {S : Store} (hc : c.k = none ∨ c.there S) (k h : α → PV) : ∀ (xs : List α), (∀ x ∈ xs, ∃ r1, g (k x) r0 = some r1 ∧ t r1 S = .ok true S ∧ f r1 S = .ok (h x) S) → compM g t f c r0 (xs.map k) S = .ok (xs.map h) S := fun xs => by
  have th : c.there S := hc.elim (fun e => by unfold Src.there; rw [e]; trivial) id
  induction xs with
  | nil => intro _; unfold compM; rw [List.map_nil]; simp only [if_pos th]; rfl
  | cons d ds ih =>
    intro hb
    obtain ⟨r1, e1, e2, e3⟩ := hb d List.mem_cons_self
    rw [List.map_cons]
    unfold compM
    rw [if_pos th, e1]
    simp only [e2, okOnly_ok, Res.bind_ok, if_true, e3, ih fun d hd => hb d (List.mem_cons_of_mem _ hd), List.map_cons]
theorem rng_get {lo : Int} {n i : Nat} {d : PV} (h : (rng lo n)[i]? = some d) : i < n ∧ d = .int (lo + i) := by
  unfold rng at h
  rw [List.getElem?_map] at h
  by_cases hi : i < n
  · rw [List.getElem?_range hi] at h; cases h; exact ⟨hi, rfl⟩
  · simp [hi] at h
theorem rng_len (lo : Int) (n : Nat) : (rng lo n).length = n := by simp [rng]
theorem shutR_le {n : Nat} {d : PV} {S : Store} (h : S.length ≤ n) : shutR n d S = .ok d S := by unfold shutR; rw [if_pos h]
theorem log2_lt_of {n k : Nat} (h : n < 2 ^ k) (hk : 0 < k) : n.log2 < k := by
  rcases Nat.eq_zero_or_pos n with e | e
  · subst e; simpa using hk
  · exact (Nat.log2_lt (by omega)).mpr h
theorem iRange1_ok {a : EM} {r : Env1} {S S1 : Store} {n : Int} (h : a r S = .ok (.int n) S1) (hn : 0 ≤ n ∧ n ≤ 1000000) : iRange1 a r S = .ok ⟨rng 0 n.toNat, none⟩ S1 := by
  unfold iRange1
  rw [h]
  have h2 : -(2 ^ 62) ≤ n ∧ n < 2 ^ 62 := by constructor <;> omega
  show (if -(2 ^ 62) ≤ n ∧ n < 2 ^ 62 then Res.ok (Src.mk (rng 0 n.toNat) none) S1 else Res.bad) = _
  rw [if_pos h2]
theorem log_small {i : Int} (h : i.natAbs < 18446744073709551616) : i.natAbs.log2 < 64 := log2_lt_of (k := 64) h (by decide)
theorem vMul_int {i j : Int} {S : Store} (h1 : i.natAbs < 18446744073709551616) (h2 : j.natAbs < 18446744073709551616) : vMul (.int i) (.int j) S = .ok (.int (i * j)) S := by
  have := log_small h1
  have := log_small h2
  unfold vMul
  exact if_pos (by omega)
theorem vDiv_int {i j : Int} {S : Store} (h1 : 0 < j) (h2 : j.natAbs < 18446744073709551616) : vDiv (.int i) (.int j) S = .ok (.int (i / j)) S := by
  have := log_small h2
  unfold vDiv
  exact if_pos ⟨h1, by omega⟩
theorem vMod_int {i j : Int} {S : Store} (h1 : 0 < j) : vMod (.int i) (.int j) S = .ok (.int (i % j)) S := if_pos h1
theorem fn_rt {kp : Bool} {N : Nat} {b : SM} {ds : List PV} {S S' : Store} {d : PV} (h : b (start1 N ds) S = .ok (.rt d) S') (hl : S'.length ≤ S.length) : fnM kp N b ds S = .ok d S' := by
  unfold fnM; rw [h]; cases kp
  · exact shutR_le hl
  · rfl
theorem fn_nx {kp : Bool} {N : Nat} {b : SM} {ds : List PV} {S S' : Store} {r : Env1} (h : b (start1 N ds) S = .ok (.nx r) S') (hl : S'.length ≤ S.length) : fnM kp N b ds S = .ok .non S' := by
  unfold fnM; rw [h]; cases kp
  · show shutR S.length .non S' = _
    exact shutR_le hl
  · rfl
def seqK (h : SM) (f : Fl) (S1 : Store) : Res Fl := match f with
  | .nx r1 => h r1 S1
  | f => .ok f S1
@[simp] theorem seqK_nx (h : SM) (r : Env1) (S : Store) : seqK h (.nx r) S = h r S := nr rfl
@[simp] theorem seqK_rt (h : SM) (d : PV) (S : Store) : seqK h (.rt d) S = .ok (.rt d) S := nr rfl
@[simp] theorem seqK_bk (h : SM) (r : Env1) (S : Store) : seqK h (.bk r) S = .ok (.bk r) S := nr rfl
@[simp] theorem seqK_ct (h : SM) (r : Env1) (S : Store) : seqK h (.ct r) S = .ok (.ct r) S := nr rfl
def asgK (o : Option Env1) (S1 : Store) : Res Fl := match o with
  | some r1 => .ok (.nx r1) S1
  | none => .bad
@[simp] theorem asgK_some (r : Env1) (S : Store) : asgK (some r) S = .ok (.nx r) S := nr rfl
def parK (i j : Nat) (r : Env1) (ds : List PV) (S1 : Store) : Res Fl := match ds with
  | [d, e] => .ok (.nx ((r.set i (some d)).set j (some e))) S1
  | _ => .bad
@[simp] theorem parK_two (i j : Nat) (r : Env1) (d e : PV) (S : Store) : parK i j r [d, e] S = .ok (.nx ((r.set i (some d)).set j (some e))) S := nr rfl
def fldK (nm f : Str) (d : PV) (S1 : Store) : Res PV := match d with
  | .obj n fs => if n = nm then ofO (fs.lookup f) S1 else .bad
  | _ => .bad
@[simp] theorem fldK_obj (nm f : Str) (fs : List (Str × PV)) (S : Store) : fldK nm f (.obj nm fs) S = ofO (fs.lookup f) S := if_pos rfl
def fsK (nms : List Str) (f : Str) (r : Env1) (d x : PV) (S2 : Store) : Res Fl := match x with
  | .loc k => (match S2[k]? with
    | some (.ins nm fs) => if nm ∈ nms ∧ fs.length < 1000 then .ok (.nx r) (S2.set k (.ins nm (putA f d fs))) else .bad
    | _ => .bad)
  | _ => .bad
@[simp] theorem sFldSet_ap (nms : List Str) (f : Str) (o v : EM) (r : Env1) (S : Store) : sFldSet nms f o v r S = (v r S).bind fun d S1 => (o r S1).bind fun x S2 => fsK nms f r d x S2 := nr rfl
theorem fsK_ok {nms : List Str} {f nm : Str} {r : Env1} {d : PV} {k : Nat} {S : Store} {fs : List (Str × PV)} (h : S[k]? = some (.ins nm fs)) (hn : nm ∈ nms) (hl : fs.length < 1000) : fsK nms f r d (.loc k) S = .ok (.nx r) (S.set k (.ins nm (putA f d fs))) := by
  unfold fsK
  simp only [h]
  exact if_pos ⟨hn, hl⟩
def varK (o : Option (Option PV)) (S : Store) : Res PV := match o with
  | some (some d) => .ok d S
  | _ => .bad
@[simp] theorem varK_some (d : PV) (S : Store) : varK (some (some d)) S = .ok d S := nr rfl
@[simp] theorem eC_ap (d : PV) (r : Env1) (S : Store) : eC d r S = .ok d S := nr rfl
@[simp] theorem eVar_ap (i : Nat) (r : Env1) (S : Store) : eVar i r S = varK r[i]? S := nr rfl
@[simp] theorem eBin_ap (g : PV → PV → Store → Res PV) (a b : EM) (r : Env1) (S : Store) : eBin g a b r S = (a r S).bind fun d S1 => (b r S1).bind fun e S2 => g d e S2 := nr rfl
@[simp] theorem eUn_ap (g : PV → Store → Res PV) (a : EM) (r : Env1) (S : Store) : eUn g a r S = (a r S).bind fun d S1 => g d S1 := nr rfl
@[simp] theorem lNil_ap (r : Env1) (S : Store) : lNil r S = .ok [] S := nr rfl
@[simp] theorem lCons_ap (a : EM) (b : LM) (r : Env1) (S : Store) : lCons a b r S = (a r S).bind fun d S1 => (b r S1).bind fun ds S2 => .ok (d :: ds) S2 := nr rfl
@[simp] theorem eTup_ap (a : LM) (r : Env1) (S : Store) : eTup a r S = (a r S).bind fun ds S1 => if ds.length ≤ sizeLine then .ok (.tup ds) S1 else .bad := nr rfl
@[simp] theorem eLst_ap (a : LM) (r : Env1) (S : Store) : eLst a r S = (a r S).bind fun ds S1 => if ds.length ≤ sizeLine then .ok (.lst ds) S1 else .bad := nr rfl
@[simp] theorem lDis_ap (a : LM) (r : Env1) (S : Store) : lDis a r S = (a r S).bind fun ds S1 => if ds.length ≤ sizeLine then .ok ds S1 else .bad := nr rfl
@[simp] theorem eIf_ap (t : BM) (a b : EM) (r : Env1) (S : Store) : eIf t a b r S = (t r S).bind fun k S1 => if k = true then a r S1 else b r S1 := nr rfl
@[simp] theorem eCB_ap (g : List PV → Store → Res PV) (a : LM) (r : Env1) (S : Store) : eCB g a r S = (a r S).bind fun ds S1 => g ds S1 := nr rfl
@[simp] theorem eCallN_ap (n : Nat) (m : Fn) (dv : List PV) (a : LM) (r : Env1) (S : Store) : eCallN n m dv a r S = (a r S).bind fun ds S1 => if ds.length + dv.length = n then m (ds ++ dv) S1 else .bad := nr rfl
@[simp] theorem asB_bl (k : Bool) (S : Store) : asB (.bl k) S = .ok k S := nr rfl
@[simp] theorem bVal_ap (a : EM) (r : Env1) (S : Store) : bVal a r S = (a r S).bind asB := nr rfl
@[simp] theorem bAnd_ap (a b : BM) (r : Env1) (S : Store) : bAnd a b r S = (a r S).bind fun k S1 => if k = true then b r S1 else .ok false S1 := nr rfl
@[simp] theorem bOr_ap (a b : BM) (r : Env1) (S : Store) : bOr a b r S = (a r S).bind fun k S1 => if k = true then .ok true S1 else b r S1 := nr rfl
@[simp] theorem bNot_ap (a : BM) (r : Env1) (S : Store) : bNot a r S = (a r S).bind fun k S1 => .ok (!k) S1 := nr rfl
@[simp] theorem eAnd_ap (a b : EM) (r : Env1) (S : Store) : eAnd a b r S = (bVal a r S).bind fun k S1 => if k = true then b r S1 else .ok (.bl false) S1 := nr rfl
@[simp] theorem eOr_ap (a b : EM) (r : Env1) (S : Store) : eOr a b r S = (bVal a r S).bind fun k S1 => if k = true then .ok (.bl true) S1 else b r S1 := nr rfl
@[simp] theorem eNot_ap (a : EM) (r : Env1) (S : Store) : eNot a r S = (bVal a r S).bind fun k S1 => .ok (.bl (!k)) S1 := nr rfl
@[simp] theorem eChain_ap (g h : PV → PV → Store → Res PV) (a b c : EM) (r : Env1) (S : Store) : eChain g h a b c r S = (a r S).bind fun d S1 => (b r S1).bind fun e S2 => (g d e S2).bind fun z S3 => (asB z S3).bind fun k S4 =>
  if k = true then (c r S4).bind fun f S5 => h e f S5 else .ok (.bl false) S4 := nr rfl
@[simp] theorem eNew_ap (f : LM) (r : Env1) (S : Store) : eNew f r S = (f r S).bind fun ds S1 => .ok (.lst ds) S1 := nr rfl
@[simp] theorem eCell_ap (f : LM) (r : Env1) (S : Store) : eCell f r S = (f r S).bind fun ds S1 => .ok (.loc S1.length) (S1 ++ [.lst ds]) := nr rfl
@[simp] theorem sNil_ap (r : Env1) (S : Store) : sNil r S = .ok (.nx r) S := nr rfl
@[simp] theorem sSeq_ap (g h : SM) (r : Env1) (S : Store) : sSeq g h r S = (g r S).bind (seqK h) := nr rfl
@[simp] theorem sRet_ap (a : EM) (r : Env1) (S : Store) : sRet a r S = (a r S).bind fun d S1 => .ok (.rt d) S1 := nr rfl
@[simp] theorem sRetN_ap (r : Env1) (S : Store) : sRetN r S = .ok (.rt .non) S := nr rfl
@[simp] theorem sExpr_ap (a : EM) (r : Env1) (S : Store) : sExpr a r S = (a r S).bind fun _ S1 => .ok (.nx r) S1 := nr rfl
@[simp] theorem sIf_ap (t : BM) (g h : SM) (r : Env1) (S : Store) : sIf t g h r S = (t r S).bind fun k S1 => if k = true then g r S1 else h r S1 := nr rfl
@[simp] theorem sSet_ap (i : Nat) (a : EM) (r : Env1) (S : Store) : sSet i a r S = (a r S).bind fun d S1 => .ok (.nx (r.set i (some d))) S1 := nr rfl
@[simp] theorem sBrk_ap (r : Env1) (S : Store) : sBrk r S = .ok (.bk r) S := nr rfl
@[simp] theorem sCnt_ap (r : Env1) (S : Store) : sCnt r S = .ok (.ct r) S := nr rfl
@[simp] theorem sAsg_ap (g : GM) (a : EM) (r : Env1) (S : Store) : sAsg g a r S = (a r S).bind fun d S1 => asgK (g d r) S1 := nr rfl
@[simp] theorem sPar_ap (i j : Nat) (a : LM) (r : Env1) (S : Store) : sPar i j a r S = (a r S).bind fun ds S1 => parK i j r ds S1 := nr rfl
@[simp] theorem sRaise_ap (c : Str) (r : Env1) (S : Store) : sRaise c r S = .err c S := nr rfl
@[simp] theorem sPut_ap (o i v : EM) (r : Env1) (S : Store) : sPut o i v r S = (v r S).bind fun d S1 => (o r S1).bind fun x S2 => (i r S2).bind fun y S3 => putIx x y d r S3 := nr rfl
@[simp] theorem gNm_ap (i : Nat) (d : PV) (r : Env1) : gNm i d r = some (r.set i (some d)) := nr rfl
@[simp] theorem gTp_ap (n : Nat) (g : GsM) (ds : List PV) (r : Env1) : gTp n g (.tup ds) r = if ds.length = n then g ds r else none := nr rfl
@[simp] theorem gsNil_ap (r : Env1) : gsNil [] r = some r := nr rfl
@[simp] theorem gsCons_ap (g : GM) (h : GsM) (d : PV) (ds : List PV) (r : Env1) : gsCons g h (d :: ds) r = (g d r).bind fun r1 => h ds r1 := nr rfl
@[simp] theorem ofO_some (d : PV) (S : Store) : ofO (some d) S = .ok d S := nr rfl
@[simp] theorem eFld_ap (nm f : Str) (o : EM) (r : Env1) (S : Store) : eFld nm f o r S = (o r S).bind fun d S1 => fldK nm f d S1 := nr rfl
@[simp] theorem eProp_ap (nm : Str) (m : Fn) (o : EM) (r : Env1) (S : Store) : eProp nm m o r S = (o r S).bind fun d S1 => if ofC nm d = true then noErr (m [d] S1) else .bad := nr rfl
@[simp] theorem noErr_ok (d : PV) (S : Store) : noErr (.ok d S) = .ok d S := nr rfl
@[simp] theorem bYes_ap (r : Env1) (S : Store) : bYes r S = .ok true S := nr rfl
@[simp] theorem vSub_int' {i j : Int} {S : Store} : vSub (.int i) (.int j) S = .ok (.int (i - j)) S := nr rfl
@[simp] theorem vAdd_int' {i j : Int} {S : Store} : vAdd (.int i) (.int j) S = .ok (.int (i + j)) S := nr rfl
@[simp] theorem vNeg_int' {i : Int} {S : Store} : vNeg (.int i) S = .ok (.int (-i)) S := nr rfl
@[simp] theorem vCmp_int (c : Int → Int → Bool) (i j : Int) (S : Store) : vCmp c (.int i) (.int j) S = .ok (.bl (c i j)) S := nr rfl
@[simp] theorem lStar_ap (a : EM) (b : LM) (r : Env1) (S : Store) : lStar a b r S = (a r S).bind fun d S1 => (starK d S1).bind fun xs S2 => (b r S2).bind fun ys S3 => .ok (xs ++ ys) S3 := nr rfl
@[simp] theorem starK_tup (xs : List PV) (S : Store) : starK (.tup xs) S = .ok xs S := nr rfl
@[simp] theorem starK_lst (xs : List PV) (S : Store) : starK (.lst xs) S = .ok xs S := nr rfl
@[simp] theorem iZip_ap (a b : EM) (r : Env1) (S : Store) : iZip a b r S = (a r S).bind fun d S1 => (b r S1).bind fun e S2 => zipOf d e S2 := nr rfl
@[simp] theorem zipOf_tup (xs ys : List PV) (S : Store) : zipOf (.tup xs) (.tup ys) S = .ok ⟨zipW xs ys, none⟩ S := nr rfl
@[simp] theorem zipOf_lst (xs ys : List PV) (S : Store) : zipOf (.lst xs) (.lst ys) S = .ok ⟨zipW xs ys, none⟩ S := nr rfl
@[simp] theorem eCallO_ap (nm : Str) (n : Nat) (m : Fn) (dv : List PV) (o : EM) (a : LM) (r : Env1) (S : Store) : eCallO nm n m dv o a r S = (o r S).bind fun d S1 => if ofC nm d = true then (a r S1).bind fun ds S2 => (if (d :: ds).length + dv.length = n then m (d :: ds ++ dv) S2 else .bad) else .bad := nr rfl
@[simp] theorem eMeth_ap (nm mn : Str) (n : Nat) (m : Fn) (dv : List PV) (o : EM) (a : LM) (r : Env1) (S : Store) : eMeth nm mn n m dv o a r S = (o r S).bind fun d S1 => if ofM nm mn d = true then (a r S1).bind fun ds S2 => (if (d :: ds).length + dv.length = n then m (d :: ds ++ dv) S2 else .bad) else .bad := nr rfl
@[simp] theorem eMt_ap (T : String) (g : PV → List PV → Store → Res PV) (o : EM) (a : LM) (r : Env1) (S : Store) : eMt T g o a r S = (o r S).bind fun d S1 => if isT T S1 d = true then (a r S1).bind fun ds S2 => g d ds S2 else .bad := nr rfl
@[simp] theorem eSl_ap (a : EM) (l h : OM) (r : Env1) (S : Store) : eSl a l h r S = (a r S).bind fun d S1 => (l r S1).bind fun lo S2 => (h r S2).bind fun hi S3 => vSl d lo hi S3 := nr rfl
@[simp] theorem oNone_ap (r : Env1) (S : Store) : oNone r S = .ok none S := nr rfl
@[simp] theorem oSome_ap (a : EM) (r : Env1) (S : Store) : oSome a r S = (a r S).bind asI := nr rfl
@[simp] theorem asI_int (i : Int) (S : Store) : asI (.int i) S = .ok (some i) S := nr rfl
@[simp] theorem iRange2_ap (a b : EM) (r : Env1) (S : Store) : iRange2 a b r S = (a r S).bind fun d S1 => (b r S1).bind fun e S2 => rngOf d e S2 := nr rfl
theorem rngOf_ok {n m : Int} {S : Store} (h1 : -1000000 ≤ n ∧ n ≤ 1000000) (h2 : -1000000 ≤ m ∧ m ≤ 1000000) : rngOf (.int n) (.int m) S = .ok ⟨rng n (m - n).toNat, none⟩ S := by
  have h : -(2 ^ 62) ≤ n ∧ n < 2 ^ 62 ∧ -(2 ^ 62) ≤ m ∧ m < 2 ^ 62 := ⟨by omega, by omega, by omega, by omega⟩
  unfold rngOf
  exact if_pos h
end Dn
namespace Dn
open PySem L2 PyProof.Rows
theorem sl_app (a b : Str) : (a ++ b).length = a.length + b.length := strLen_append a b
mutual
def cap : PyData → Nat
  | .none => 4
  | .bool _ => 5
  | .int _ => 1921
  | .str x => 10 * x.length + 2
  | .list xs => capAll xs + 2
  | .tuple xs => capAll xs + 3
  | .dict _ => 0
def capAll : List PyData → Nat
  | [] => 0
  | x :: xs => cap x + 2 + capAll xs
end
def cpsOk (x : Str) : Bool := x.cps.toList.all fun c => decide (c < 1114112)
mutual
def okP : PyData → Bool
  | .none => true
  | .bool _ => true
  | .int i => decide (i.natAbs.log2 < 1920)
  | .str x => cpsOk x
  | .list xs => okPs xs
  | .tuple xs => okPs xs
  | .dict _ => false
def okPs : List PyData → Bool
  | [] => true
  | x :: xs => okP x && okPs xs
end
theorem textFrom_le : ∀ (ts : List Str) (k : Nat) (acc : Str), (textFrom k acc ts).length ≤ acc.length + piled ts
  | [], _, acc => by simp [textFrom, piled]
  | t :: r, k, acc => by
    have h := textFrom_le r (k + 1) (acc ++ (if k > 0 then ", " else "" : String) ++ t)
    show (textFrom (k + 1) (acc ++ (if k > 0 then ", " else "" : String) ++ t) r).length ≤ _
    have e : (((if k > 0 then ", " else "" : String) : Str)).length ≤ 2 := by split <;> decide
    rw [sl_app, sl_app] at h
    rw [piled_cons]
    omega
theorem tupleText_le (ts : List Str) : (tupleText ts).length ≤ piled ts + 3 := by
  unfold tupleText
  rw [sl_app, sl_app]
  have e1 : ((("(" : String) : Str)).length = 1 := rfl
  have e3 : (((if ts.length == 1 then ",)" else ")" : String) : Str)).length ≤ 2 := by split <;> decide
  by_cases h : ts = []
  · subst h
    have : (Str.join ", " []).length = 0 := rfl
    omega
  · have := join_length_add ts h
    omega
mutual
theorem shown_le : ∀ {d : PyData}, okP d = true → d.shown.length ≤ cap d ∧ d.showable = true ∧ d.hasDict = false
  | .none, _ => ⟨by simp only [PyData.shown, cap]; decide, by simp [PyData.showable], by simp [PyData.hasDict]⟩
  | .bool b, _ => ⟨by simp only [PyData.shown, cap]; cases b <;> decide, by simp [PyData.showable], by simp [PyData.hasDict]⟩
  | .int i, h => by
    have h : i.natAbs.log2 < 1920 := by simpa [okP] using h
    exact ⟨by simp only [PyData.shown, cap]; exact int_text_len_1921 h, by simp [PyData.showable, h], by simp [PyData.hasDict]⟩
  | .str x, h => by
    have h : ∀ c ∈ x.cps.toList, c < 1114112 := by
      have h2 : cpsOk x = true := by simpa [okP] using h
      exact fun c hc => of_decide_eq_true (List.all_eq_true.mp h2 c hc)
    exact ⟨by simp only [PyData.shown, cap]; exact StrLaws.reprText_len x (fun c hc => by have := h c hc; omega), by simp [PyData.showable], by simp [PyData.hasDict]⟩
  | .list xs, h => by
    obtain ⟨h1, h2, h3⟩ := shownAll_le (show okPs xs = true by simpa [okP] using h)
    refine ⟨?_, by simpa [PyData.showable] using h2, by simpa [PyData.hasDict] using h3⟩
    simp only [PyData.shown, cap]
    unfold listText
    rw [sl_app]
    have h4 := textFrom_le (PyData.shownAll xs) 0 "["
    have e1 : ((("[" : String) : Str)).length = 1 := rfl
    have e2 : ((("]" : String) : Str)).length = 1 := rfl
    omega
  | .tuple xs, h => by
    obtain ⟨h1, h2, h3⟩ := shownAll_le (show okPs xs = true by simpa [okP] using h)
    refine ⟨?_, by simpa [PyData.showable] using h2, by simpa [PyData.hasDict] using h3⟩
    simp only [PyData.shown, cap]
    have h4 := tupleText_le (PyData.shownAll xs)
    omega
  | .dict _, h => by simp [okP] at h
theorem shownAll_le : ∀ {ds : List PyData}, okPs ds = true → piled (PyData.shownAll ds) ≤ capAll ds ∧ PyData.showableAll ds = true ∧ PyData.hasDictAll ds = false
  | [], _ => ⟨by simp [PyData.shownAll, capAll, piled], by simp [PyData.showableAll], by simp [PyData.hasDictAll]⟩
  | x :: xs, h => by
    have h : okP x = true ∧ okPs xs = true := by simpa [okPs] using h
    obtain ⟨a1, a2, a3⟩ := shown_le h.1
    obtain ⟨b1, b2, b3⟩ := shownAll_le h.2
    refine ⟨?_, by simp [PyData.showableAll, a2, b2], by simp [PyData.hasDictAll, a3, b3]⟩
    simp only [PyData.shownAll, capAll]
    rw [piled_cons]
    omega
end
theorem reprOk_of {p : PyData} (h1 : okP p = true) (h2 : cap p ≤ 16777216) (h3 : p.depth ≤ 64) : reprOk p := by
  obtain ⟨a, b, c⟩ := shown_le h1
  exact ⟨b, c, h3, Nat.le_trans a (Nat.le_trans h2 (by decide))⟩
theorem vRepr_ok {d : PV} {S : Store} {p : PyData} (h : dataOf S d = some p) (hp : reprOk p) : vRepr [d] S = .ok (.str p.shown) S := by
  show (match dataOf S d with
    | some p => if reprOk p then Res.ok (PV.str p.shown) S else Res.bad
    | none => match dataD S d with
      | some p => if reprOkD p then Res.ok (PV.str p.shown) S else Res.bad
      | none => Res.bad) = _
  rw [h]
  exact if_pos hp
theorem vEq_str (x y : Str) (S : Store) : vEq (.str x) (.str y) S = .ok (.bl (decide (x = y))) S := rfl
theorem vEq_int (i j : Int) (S : Store) : vEq (.int i) (.int j) S = .ok (.bl (decide (i = j))) S := by
  have e : PyData.eqv (.int i) (.int j) = decide (i = j) := by
    simp only [PyData.eqv]
    rw [Bool.eq_iff_iff]
    simp
  have s : ∀ i : Int, SeqAt.shaped (.int i) = true := fun i => by simp [SeqAt.shaped, PyData.canLay0, PyData.depth]
  show (if SeqAt.shaped (.int i) = true ∧ SeqAt.shaped (.int j) = true then Res.ok (PV.bl (PyData.eqv (.int i) (.int j))) S else .bad) = _
  rw [if_pos ⟨s i, s j⟩, e]
theorem cps_of (s : String) : cpsOk (Str.ofString s) = true := by
  unfold cpsOk
  rw [Str.ofString_eq_toList]
  refine List.all_eq_true.mpr fun c hc => ?_
  simp only [List.mem_map] at hc
  obtain ⟨ch, _, rfl⟩ := hc
  have : ch.toNat < 1114112 := by
    have h := ch.valid
    simp only [UInt32.isValidChar, Nat.isValidChar] at h
    show ch.val.toNat < _
    omega
  exact decide_eq_true (by omega)
def joinK (fs : List EM) (acc : Str) (r : Env1) (d : PV) (S1 : Store) : Res PV := match d with
  | .str y => if (acc ++ y).length ≤ sizeLine then joinM fs (acc ++ y) r S1 else .bad
  | _ => .bad
@[simp] theorem joinM_nil (acc : Str) (r : Env1) (S : Store) : joinM [] acc r S = .ok (.str acc) S := nr rfl
@[simp] theorem joinM_cons (f : EM) (fs : List EM) (acc : Str) (r : Env1) (S : Store) : joinM (f :: fs) acc r S = (f r S).bind (joinK fs acc r) := nr rfl
@[simp] theorem eJoin_ap (fs : List EM) (r : Env1) (S : Store) : eJoin fs r S = joinM fs Str.empty r S := nr rfl
@[simp] theorem eFmt_ap (a : EM) (r : Env1) (S : Store) : eFmt a r S = (a r S).bind fmtOf := nr rfl
theorem seq_le {n : Nat} (h : n ≤ 16777216) : n ≤ sizeLine := Nat.le_trans h (by decide)
end Dn
namespace Dn
open PySem L2
@[simp] theorem vLe_int (i j : Int) (S : Store) : vLe (.int i) (.int j) S = .ok (.bl (decide (i ≤ j))) S := nr rfl
@[simp] theorem vGt_int (i j : Int) (S : Store) : vGt (.int i) (.int j) S = .ok (.bl (decide (j < i))) S := nr rfl
@[simp] theorem vLt_int (i j : Int) (S : Store) : vLt (.int i) (.int j) S = .ok (.bl (decide (i < j))) S := nr rfl
@[simp] theorem vGe_int (i j : Int) (S : Store) : vGe (.int i) (.int j) S = .ok (.bl (decide (j ≤ i))) S := nr rfl
@[simp] theorem lComp_ap (own : List Nat) (i : IM) (g : GM) (t : BM) (f : EM) (r : Env1) (S : Store) : lComp own i g t f r S = (i r S).bind fun c S1 => if c.ds.length ≤ sizeLine then compM g t f c (wipeE r own) c.ds S1 else .bad := nr rfl
@[simp] theorem iVal_ap (a : EM) (r : Env1) (S : Store) : iVal a r S = (a r S).bind srcOf := nr rfl
@[simp] theorem srcOf_tup (xs : List PV) (S : Store) : srcOf (.tup xs) S = .ok ⟨xs, none⟩ S := nr rfl
@[simp] theorem srcOf_lst (xs : List PV) (S : Store) : srcOf (.lst xs) S = .ok ⟨xs, none⟩ S := nr rfl
@[simp] theorem wipeE_nil (r : Env1) : wipeE r [] = r := nr rfl
@[simp] theorem wipeE_cons (r : Env1) (i : Nat) (is : List Nat) : wipeE r (i :: is) = (wipeE r is).set i none := nr rfl
@[simp] theorem vEq_str2 (x y : Str) (S : Store) : vEq (.str x) (.str y) S = .ok (.bl (decide (x = y))) S := vEq_str x y S
@[simp] theorem vEq_int2 (i j : Int) (S : Store) : vEq (.int i) (.int j) S = .ok (.bl (decide (i = j))) S := vEq_int i j S
@[simp] theorem vMax2 (i j : Int) (S : Store) : vMax [.int i, .int j] S = .ok (.int (max i j)) S := nr rfl
@[simp] theorem vMin2 (i j : Int) (S : Store) : vMin [.int i, .int j] S = .ok (.int (min i j)) S := nr rfl
@[simp] theorem vAbs_int (i : Int) (S : Store) : vAbs [.int i] S = .ok (.int (i.natAbs : Int)) S := nr rfl
@[simp] theorem vLen_lst (xs : List PV) (S : Store) : vLen [.lst xs] S = .ok (.int (xs.length : Nat)) S := nr rfl
@[simp] theorem vLen_tup (xs : List PV) (S : Store) : vLen [.tup xs] S = .ok (.int (xs.length : Nat)) S := nr rfl
theorem vLen_scr (ns : List Int) (S : Store) : vLen [.scr ns] S = .ok (.int ns.length) S := by
  show Res.ok (PV.int ((ns.map PV.int).length : Nat)) S = _
  rw [List.length_map]
@[simp] theorem vTuple_lst (xs : List PV) (S : Store) : vTuple [.lst xs] S = .ok (.tup xs) S := nr rfl
@[simp] theorem vTuple_tup (xs : List PV) (S : Store) : vTuple [.tup xs] S = .ok (.tup xs) S := nr rfl
@[simp] theorem isi_ii (i : Int) (S : Store) : vIsiU [.int i, .ty "int"] S = .ok (.bl true) S := by simp [vIsiU, vIsi, isi1, isi0, tyN, isiT]
@[simp] theorem isi_ib (i : Int) (S : Store) : vIsiU [.int i, .ty "bool"] S = .ok (.bl false) S := by simp [vIsiU, vIsi, isi1, isi0, tyN, isiT]
@[simp] theorem isi_bb (i : Bool) (S : Store) : vIsiU [.bl i, .ty "bool"] S = .ok (.bl true) S := by simp [vIsiU, vIsi, isi1, isi0, tyN, isiT]
@[simp] theorem isi_bi (i : Bool) (S : Store) : vIsiU [.bl i, .ty "int"] S = .ok (.bl true) S := by simp [vIsiU, vIsi, isi1, isi0, tyN, isiT]
@[simp] theorem isi_ss (i : Str) (S : Store) : vIsiU [.str i, .ty "str"] S = .ok (.bl true) S := by simp [vIsiU, vIsi, isi1, isi0, tyN, isiT]
@[simp] theorem isi_tt (i : List PV) (S : Store) : vIsiU [.tup i, .ty "tuple"] S = .ok (.bl true) S := by simp [vIsiU, vIsi, isi1, isi0, tyN, isiT]
theorem isi_obj {nm : Str} {fs : List (Str × PV)} {nm' : Str} (S : Store) (h : nm ∈ HC) (h' : nm' ∈ HC) : vIsiU [.obj nm fs, .cls nm'] S = .ok (.bl (subC nm nm')) S := by
  show (if nm' ∈ HC then (if nm ∈ HC then Res.ok (PV.bl (subC nm nm')) S else .bad) else .bad) = _
  rw [if_pos h', if_pos h]
@[simp] theorem isi_FF (fs : List (Str × PV)) (S : Store) : vIsiU [.obj "Filter" fs, .cls "Filter"] S = .ok (.bl true) S := by
  rw [isi_obj S (by simp [HC]) (by simp [HC])]; simp
@[simp] theorem szl0 : 0 ≤ sizeLine := Nat.zero_le _
@[simp] theorem szlS (n : Nat) (h : n ≤ 16777216) : n ≤ sizeLine := seq_le h
theorem vAdd_lst {xs ys : List PV} {S : Store} (h : xs.length + ys.length ≤ 16777216) : vAdd (.lst xs) (.lst ys) S = .ok (.lst (xs ++ ys)) S := if_pos (seq_le h)
theorem vAdd_tup {xs ys : List PV} {S : Store} (h : xs.length + ys.length ≤ 16777216) : vAdd (.tup xs) (.tup ys) S = .ok (.tup (xs ++ ys)) S := if_pos (seq_le h)
theorem mul2 {i : Int} {S : Store} (h : i.natAbs ≤ 1000000000) : vMul (.int 2) (.int i) S = .ok (.int (2 * i)) S := vMul_int (by decide) (by omega)
theorem run_fn {kp : Bool} {N : Nat} {b : SM} {ds : List PV} {S : Store} {d : PV} (h : b (start1 N ds) S = .ok (.rt d) S) : fnM kp N b ds S = .ok d S := fn_rt h (Nat.le_refl _)
theorem all_true {ds : List PV} {S : Store} : vAll [.lst (ds.map fun _ => PV.bl true)] S = .ok (.bl true) S := by
  have e : bools? (ds.map fun _ => PV.bl true) = some (ds.map fun _ => true) := by
    induction ds with
    | nil => rfl
    | cons d ds ih => simp only [List.map_cons, bools?, ih]; rfl
  show (match (some (ds.map fun _ => PV.bl true)).bind bools? with
    | some bs => Res.ok (PV.bl (bs.all id)) S
    | none => Res.bad) = _
  rw [Option.bind_some, e]
  simp
theorem vSum_ints (ns : List Int) (S : Store) : vSum [.lst (ns.map PV.int)] S = .ok (.int ns.sum) S := by
  show (match (some (ns.map PV.int)).bind ints? with
    | some ns => Res.ok (PV.int ns.sum) S
    | none => Res.bad) = _
  rw [Option.bind_some, ints_map]
theorem zipW_ints : ∀ (ts xs : List Int), zipW (ts.map PV.int) (xs.map PV.int) = (ts.zip xs).map fun p => PV.tup [.int p.1, .int p.2]
  | [], _ => rfl
  | _ :: _, [] => rfl
  | t :: ts, x :: xs => by
    have := zipW_ints ts xs
    unfold zipW at *
    simp only [List.map_cons, List.zip_cons_cons, this]
theorem atI_in {xs : List PV} {v : Int} (h0 : 0 ≤ v) (h1 : v < xs.length) : ∃ d, atI xs v = some d ∧ d ∈ xs := by
  obtain ⟨m, rfl⟩ := Int.eq_ofNat_of_zero_le h0
  have hm : m < xs.length := by omega
  refine ⟨xs[m], ?_, List.getElem_mem _⟩
  unfold atI
  have e : ixN xs.length (m : Int) = some m := by
    unfold ixN
    simp
    omega
  rw [e]
  simp [hm]
theorem atI_get {xs : List PV} {m : Nat} {d : PV} (h : xs[m]? = some d) : atI xs (m : Int) = some d := by
  have hm := (List.getElem?_eq_some_iff.mp h).1
  unfold atI
  have e : ixN xs.length (m : Int) = some m := by
    unfold ixN
    simp
    omega
  rw [e]
  exact h
theorem ints_of : ∀ {vs : List PV} {P : Int → Prop}, (∀ (i : Nat) (v : PV), vs[i]? = some v → ∃ t, v = PV.int t ∧ P t) → ∃ ts : List Int, vs = ts.map PV.int ∧ ∀ t ∈ ts, P t
  | [], _, _ => ⟨[], rfl, fun _ h => nomatch h⟩
  | v :: vs, P, h => by
    obtain ⟨t, rfl, ht⟩ := h 0 v rfl
    obtain ⟨ts, rfl, hs⟩ := ints_of (vs := vs) (P := P) fun i w e => h (i + 1) w (by simpa using e)
    exact ⟨t :: ts, rfl, fun u hu => (List.mem_cons.mp hu).elim (fun e => e ▸ ht) (hs u)⟩
theorem ipow_mono {a b : Int} (h0 : 0 ≤ a) (h : a ≤ b) : ∀ n : Nat, a ^ n ≤ b ^ n
  | 0 => by simp
  | n + 1 => by
    rw [Int.pow_succ, Int.pow_succ]
    exact Int.mul_le_mul (ipow_mono h0 h n) h h0 (Int.pow_nonneg (by omega))
theorem sum_le : ∀ {ns : List Int} {m : Nat}, (∀ a ∈ ns, a.natAbs ≤ m) → ns.sum.natAbs ≤ m * ns.length
  | [], _, _ => by simp
  | n :: ns, m, h => by
    have h1 := h n List.mem_cons_self
    have h2 := sum_le (ns := ns) (m := m) fun a ha => h a (List.mem_cons_of_mem _ ha)
    rw [List.sum_cons, List.length_cons, Nat.mul_succ]
    omega
theorem cut_last (xs : List PV) : cutP xs none (some (-1)) = xs.dropLast := by
  unfold cutP
  have e1 : HT.sIx xs.length 0 none = 0 := by simp [HT.sIx]
  have e2 : HT.sIx xs.length xs.length (some (-1)) = xs.length - 1 := by
    unfold HT.sIx
    simp
    omega
  rw [e1, e2]
  simp [List.dropLast_eq_take]
@[simp] theorem vSl_tup (xs : List PV) (lo hi : Option Int) (S : Store) : vSl (.tup xs) lo hi S = .ok (.tup (cutP xs lo hi)) S := nr rfl
theorem compM_fm {α : Type} {g : GM} {t : BM} {f : EM} {c : Src} {r0 : Env1} {S : Store} (hc : c.k = none ∨ c.there S) (k h : α → PV) (p : α → Bool) : ∀ (xs : List α), (∀ x ∈ xs, ∃ r1, g (k x) r0 = some r1 ∧ t r1 S = .ok (p x) S ∧ (p x = true → f r1 S = .ok (h x) S)) → compM g t f c r0 (xs.map k) S = .ok ((xs.filter p).map h) S := fun xs => by
  have th : c.there S := hc.elim (fun e => by unfold Src.there; rw [e]; trivial) id
  induction xs with
  | nil => intro _; unfold compM; rw [List.map_nil]; simp only [if_pos th]; rfl
  | cons d ds ih =>
    intro hb
    obtain ⟨r1, e1, e2, e3⟩ := hb d List.mem_cons_self
    have ih' := ih fun d hd => hb d (List.mem_cons_of_mem _ hd)
    rw [List.map_cons]
    unfold compM
    rw [if_pos th, e1]
    cases hp : p d with
    | true => simp only [e2, hp, okOnly_ok, Res.bind_ok, if_true, e3 hp, ih', List.filter_cons_of_pos hp, List.map_cons]
    | false =>
      rw [List.filter_cons_of_neg (by rw [hp]; decide)]
      simp [e2, hp, okOnly_ok, ih']
@[simp] theorem sPar3_ap (i j l : Nat) (a : LM) (r : Env1) (S : Store) : sPar3 i j l a r S = (a r S).bind fun ds S1 => par3K i j l r ds S1 := nr rfl
@[simp] theorem par3K_three (i j l : Nat) (r : Env1) (d e f : PV) (S : Store) : par3K i j l r [d, e, f] S = .ok (.nx (((r.set i (some d)).set j (some e)).set l (some f))) S := nr rfl
@[simp] theorem eTupRg_ap (a b : EM) (r : Env1) (S : Store) : eTupRg a b r S = (a r S).bind fun d S1 => (b r S1).bind fun e S2 => tupRg d e S2 := nr rfl
@[simp] theorem vIs_bb (neg a b : Bool) (S : Store) : vIs neg (.bl a) (.bl b) S = .ok (.bl (xor neg (decide (a = b)))) S := nr rfl
@[simp] theorem vIs_nn (neg : Bool) (S : Store) : vIs neg .non .non S = .ok (.bl (xor neg true)) S := nr rfl
@[simp] theorem vInt_bl (k : Bool) (S : Store) : vInt [.bl k] S = .ok (.int (if k then 1 else 0)) S := nr rfl
@[simp] theorem vInt_int (k : Int) (S : Store) : vInt [.int k] S = .ok (.int k) S := nr rfl
theorem isT_loc {S : Store} {k : Nat} {xs : List PV} (h : S[k]? = some (.lst xs)) : isT "list" S (.loc k) = true := by simp [isT, lstOf, h]
theorem app_at {S : Store} {k : Nat} {xs : List PV} {d : PV} (h : S[k]? = some (.lst xs)) (hz : xs.length < 16777216) : vAppend (.loc k) [d] S = .ok .non (S.set k (.lst (xs ++ [d]))) := by
  have : xs.length < sizeLine := Nat.lt_of_lt_of_le hz (by decide)
  show (match S[k]? with
    | some (.lst xs) => if xs.length < sizeLine then Res.ok PV.non (S.set k (.lst (xs ++ [d]))) else .bad
    | _ => .bad) = _
  rw [h]
  exact if_pos this
theorem src_loc {S : Store} {k : Nat} {xs : List PV} (h : S[k]? = some (.lst xs)) : srcOf (.loc k) S = .ok ⟨xs, some (.l k)⟩ S := by
  unfold srcOf
  simp only [h]
theorem len_loc {S : Store} {k : Nat} {xs : List PV} (h : S[k]? = some (.lst xs)) : vLen [.loc k] S = .ok (.int (xs.length : Nat)) S := by
  show (match seqOf S (.loc k) with
    | some xs => Res.ok (PV.int xs.length) S
    | none => Res.bad) = _
  have e : seqOf S (.loc k) = some xs := by simp [seqOf, lstOf, h]
  rw [e]
theorem last_at (S : Store) (c : Cell) : (S ++ [c])[S.length]? = some c := by simp
theorem set_last (S : Store) (c c' : Cell) : (S ++ [c]).set S.length c' = S ++ [c'] := by
  rw [List.set_append_right _ _ (Nat.le_refl _), Nat.sub_self]; rfl
def flat1 (c : Cell) : Prop := ∀ n, cellSmall n c = true
def AllI (S : Store) : Prop := ∀ c ∈ S, flat1 c
theorem smalls_ints (n : Nat) : ∀ ns : List Int, smalls n (ns.map PV.int) = true
  | [] => rfl
  | x :: xs => by simp [smalls, small, smalls_ints n xs]
theorem flat_ints (ns : List Int) : flat1 (.lst (ns.map PV.int)) := fun n => smalls_ints n ns
theorem allI_small {S : Store} (h : AllI S) (n : Nat) : S.all (cellSmall n) = true := List.all_eq_true.mpr fun c hc => h c hc n
theorem AllI.nil : AllI [] := fun _ h => nomatch h
theorem AllI.addC {S : Store} (h : AllI S) {c : Cell} (hc : flat1 c) : AllI (S ++ [c]) := fun d hd => by
  rcases List.mem_append.mp hd with hd | hd
  · exact h d hd
  · simp at hd; subst hd; exact hc
theorem AllI.take {S : Store} (h : AllI S) (n : Nat) : AllI (S.take n) := fun d hd => h d (List.mem_of_mem_take hd)
theorem AllI.setC {S : Store} (h : AllI S) (k : Nat) {c : Cell} (hc : flat1 c) : AllI (S.set k c) := fun d hd => by
  rcases List.mem_or_eq_of_mem_set hd with hd | rfl
  · exact h d hd
  · exact hc
theorem AllI.app {S : Store} (h : AllI S) (ns : List Int) : AllI (S ++ [.lst (ns.map PV.int)]) := h.addC (flat_ints ns)
theorem AllI.setI {S : Store} (h : AllI S) (k : Nat) (ns : List Int) : AllI (S.set k (.lst (ns.map PV.int))) := h.setC k (flat_ints ns)
theorem shut_ok {n : Nat} {S T : Store} {d d' : PV} (hn : S.length = n) (hS : S.all (cellSmall n) = true) (hf : frz n (S ++ T) d = some d') (hd : T = [] → d' = d) : shutR n d (S ++ T) = .ok d' S := by
  subst hn
  unfold shutR
  by_cases h : T = []
  · have := hd h
    subst h; subst this
    simp
  · have hl : ¬ (S ++ T).length ≤ S.length := by
      have : 0 < T.length := List.length_pos_iff.mpr h
      simp; omega
    have t : (S ++ T).take S.length = S := by simp
    rw [if_neg hl, t, if_pos hS, hf]
theorem fn_own {N : Nat} {b : SM} {ds : List PV} {S T : Store} {d d' : PV} (h : b (start1 N ds) S = .ok (.rt d) (S ++ T)) (hS : S.all (cellSmall S.length) = true) (hf : frz S.length (S ++ T) d = some d') (hd : T = [] → d' = d) : fnM false N b ds S = .ok d' S := by
  unfold fnM; rw [h]
  show shutR S.length d (S ++ T) = _
  exact shut_ok rfl hS hf hd
end Dn
namespace Hl
open PySem L2 Dn
structure Pt where
  ts : List Int
  b : Int
  w : Str
  h : Int
  e : Bool
  v : Bool
def tsv (ts : List Int) : PV := .tup (ts.map .int)
def Pt.pv (p : Pt) : PV := .tup [tsv p.ts, .int p.b, .str p.w, .int p.h, .bl p.e, .bl p.v]
def Pt.obj (p : Pt) : PV := .obj "Filter" [("parts", p.pv)]
structure Pt.Ok (p : Pt) : Prop where
  len : 1 ≤ p.ts.length ∧ p.ts.length ≤ 3
  ts : ∀ t ∈ p.ts, -32 ≤ t ∧ t ≤ 32
  b : 1 ≤ p.b ∧ p.b ≤ 16
  w : p.w = "near" ∨ p.w = "cut" ∨ p.w = "down"
  h : 1 ≤ p.h ∧ p.h ≤ 60
  st : (2 * p.h + 1) ^ p.ts.length ≤ 2500
abbrev Pt.st (p : Pt) : Int := (2 * p.h + 1) ^ p.ts.length
theorem pow_small {a : Int} {i : Nat} (ha : 0 ≤ a ∧ a ≤ 1000) (hi : i ≤ 3) : (a ^ i).natAbs < 18446744073709551616 := by
  obtain ⟨m, rfl⟩ := Int.eq_ofNat_of_zero_le ha.1
  have h1 : m ≤ 1000 := by omega
  have h2 : m ^ i ≤ 1000 ^ i := Nat.pow_le_pow_left h1 i
  have h3 : 1000 ^ i ≤ 1000 ^ 3 := Nat.pow_le_pow_right (by decide) (by omega)
  rw [show ((m : Int) ^ i) = ((m ^ i : Nat) : Int) by simp, Int.natAbs_natCast]
  omega
theorem powF (a : Int) (n : Nat) (S : Store) (hn : n ≤ 3) (ha : 0 ≤ a ∧ a ≤ 1000) : sFor (iRange1 (eVar 1)) (gNm 3) (sSet 2 (eBin vMul (eVar 2) (eVar 0))) [some (.int a), some (.int n), some (.int 1), none] S = .ok (.nx [some (.int a), some (.int n), some (.int (a ^ n)), if n = 0 then none else some (.int (n - 1))]) S := by
  obtain ⟨r', S', e, h⟩ := sFor_inv (it := iRange1 (eVar 1)) (g := gNm 3) (b := sSet 2 (eBin vMul (eVar 2) (eVar 0))) (r := [some (.int a), some (.int n), some (.int 1), none]) (S := S) (S1 := S) (ds := rng 0 n)
    (iRange1_ok (n := n) rfl (by omega)) (fun i r S' => S' = S ∧ r = [some (.int a), some (.int n), some (.int (a ^ i)), if i = 0 then none else some (.int (i - 1))]) ⟨rfl, by simp⟩ (fun i d hd r S' ⟨e, er⟩ => by
      subst e er
      obtain ⟨hi, rfl⟩ := rng_get hd
      refine ⟨_, _, S', rfl, .inl (by simp [vMul_int (pow_small ha (show i ≤ 3 by omega)) (show a.natAbs < 18446744073709551616 by omega), Int.pow_succ]; rfl), rfl, ?_⟩
      simp [Int.pow_succ])
  obtain ⟨rfl, rfl⟩ := h
  rw [rng_len] at e
  exact e
theorem power_ok (a : Int) (n : Nat) (S : Store) (hn : n ≤ 3) (ha : 0 ≤ a ∧ a ≤ 1000) : m_p_power [.int a, .int n] S = .ok (.int (a ^ n)) S := by
  refine run_fn ?_
  have e : l_p_power_1 [some (.int a), some (.int n), some (.int 1), none] S = _ := powF a n S hn ha
  unfold b_p_power
  simp [start1, List.replicate, e]
theorem ix0 (p : Pt) (S : Store) : vIx p.pv (.int 0) S = .ok (tsv p.ts) S := nr rfl
theorem ix1 (p : Pt) (S : Store) : vIx p.pv (.int 1) S = .ok (.int p.b) S := nr rfl
theorem ix2 (p : Pt) (S : Store) : vIx p.pv (.int 2) S = .ok (.str p.w) S := nr rfl
theorem ix3 (p : Pt) (S : Store) : vIx p.pv (.int 3) S = .ok (.int p.h) S := nr rfl
theorem ix4 (p : Pt) (S : Store) : vIx p.pv (.int 4) S = .ok (.bl p.e) S := nr rfl
theorem ix5 (p : Pt) (S : Store) : vIx p.pv (.int 5) S = .ok (.bl p.v) S := nr rfl
theorem fld_ok (p : Pt) (S : Store) : fldK "Filter" "parts" p.obj S = .ok p.pv S := nr rfl
theorem len_ts (ts : List Int) (S : Store) : vLen [tsv ts] S = .ok (.int ts.length) S := by
  show Res.ok (PV.int ((ts.map PV.int).length : Nat)) S = _
  rw [List.length_map]
theorem tops_ok (p : Pt) (S : Store) : m_p_Filter_tops [p.obj] S = .ok (tsv p.ts) S := by
  refine run_fn ?_
  unfold b_p_Filter_tops
  simp [start1, List.replicate, fld_ok, ix0]
theorem bottom_ok (p : Pt) (S : Store) : m_p_Filter_bottom [p.obj] S = .ok (.int p.b) S := by
  refine run_fn ?_
  unfold b_p_Filter_bottom
  simp [start1, List.replicate, fld_ok, ix1]
theorem rounding_ok (p : Pt) (S : Store) : m_p_Filter_rounding [p.obj] S = .ok (.str p.w) S := by
  refine run_fn ?_
  unfold b_p_Filter_rounding
  simp [start1, List.replicate, fld_ok, ix2]
theorem high_ok (p : Pt) (S : Store) : m_p_Filter_high [p.obj] S = .ok (.int p.h) S := by
  refine run_fn ?_
  unfold b_p_Filter_high
  simp [start1, List.replicate, fld_ok, ix3]
theorem each_ok (p : Pt) (S : Store) : m_p_Filter_each [p.obj] S = .ok (.bl p.e) S := by
  refine run_fn ?_
  unfold b_p_Filter_each
  simp [start1, List.replicate, fld_ok, ix4]
theorem wraps_ok (p : Pt) (S : Store) : m_p_Filter_wraps [p.obj] S = .ok (.bl p.v) S := by
  refine run_fn ?_
  unfold b_p_Filter_wraps
  simp [start1, List.replicate, fld_ok, ix5]
theorem ofC_ok (p : Pt) : ofC "Filter" p.obj = true := by simp [ofC, Pt.obj]
theorem order_ok (p : Pt) (S : Store) : m_p_Filter_order [p.obj] S = .ok (.int p.ts.length) S := by
  refine run_fn ?_
  unfold b_p_Filter_order
  simp [start1, List.replicate, ofC_ok, tops_ok, len_ts]
theorem l1 : (Str.ofString "Filter(order ").length = 13 := by decide +kernel
theorem l2 : (Str.ofString ", ").length = 2 := by decide +kernel
theorem l3 : (Str.ofString " states)").length = 8 := by decide +kernel
theorem between_ok (t lo hi : Int) (S : Store) : m_p_is_between [.int t, .int lo, .int hi] S = .ok (.bl (decide (lo ≤ t) && decide (t ≤ hi))) S := by
  refine run_fn ?_
  unfold b_p_is_between
  by_cases h : lo ≤ t <;> simp [start1, List.replicate, isi_ii, isi_ib, h]
theorem are_ok {ts : List Int} {lo hi : Int} (S : Store) (h : ∀ t ∈ ts, lo ≤ t ∧ t ≤ hi) (hl : ts.length ≤ 1000000) : m_p_are_between [tsv ts, .int lo, .int hi] S = .ok (.bl true) S := by
  refine run_fn ?_
  have e : c_p_are_between_1 [some (tsv ts), some (.int lo), some (.int hi), none] S = .ok ((ts.map PV.int).map fun _ => .bl true) S := by
    unfold c_p_are_between_1 tsv
    simp [show ts.length ≤ 16777216 by omega, -List.map_map]
    refine compM_map (.inl rfl) (fun _ => .bl true) _ fun d hd => ?_
    obtain ⟨t, ht, rfl⟩ := List.mem_map.mp hd
    have := h t ht
    exact ⟨_, rfl, rfl, by simp [between_ok, this]⟩
  have i : vIsiU [tsv ts, .ty "tuple"] S = .ok (.bl true) S := isi_tt _ S
  unfold b_p_are_between
  simp [start1, List.replicate, i, e, all_true, -List.map_map]
theorem round_ok {w : Str} (S : Store) (h : w = "near" ∨ w = "cut" ∨ w = "down") : m_p_is_rounding [.str w] S = .ok (.bl true) S := by
  refine run_fn ?_
  have z : 3 ≤ sizeLine := seq_le (by omega)
  have e : vIn false (.str w) (.tup [.str "near", .str "cut", .str "down"]) S = .ok (.bl true) S := by
    have e2 : inV (.str w) [.str "near", .str "cut", .str "down"] = true := by
      rcases h with e | e | e <;> subst e <;> decide +kernel
    show Res.ok (PV.bl (inV (.str w) [.str "near", .str "cut", .str "down"])) S = _
    rw [e2]
  unfold b_p_is_rounding
  simp [start1, List.replicate, isi_ss, z, e]
theorem need_ok {p : Pt} (h : p.Ok) (S : Store) : m_p_need_parts [tsv p.ts, .int p.b, .str p.w, .int p.h, .tup [.bl p.e, .bl p.v]] S = .ok .non S := by
  refine fn_nx (r := [some (tsv p.ts), some (.int p.b), some (.str p.w), some (.int p.h), some (.tup [.bl p.e, .bl p.v]), none]) ?_ (Nat.le_refl _)
  have hl := h.len
  have hb := h.b
  have hh := h.h
  have e1 := are_ok (ts := p.ts) S h.ts (by omega)
  have e2 := round_ok S h.w
  have e3 : vMul (.int 2) (.int p.h) S = .ok (.int (2 * p.h)) S := mul2 (by omega)
  have e4 := power_ok (2 * p.h + 1) p.ts.length S hl.2 (by omega)
  have e5 : c_p_need_parts_1 [some (tsv p.ts), some (.int p.b), some (.str p.w), some (.int p.h), some (.tup [.bl p.e, .bl p.v]), none] S = .ok [.bl true, .bl true] S := by
    unfold c_p_need_parts_1
    simp
    refine compM_map (.inl rfl) (fun _ => .bl true) [.bl p.e, .bl p.v] fun d hd => ?_
    simp at hd
    rcases hd with rfl | rfl <;> exact ⟨_, rfl, rfl, by simp⟩
  have e6 : vAll [.lst [PV.bl true, .bl true]] S = .ok (.bl true) S := all_true (ds := [PV.bl p.e, .bl p.v])
  have i1 : (1 : Int) ≤ p.ts.length := by omega
  have i2 : (p.ts.length : Int) ≤ 3 := by omega
  have i3 : ¬ (2500 : Int) < (2 * p.h + 1) ^ p.ts.length := by have := h.st; omega
  unfold b_p_need_parts
  simp [start1, List.replicate, e1, len_ts, between_ok, hb, hh, e2, e3, e4, i1, i2, i3, e5, e6]
theorem init_ok {p : Pt} (h : p.Ok) (S : Store) : m_p_Filter_init [.loc S.length, tsv p.ts, .int p.b, .str p.w, .int p.h, .bl p.e, .bl p.v] (S ++ [.ins "Filter" []]) = .ok .non (S ++ [.ins "Filter" [("parts", p.pv)]]) := by
  have z2 : 2 ≤ sizeLine := seq_le (by omega)
  have z6 : 6 ≤ sizeLine := seq_le (by omega)
  have e : b_p_Filter_init (start1 7 [.loc S.length, tsv p.ts, .int p.b, .str p.w, .int p.h, .bl p.e, .bl p.v]) (S ++ [.ins "Filter" []]) = .ok (.nx [some (.loc S.length), some (tsv p.ts), some (.int p.b), some (.str p.w), some (.int p.h), some (.bl p.e), some (.bl p.v)]) (S ++ [.ins "Filter" [("parts", p.pv)]]) := by
    unfold b_p_Filter_init
    have g : (S ++ [Cell.ins "Filter" []])[S.length]? = some (.ins "Filter" []) := by simp
    have fs1 := fsK_ok (nms := ["Filter"]) (f := "parts") (nm := "Filter") (d := p.pv) (r := [some (.loc S.length), some (tsv p.ts), some (.int p.b), some (.str p.w), some (.int p.h), some (.bl p.e), some (.bl p.v)]) g (by simp) (by simp)
    have fs2 : (S ++ [Cell.ins "Filter" []]).set S.length (.ins "Filter" (putA "parts" p.pv [])) = S ++ [.ins "Filter" [("parts", p.pv)]] := by
      rw [List.set_append_right _ _ (Nat.le_refl _), Nat.sub_self]; rfl
    rw [fs2] at fs1
    unfold Pt.pv at fs1
    simp [start1, List.replicate, need_ok h, z2, z6, fs1]
    rfl
  unfold m_p_Filter_init fnM
  rw [e]; rfl
theorem pv_small (p : Pt) (n : Nat) : small n p.pv = true := by
  unfold Pt.pv tsv
  simp [small, smalls, smalls_ints]
theorem make_ok {p : Pt} (h : p.Ok) {S : Store} (hS : AllI S) : makeM true "Filter" m_p_Filter_init [tsv p.ts, .int p.b, .str p.w, .int p.h, .bl p.e, .bl p.v] S = .ok p.obj S := by
  unfold makeM
  rw [init_ok h S]
  show shutR S.length (.loc S.length) (S ++ [.ins "Filter" [("parts", p.pv)]]) = _
  unfold shutR
  have t : (S ++ [Cell.ins "Filter" [("parts", p.pv)]]).take S.length = S := by simp
  rw [if_neg (by simp), t, if_pos (allI_small hS _)]
  have f : frz S.length (S ++ [.ins "Filter" [("parts", p.pv)]]) (.loc S.length) = some p.obj := by
    have g : (S ++ [Cell.ins "Filter" [("parts", p.pv)]])[S.length]? = some (.ins "Filter" [("parts", p.pv)]) := by simp
    have sm : smallf S.length [("parts", p.pv)] = true := by simp [smallf, pv_small]
    unfold frz
    rw [if_neg (Nat.lt_irrefl _), g]
    exact if_pos sm
  rw [f]
end Hl
namespace Hl
open PySem L2 Dn
def rnd (w : Str) (a b : Int) : Int := if w = "down" then a / b else (if 0 ≤ a then (if w = "cut" then (a.natAbs : Int) / b else (2 * (a.natAbs : Int) + b) / (2 * b)) else -(if w = "cut" then (a.natAbs : Int) / b else (2 * (a.natAbs : Int) + b) / (2 * b)))
def prods (ts xs : List Int) : List Int := (ts.zip xs).map fun p => p.1 * p.2
def Pt.sm (p : Pt) (xs : List Int) : Int := if p.e = true then ((prods p.ts xs).map fun a => rnd p.w a p.b).sum else rnd p.w (prods p.ts xs).sum p.b
def Pt.fit (p : Pt) (n : Int) : Int := if p.v = true then (n + p.h) % (2 * p.h + 1) - p.h else max (-p.h) (min p.h n)
def Pt.step (p : Pt) (xs : List Int) (x : Int) : List Int := p.fit (p.sm xs + x) :: xs.dropLast
structure Pt.St (p : Pt) (xs : List Int) : Prop where
  len : xs.length = p.ts.length
  le : ∀ x ∈ xs, -p.h ≤ x ∧ x ≤ p.h
theorem words_ne : ("down" : Str) ≠ "cut" ∧ ("near" : Str) ≠ "down" ∧ ("near" : Str) ≠ "cut" ∧ ("cut" : Str) ≠ "down" := by decide +kernel
theorem rounded_ok {a b : Int} {w : Str} (S : Store) (hb : 1 ≤ b ∧ b ≤ 1000) (ha : a.natAbs ≤ 1000000000) : m_p_rounded [.int a, .int b, .str w] S = .ok (.int (rnd w a b)) S := by
  refine run_fn ?_
  have d1 : vDiv (.int a) (.int b) S = .ok (.int (a / b)) S := vDiv_int (by omega) (by omega)
  have d2 : vDiv (.int (a.natAbs : Int)) (.int b) S = .ok (.int ((a.natAbs : Int) / b)) S := vDiv_int (by omega) (by omega)
  have m1 : vMul (.int 2) (.int (a.natAbs : Int)) S = .ok (.int (2 * (a.natAbs : Int))) S := vMul_int (by decide) (by omega)
  have m2 : vMul (.int 2) (.int b) S = .ok (.int (2 * b)) S := vMul_int (by decide) (by omega)
  have d3 : vDiv (.int (2 * (a.natAbs : Int) + b)) (.int (2 * b)) S = .ok (.int ((2 * (a.natAbs : Int) + b) / (2 * b))) S := vDiv_int (by omega) (by omega)
  unfold b_p_rounded
  unfold rnd
  by_cases h1 : w = "down"
  · simp [start1, List.replicate, h1, d1]
  · by_cases h2 : w = "cut" <;> by_cases h3 : 0 ≤ a <;> simp [start1, List.replicate, h1, h2, h3, d2, m1, m2, d3, words_ne]
theorem prod_le {p : Pt} (h : p.Ok) {xs : List Int} (hx : p.St xs) : ∀ a ∈ prods p.ts xs, a.natAbs ≤ 1920 := fun a ha => by
  unfold prods at ha
  obtain ⟨⟨t, x⟩, hm, rfl⟩ := List.mem_map.mp ha
  obtain ⟨h1, h2⟩ := List.of_mem_zip hm
  have := h.ts t h1
  have := hx.le x h2
  have := h.h
  rw [Int.natAbs_mul]
  calc t.natAbs * x.natAbs ≤ 32 * 60 := Nat.mul_le_mul (by omega) (by omega)
    _ = 1920 := rfl
theorem prods_len {p : Pt} (h : p.Ok) (xs : List Int) : (prods p.ts xs).length ≤ 3 := by
  have := h.len
  unfold prods
  simp; omega
theorem prods_sum {p : Pt} (h : p.Ok) {xs : List Int} (hx : p.St xs) : (prods p.ts xs).sum.natAbs ≤ 5760 := by
  have := sum_le (prod_le h hx)
  have : 1920 * (prods p.ts xs).length ≤ 1920 * 3 := Nat.mul_le_mul_left _ (prods_len h xs)
  omega
theorem prod_comp {p : Pt} (h : p.Ok) {xs : List Int} (hx : p.St xs) (S : Store) {r0 : Env1} (i j : Nat) (hij : i < r0.length ∧ j < r0.length ∧ i ≠ j) :
    compM (gTp 2 (gsCons (gNm i) (gsCons (gNm j) gsNil))) bYes (eBin vMul (eVar i) (eVar j)) ⟨zipW (p.ts.map PV.int) (xs.map PV.int), none⟩ r0 (zipW (p.ts.map PV.int) (xs.map PV.int)) S = .ok ((prods p.ts xs).map PV.int) S := by
  rw [zipW_ints]
  unfold prods
  rw [List.map_map]
  refine compM_map2 (.inl rfl) (fun p : Int × Int => PV.tup [.int p.1, .int p.2]) (fun p : Int × Int => PV.int (p.1 * p.2)) (p.ts.zip xs) fun q hq => ⟨(r0.set i (some (.int q.1))).set j (some (.int q.2)), by simp, rfl, ?_⟩
  obtain ⟨h1, h2⟩ := List.of_mem_zip hq
  have := h.ts _ h1
  have := hx.le _ h2
  have := h.h
  simp [List.getElem?_set, hij, hij.2.2.symm, vMul_int (i := q.1) (j := q.2) (S := S) (by omega) (by omega)]
theorem zipW_len {p : Pt} (h : p.Ok) (xs : List Int) : (zipW (p.ts.map PV.int) (xs.map PV.int)).length ≤ 16777216 := by
  have := h.len
  rw [zipW_ints]; simp; omega
theorem summed_ok {p : Pt} (h : p.Ok) {xs : List Int} (hx : p.St xs) (S : Store) : m_p_summed [p.obj, tsv xs] S = .ok (.int (p.sm xs)) S := by
  refine run_fn ?_
  have hb := h.b
  have pl := prods_len h xs
  have c1 : c_p_summed_1 [some p.obj, some (tsv xs), none, none, none] S = .ok ((prods p.ts xs).map PV.int) S := by
    unfold c_p_summed_1 tsv
    simp [ofC_ok, tops_ok, tsv, zipW_len h xs]
    exact prod_comp h hx S 3 4 ⟨by simp, by simp, by simp⟩
  have c2 : c_p_summed_2 [some p.obj, some (tsv xs), some (.lst ((prods p.ts xs).map PV.int)), none, none] S = .ok (((prods p.ts xs).map fun a => rnd p.w a p.b).map PV.int) S := by
    unfold c_p_summed_2
    simp [show (prods p.ts xs).length ≤ 16777216 by omega, -List.map_map]
    rw [List.map_map]
    refine compM_map2 (.inl rfl) PV.int (fun a => PV.int (rnd p.w a p.b)) (prods p.ts xs) fun a ha => ⟨_, rfl, rfl, ?_⟩
    have := prod_le h hx a ha
    simp [ofC_ok, bottom_ok, rounding_ok, rounded_ok (a := a) (b := p.b) (w := p.w) S (by omega) (by omega)]
  have sb := prods_sum h hx
  have r0 := rounded_ok (a := (prods p.ts xs).sum) (b := p.b) (w := p.w) S (by omega) (by omega)
  unfold b_p_summed Pt.sm
  cases he : p.e with
  | false => simp [start1, List.replicate, ofC_ok, c1, vSum_ints, r0, each_ok, he, bottom_ok, rounding_ok]
  | true => simp [start1, List.replicate, ofC_ok, c1, c2, vSum_ints, each_ok, he, bottom_ok, rounding_ok, -List.map_map]
theorem vSl_last (xs : List Int) (S : Store) : vSl (tsv xs) none (some (-1)) S = .ok (tsv xs.dropLast) S := by
  show Res.ok (PV.tup (cutP (xs.map PV.int) none (some (-1)))) S = _
  rw [cut_last]
  unfold tsv
  rw [List.map_dropLast]
theorem fitted_ok {p : Pt} (h : p.Ok) (n : Int) (S : Store) : m_p_fitted [p.obj, .int n] S = .ok (.int (p.fit n)) S := by
  refine run_fn ?_
  have hh := h.h
  have m1 : vMul (.int 2) (.int p.h) S = .ok (.int (2 * p.h)) S := mul2 (by omega)
  have m2 : vMod (.int (n + p.h)) (.int (2 * p.h + 1)) S = .ok (.int ((n + p.h) % (2 * p.h + 1))) S := vMod_int (by omega)
  unfold b_p_fitted Pt.fit
  cases hv : p.v <;> simp [start1, List.replicate, ofC_ok, wraps_ok, high_ok, hv, m1, m2]
theorem stepped_ok {p : Pt} (h : p.Ok) {xs : List Int} (hx : p.St xs) (x : Int) (S : Store) : m_p_stepped [p.obj, tsv xs, .int x] S = .ok (tsv (p.step xs x)) S := by
  refine run_fn ?_
  have hl := h.len
  have z : ((tsv xs.dropLast) = .tup (xs.dropLast.map PV.int)) := rfl
  have z1 : xs.length - 1 + 1 ≤ sizeLine := seq_le (by have := hx.len; omega)
  unfold b_p_stepped
  simp [start1, List.replicate, summed_ok h hx, fitted_ok h, vSl_last]
  simp [z, z1, tsv, Pt.step]
theorem need_input_ok {x : Int} (hx : -1000 ≤ x ∧ x ≤ 1000) (S : Store) : m_p_need_input [.int x] S = .ok .non S := by
  refine fn_nx (r := [some (.int x)]) ?_ (Nat.le_refl _)
  unfold b_p_need_input
  simp [start1, List.replicate, between_ok, hx]
def pdts (ts : List Int) : PyData := .tuple (ts.map .int)
theorem d0s_ints : ∀ ts : List Int, data0s (ts.map PV.int) = some (ts.map PyData.int)
  | [] => rfl
  | t :: ts => by simp [data0s, data0, d0s_ints ts]
theorem tsv_pd (ts : List Int) : data0 (tsv ts) = some (pdts ts) := by
  unfold tsv pdts
  simp [data0, d0s_ints]
def Pt.pd (p : Pt) : PyData := .tuple [pdts p.ts, .int p.b, .str p.w, .int p.h, .bool p.e, .bool p.v]
theorem d0_pv (p : Pt) : data0 p.pv = some p.pd := by
  unfold Pt.pv Pt.pd tsv pdts
  simp [data0, data0s, d0s_ints]
def smallI (i : Int) : Prop := i.natAbs < 18446744073709551616
theorem okp_int {i : Int} (h : smallI i) : okP (.int i) = true := by
  have := log_small h
  simp only [okP]
  exact decide_eq_true (by omega)
theorem ok_ints : ∀ {ts : List Int}, (∀ t ∈ ts, smallI t) → okPs (ts.map PyData.int) = true ∧ capAll (ts.map PyData.int) = 1923 * ts.length
  | [], _ => ⟨by simp [okPs], by simp [capAll]⟩
  | t :: ts, h => by
    obtain ⟨h1, h2⟩ := ok_ints (ts := ts) fun x hx => h x (List.mem_cons_of_mem _ hx)
    refine ⟨by simp [okPs, okp_int (h t List.mem_cons_self), h1], ?_⟩
    simp only [List.map_cons, capAll, cap, h2, List.length_cons]
    omega
theorem okp_ts {ts : List Int} (h : ∀ t ∈ ts, smallI t) : okP (pdts ts) = true ∧ cap (pdts ts) = 1923 * ts.length + 3 := by
  obtain ⟨h1, h2⟩ := ok_ints h
  exact ⟨by simpa [pdts, okP] using h1, by simp only [pdts, cap, h2]⟩
theorem dep_ints : ∀ ts : List Int, PyData.depthAll (ts.map PyData.int) ≤ 1
  | [] => by simp [PyData.depthAll]
  | t :: ts => by
    have := dep_ints ts
    simp only [List.map_cons, PyData.depthAll, PyData.depth]
    omega
theorem pdts_depth (ts : List Int) : (pdts ts).depth ≤ 2 := by
  have := dep_ints ts
  unfold pdts
  simp only [PyData.depth]
  omega
theorem w_ok {p : Pt} (h : p.Ok) : cpsOk p.w = true ∧ p.w.length ≤ 4 := by
  rcases h.w with e | e | e <;> rw [e] <;> exact ⟨cps_of _, by decide +kernel⟩
theorem ts_small {p : Pt} (h : p.Ok) : ∀ t ∈ p.ts, smallI t := fun t ht => by
  have := h.ts t ht
  unfold smallI; omega
theorem st_smallI {p : Pt} (h : p.Ok) {xs : List Int} (hx : p.St xs) : ∀ t ∈ xs, smallI t := fun t ht => by
  have := hx.le t ht
  have := h.h
  unfold smallI; omega
def Dt (d : PV) (q : PyData) (c e : Nat) : Prop := data0 d = some q ∧ okP q = true ∧ cap q ≤ c ∧ q.depth ≤ e
def Dts (ds : List PV) (qs : List PyData) (c e : Nat) : Prop := data0s ds = some qs ∧ okPs qs = true ∧ capAll qs ≤ c ∧ PyData.depthAll qs ≤ e
theorem Dts.nil (c e : Nat) : Dts [] [] c e := ⟨rfl, by simp [okPs], by simp [capAll], by simp [PyData.depthAll]⟩
theorem Dts.cons {d : PV} {q : PyData} {ds : List PV} {qs : List PyData} {c1 c2 c e : Nat} (h : Dt d q c1 e) (t : Dts ds qs c2 e) (hc : c1 + c2 + 2 ≤ c) : Dts (d :: ds) (q :: qs) c e := by
  obtain ⟨a1, a2, a3, a4⟩ := h
  obtain ⟨b1, b2, b3, b4⟩ := t
  refine ⟨by simp [data0s, a1, b1], by simp [okPs, a2, b2], ?_, ?_⟩
  · simp only [capAll]; omega
  · simp only [PyData.depthAll]; omega
theorem Dts.nil' : Dts [] [] 0 0 := ⟨rfl, by simp [okPs], by simp [capAll], by simp [PyData.depthAll]⟩
theorem Dts.add {d : PV} {q : PyData} {ds : List PV} {qs : List PyData} {c1 c2 e1 e2 : Nat} (h : Dt d q c1 e1) (t : Dts ds qs c2 e2) : Dts (d :: ds) (q :: qs) (c1 + c2 + 2) (max e1 e2) := by
  obtain ⟨a1, a2, a3, a4⟩ := h
  obtain ⟨b1, b2, b3, b4⟩ := t
  refine ⟨by simp [data0s, a1, b1], by simp [okPs, a2, b2], ?_, ?_⟩
  · simp only [capAll]; omega
  · simp only [PyData.depthAll]; omega
theorem Dt.tup {ds : List PV} {qs : List PyData} {c e : Nat} (t : Dts ds qs c e) : Dt (.tup ds) (.tuple qs) (c + 3) (e + 1) := by
  obtain ⟨b1, b2, b3, b4⟩ := t
  refine ⟨by simp [data0, b1], by simpa [okP] using b2, ?_, ?_⟩
  · simp only [cap]; omega
  · simp only [PyData.depth]; omega
theorem Dt.lst {ds : List PV} {qs : List PyData} {c e : Nat} (t : Dts ds qs c e) : Dt (.lst ds) (.list qs) (c + 3) (e + 1) := by
  obtain ⟨b1, b2, b3, b4⟩ := t
  refine ⟨by simp [data0, b1], by simpa [okP] using b2, ?_, ?_⟩
  · simp only [cap]; omega
  · simp only [PyData.depth]; omega
theorem Dt.le {d : PV} {q : PyData} {c e c' e' : Nat} (h : Dt d q c e) (hc : c ≤ c') (he : e ≤ e') : Dt d q c' e' := ⟨h.1, h.2.1, Nat.le_trans h.2.2.1 hc, Nat.le_trans h.2.2.2 he⟩
theorem Dt.int {i : Int} (h : smallI i) : Dt (.int i) (.int i) 1921 1 := ⟨by simp [data0], okp_int h, by simp [cap], by simp [PyData.depth]⟩
theorem Dt.bl (b : Bool) : Dt (.bl b) (.bool b) 5 1 := ⟨by simp [data0], by simp [okP], by simp [cap], by simp [PyData.depth]⟩
theorem Dt.non : Dt .non .none 4 1 := ⟨by simp [data0], by simp [okP], by simp [cap], by simp [PyData.depth]⟩
theorem Dt.tsv {ts : List Int} (h : ∀ t ∈ ts, smallI t) : Dt (tsv ts) (pdts ts) (1923 * ts.length + 3) 2 := ⟨tsv_pd ts, (okp_ts h).1, Nat.le_of_eq (okp_ts h).2, pdts_depth ts⟩
theorem Dt.repr {d : PV} {q : PyData} {c e : Nat} (h : Dt d q c e) (hc : c ≤ 16777216) (he : e ≤ 64) (S : Store) (hd : dataOf S d = data0 d := by rfl) : vRepr [d] S = .ok (.str q.shown) S :=
  vRepr_ok (by rw [hd]; exact h.1) (reprOk_of h.2.1 (Nat.le_trans h.2.2.1 hc) (Nat.le_trans h.2.2.2 he))
mutual
theorem lay_of : ∀ {q : PyData}, okP q = true → q.canLay0 = true
  | .none, _ => by simp [PyData.canLay0]
  | .bool _, _ => by simp [PyData.canLay0]
  | .int _, _ => by simp [PyData.canLay0]
  | .str x, h => by
    have h2 : cpsOk x = true := by simpa [okP] using h
    simp only [PyData.canLay0]
    unfold PyData.strOk
    rw [← Array.all_toList]
    exact h2
  | .list xs, h => by simp only [PyData.canLay0]; exact lays_of (by simpa [okP] using h)
  | .tuple xs, h => by simp only [PyData.canLay0]; exact lays_of (by simpa [okP] using h)
  | .dict _, h => by simp [okP] at h
theorem lays_of : ∀ {qs : List PyData}, okPs qs = true → PyData.canLayAll0 qs = true
  | [], _ => by simp [PyData.canLayAll0]
  | q :: qs, h => by
    simp only [okPs, Bool.and_eq_true] at h
    simp only [PyData.canLayAll0, lay_of h.1, lays_of h.2, Bool.and_self]
end
theorem eqv_ints : ∀ (xs ys : List Int), PyData.eqvAll (xs.map PyData.int) (ys.map PyData.int) = decide (xs = ys)
  | [], [] => by simp [PyData.eqvAll]
  | [], _ :: _ => by simp [PyData.eqvAll]
  | _ :: _, [] => by simp [PyData.eqvAll]
  | x :: xs, y :: ys => by
    simp only [List.map_cons, PyData.eqvAll, PyData.eqv, eqv_ints xs ys]
    by_cases h : x = y <;> by_cases h2 : xs = ys <;> simp [h, h2]
theorem Dt.pv {p : Pt} (h : p.Ok) : Dt p.pv p.pd 100000 4 := by
  obtain ⟨w1, w2⟩ := w_ok h
  have hl := h.len
  have hb := h.b
  have hh := h.h
  refine ⟨d0_pv p, ?_, ?_, ?_⟩
  · obtain ⟨a1, a2⟩ := okp_ts (ts_small h)
    have i1 : okP (.int p.b) = true := okp_int (by unfold smallI; omega)
    have i2 : okP (.int p.h) = true := okp_int (by unfold smallI; omega)
    unfold Pt.pd
    simp only [okP, okPs] at *
    simp only [a1, w1, i1, i2]
    decide
  · obtain ⟨a1, a2⟩ := okp_ts (ts_small h)
    unfold Pt.pd
    simp only [cap, capAll] at *
    omega
  · have d1 := pdts_depth p.ts
    unfold Pt.pd
    simp only [PyData.depth, PyData.depthAll]
    omega
theorem fit_le {p : Pt} (h : p.Ok) (n : Int) : -p.h ≤ p.fit n ∧ p.fit n ≤ p.h := by
  have hh := h.h
  unfold Pt.fit
  split
  · have m0 : 0 ≤ (n + p.h) % (2 * p.h + 1) := Int.emod_nonneg _ (by omega)
    have m1 : (n + p.h) % (2 * p.h + 1) < 2 * p.h + 1 := Int.emod_lt_of_pos _ (by omega)
    omega
  · omega
theorem step_st {p : Pt} (h : p.Ok) {xs : List Int} (hx : p.St xs) (x : Int) : p.St (p.step xs x) := by
  have hl := h.len
  have l := hx.len
  refine ⟨by unfold Pt.step; simp; omega, fun t ht => ?_⟩
  unfold Pt.step at ht
  rcases List.mem_cons.mp ht with rfl | ht
  · exact fit_le h _
  · exact hx.le t (List.dropLast_subset _ ht)
end Hl
namespace Hl
open PySem L2 Dn
def trip (x y z : Int) : Cell := .lst [.int x, .int y, .int z]
structure Pn (L k n : Nat) (S : Store) : Prop where
  all : AllI S
  len : S.length = L
  pen : ∃ x y z : Int, S[k]? = some (trip x y z) ∧ 0 ≤ y ∧ y < 2147483648 ∧ 0 ≤ z ∧ z ≤ n
theorem Pn.le {L k n m : Nat} {S : Store} (h : Pn L k n S) (e : n ≤ m) : Pn L k m S := ⟨h.all, h.len, let ⟨x, y, z, a, b, c, d, f⟩ := h.pen; ⟨x, y, z, a, b, c, d, by omega⟩⟩
section
variable {S : Store} {k : Nat} {x y z : Int} (h : S[k]? = some (trip x y z))
include h
theorem px0 : vIx (.loc k) (.int 0) S = .ok (.int x) S := by
  have e : seqOf S (.loc k) = some [.int x, .int y, .int z] := by simp [seqOf, lstOf, h, trip]
  show (match seqOf S (.loc k) with | some xs => ofO (atI xs 0) S | none => Res.bad) = _
  rw [e]; rfl
theorem px1 : vIx (.loc k) (.int 1) S = .ok (.int y) S := by
  have e : seqOf S (.loc k) = some [.int x, .int y, .int z] := by simp [seqOf, lstOf, h, trip]
  show (match seqOf S (.loc k) with | some xs => ofO (atI xs 1) S | none => Res.bad) = _
  rw [e]; rfl
theorem px2 : vIx (.loc k) (.int 2) S = .ok (.int z) S := by
  have e : seqOf S (.loc k) = some [.int x, .int y, .int z] := by simp [seqOf, lstOf, h, trip]
  show (match seqOf S (.loc k) with | some xs => ofO (atI xs 2) S | none => Res.bad) = _
  rw [e]; rfl
theorem put0 (v : Int) (r : Env1) : putIx (.loc k) (.int 0) (.int v) r S = .ok (.nx r) (S.set k (trip v y z)) := by
  unfold putIx; simp only [h, trip]; rfl
theorem put1 (v : Int) (r : Env1) : putIx (.loc k) (.int 1) (.int v) r S = .ok (.nx r) (S.set k (trip x v z)) := by
  unfold putIx; simp only [h, trip]; rfl
theorem put2 (v : Int) (r : Env1) : putIx (.loc k) (.int 2) (.int v) r S = .ok (.nx r) (S.set k (trip x y v)) := by
  unfold putIx; simp only [h, trip]; rfl
theorem set_at (c : Cell) : (S.set k c)[k]? = some c := List.getElem?_set_self (List.getElem?_eq_some_iff.mp h).1
end
theorem _root_.Dn.AllI.set {S : Store} (h : AllI S) (k : Nat) (x y z : Int) : AllI (S.set k (trip x y z)) := h.setI k [x, y, z]
theorem _root_.Dn.AllI.snoc {S : Store} (h : AllI S) (x y z : Int) : AllI (S ++ [trip x y z]) := h.app [x, y, z]
noncomputable def drawB (a c : Int) : SM := (sSeq (sIf (bVal (eBin vGt (eBin vIx (eVar 0) (eC (.int 0))) (eC (.int 0)))) (sSeq (sSet 2 (eBin vMod (eBin vIx (eVar 0) (eC (.int 0))) (eVar 1)))
    (sSeq (sPut (eVar 0) (eC (.int 0)) (eBin vDiv (eBin vIx (eVar 0) (eC (.int 0))) (eVar 1)))
    (sRet (eVar 2)))) sNil)
    (sSeq (sPut (eVar 0) (eC (.int 2)) (eBin vAdd (eBin vIx (eVar 0) (eC (.int 2))) (eC (.int 1))))
    (sSeq (sPut (eVar 0) (eC (.int 1)) (eBin vMod (eBin vAdd (eBin vAdd (eBin vMul (eBin vIx (eVar 0) (eC (.int 1))) (eC (.int 48271))) (eBin vMul (eC (.int a)) (eBin vIx (eVar 0) (eC (.int 2))))) (eC (.int 7))) (eC (.int 2147483647))))
    (sSeq (sSet 3 (eBin vMod (eBin vAdd (eBin vAdd (eBin vMul (eBin vIx (eVar 0) (eC (.int 1))) (eBin vIx (eVar 0) (eC (.int 1)))) (eBin vMul (eC (.int 69621)) (eBin vIx (eVar 0) (eC (.int 1))))) (eC (.int 11))) (eC (.int 2147483629))))
    (sSeq (sSet 3 (eBin vMod (eBin vAdd (eBin vMul (eVar 3) (eVar 3)) (eBin vMul (eC (.int c)) (eVar 3))) (eC (.int 2147483587))))
    (sRet (eBin vMod (eBin vDiv (eVar 3) (eC (.int 16))) (eVar 1))))))))
theorem draw_set {L k n : Nat} {S : Store} {m : Int} {a c : Int} (ha : 0 ≤ a ∧ a ≤ 100000) (hc : 0 ≤ c ∧ c ≤ 100000) (h : Pn L k n S) (hm : 1 ≤ m ∧ m ≤ 100000000000000) (hn : n ≤ 1000000000000) : ∃ v d, fnM false 4 (drawB a c) [.loc k, .int m] S = .ok (.int v) (S.set k d) ∧ 0 ≤ v ∧ v < m ∧ Pn L k (n + 1) (S.set k d) := by
  obtain ⟨x, y, z, e, y0, y1, z0, z1⟩ := h.pen
  have mp : 0 < m := by omega
  have ms : m.natAbs < 18446744073709551616 := by omega
  
  by_cases hx : 0 < x
  · refine ⟨x % m, trip (x / m) y z, fn_rt ?_ (by simp), Int.emod_nonneg _ (by omega), Int.emod_lt_of_pos _ mp, ⟨h.all.set _ _ _ _, by simp [h.len], _, _, _, set_at e _, y0, y1, z0, by omega⟩⟩
    unfold drawB
    simp [start1, List.replicate, px0 e, hx, vMod_int mp, vDiv_int mp ms, put0 e]
  · have e1 := set_at e (trip x y (z + 1))
    have a1 : vMul (.int y) (.int 48271) (S.set k (trip x y (z + 1))) = .ok (.int (y * 48271)) _ := vMul_int (by omega) (by decide)
    have a2 : vMul (.int a) (.int (z + 1)) (S.set k (trip x y (z + 1))) = .ok (.int (a * (z + 1))) _ := vMul_int (by omega) (by omega)
    have a3 : vMod (.int (y * 48271 + a * (z + 1) + 7)) (.int 2147483647) (S.set k (trip x y (z + 1))) = .ok (.int ((y * 48271 + a * (z + 1) + 7) % 2147483647)) _ := vMod_int (by decide)
    generalize hy2 : (y * 48271 + a * (z + 1) + 7) % 2147483647 = y2 at *
    have b0 : 0 ≤ y2 := by rw [← hy2]; exact Int.emod_nonneg _ (by decide)
    have b1 : y2 < 2147483647 := by rw [← hy2]; exact Int.emod_lt_of_pos _ (by decide)
    have e2 := set_at e1 (trip x y2 (z + 1))
    rw [List.set_set] at e2
    have c1 : vMul (.int y2) (.int y2) (S.set k (trip x y2 (z + 1))) = .ok (.int (y2 * y2)) _ := vMul_int (by omega) (by omega)
    have c2 : vMul (.int 69621) (.int y2) (S.set k (trip x y2 (z + 1))) = .ok (.int (69621 * y2)) _ := vMul_int (by decide) (by omega)
    have c3 : vMod (.int (y2 * y2 + 69621 * y2 + 11)) (.int 2147483629) (S.set k (trip x y2 (z + 1))) = .ok (.int ((y2 * y2 + 69621 * y2 + 11) % 2147483629)) _ := vMod_int (by decide)
    generalize hs1 : (y2 * y2 + 69621 * y2 + 11) % 2147483629 = t1 at *
    have d0 : 0 ≤ t1 := by rw [← hs1]; exact Int.emod_nonneg _ (by decide)
    have d1 : t1 < 2147483629 := by rw [← hs1]; exact Int.emod_lt_of_pos _ (by decide)
    have f1 : vMul (.int t1) (.int t1) (S.set k (trip x y2 (z + 1))) = .ok (.int (t1 * t1)) _ := vMul_int (by omega) (by omega)
    have f2 : vMul (.int c) (.int t1) (S.set k (trip x y2 (z + 1))) = .ok (.int (c * t1)) _ := vMul_int (by omega) (by omega)
    have f3 : vMod (.int (t1 * t1 + c * t1)) (.int 2147483587) (S.set k (trip x y2 (z + 1))) = .ok (.int ((t1 * t1 + c * t1) % 2147483587)) _ := vMod_int (by decide)
    generalize (t1 * t1 + c * t1) % 2147483587 = t2 at *
    have g1 : vDiv (.int t2) (.int 16) (S.set k (trip x y2 (z + 1))) = .ok (.int (t2 / 16)) _ := vDiv_int (by decide) (by decide)
    refine ⟨t2 / 16 % m, trip x y2 (z + 1), fn_rt ?_ (by simp), Int.emod_nonneg _ (by omega), Int.emod_lt_of_pos _ mp, ⟨h.all.set _ _ _ _, by simp [h.len], _, _, _, e2, b0, by omega, by omega, by omega⟩⟩
    unfold drawB
    simp [start1, List.replicate, px0 e, hx, px2 e, put2 e, px1 e1, px2 e1, a1, a2, a3, put1 e1, List.set_set, px1 e2, c1, c2, c3, f1, f2, f3, g1, vMod_int mp]
theorem draw_gen {L k n : Nat} {S : Store} {m : Int} {a c : Int} (ha : 0 ≤ a ∧ a ≤ 100000) (hc : 0 ≤ c ∧ c ≤ 100000) (h : Pn L k n S) (hm : 1 ≤ m ∧ m ≤ 100000000000000) (hn : n ≤ 1000000000000) : ∃ v S', fnM false 4 (drawB a c) [.loc k, .int m] S = .ok (.int v) S' ∧ 0 ≤ v ∧ v < m ∧ Pn L k (n + 1) S' := by
  obtain ⟨v, d, e, h0, h1, h2⟩ := draw_set ha hc h hm hn
  exact ⟨v, _, e, h0, h1, h2⟩
theorem draw_ok {L k n : Nat} {S : Store} {m : Int} (h : Pn L k n S) (hm : 1 ≤ m ∧ m ≤ 100000000000000) (hn : n ≤ 1000000000000) : ∃ v S', m_draw [.loc k, .int m] S = .ok (.int v) S' ∧ 0 ≤ v ∧ v < m ∧ Pn L k (n + 1) S' :=
  draw_gen (a := 1009) (c := 40014) (by decide) (by decide) h hm hn
theorem fn_pn {kp : Bool} {N : Nat} {b : SM} {ds : List PV} {S S' : Store} {d : PV} {L k n m : Nat} (h : Pn L k n S) (h' : Pn L k m S') (e : b (start1 N ds) S = .ok (.rt d) S') : fnM kp N b ds S = .ok d S' := fn_rt e (by rw [h.len, h'.len]; exact Nat.le_refl _)
theorem same_ok {d : PV} {S : Store} {q : PyData} {c e : Nat} (h : Dt d q c e) (hc : c ≤ 16777216) (he : e ≤ 64) (hd : dataOf S d = data0 d := by rfl) : m_same [d, d] S = .ok (.bl true) S := by
  refine run_fn ?_
  have := h.repr hc he S hd
  unfold b_same
  simp [start1, List.replicate, this]
theorem cell_ok {ns : List Int} {i : Nat} (hl : ns.length ≤ 63) (S : Store) : ∃ c : Int, m_cell [.scr ns, .int i] S = .ok (.int c) S := by
  have l := vLen_scr ns S
  by_cases h : i < ns.length
  · obtain ⟨d, hd, hm⟩ := atI_in (xs := ns.map PV.int) (v := i) (by omega) (by rw [List.length_map]; omega)
    obtain ⟨c, _, rfl⟩ := List.mem_map.mp hm
    refine ⟨c, fn_rt ?_ (Nat.le_refl _)⟩
    have ix : vIx (.scr ns) (.int i) S = .ok (.int c) S := by
      show ofO (atI (ns.map PV.int) i) S = _
      rw [hd]; rfl
    have h' : (i : Int) < ns.length := by omega
    unfold b_cell
    simp [start1, List.replicate, l, h, ix]
  · refine ⟨0, fn_rt ?_ (Nat.le_refl _)⟩
    unfold b_cell
    simp [start1, List.replicate, l, h]
theorem pen_ok (c : Int) {S : Store} (h : AllI S) : ∃ S', m_pen [.int c] S = .ok (.loc S.length) S' ∧ Pn (S.length + 1) S.length 0 S' := by
  have pw : vPow (.int 10) (.int 18) S = .ok (.int (10 ^ 18)) S := by
    unfold vPow
    exact if_pos ⟨by decide, by decide, by decide⟩
  have md : vMod (.int c) (.int 2147483629) S = .ok (.int (c % 2147483629)) S := vMod_int (by decide)
  have m0 : 0 ≤ c % 2147483629 := Int.emod_nonneg _ (by decide)
  have m1 : c % 2147483629 < 2147483629 := Int.emod_lt_of_pos _ (by decide)
  refine ⟨S ++ [trip (max 0 (c - 10 ^ 18)) (c % 2147483629 + 1) 0], ?_, h.snoc _ _ _, by simp, _, _, _, by simp; rfl, by omega, by omega, by omega, by omega⟩
  have e : b_pen (start1 1 [.int c]) S = .ok (.rt (.loc S.length)) (S ++ [trip (max 0 (c - 10 ^ 18)) (c % 2147483629 + 1) 0]) := by
    unfold b_pen
    simp [start1, List.replicate, pw, md]
    rfl
  unfold m_pen fnM
  rw [e]; rfl
end Hl
namespace Hl
open PySem L2 Dn
end Hl
namespace Hl
open PySem L2 Dn
def Has (n : Nat) (l : List (Nat × PV)) (r : Env1) : Prop := r.length = n ∧ ∀ p ∈ l, r[p.1]? = some (some p.2)
theorem Has.len {n : Nat} {l : List (Nat × PV)} {r : Env1} (h : Has n l r) : r.length = n := h.1
theorem Has.get {n : Nat} {l : List (Nat × PV)} {r : Env1} (h : Has n l r) (i : Nat) {v : PV} (hm : (i, v) ∈ l := by simp) : r[i]? = some (some v) := h.2 (i, v) hm
theorem Has.set {n : Nat} {l : List (Nat × PV)} {r : Env1} (h : Has n l r) (j : Nat) (v : Option PV) (hj : ∀ p ∈ l, p.1 ≠ j := by simp) : Has n l (r.set j v) :=
  ⟨by rw [List.length_set]; exact h.1, fun p hp => by rw [List.getElem?_set_ne (hj p hp).symm]; exact h.2 p hp⟩
theorem Has.put {n : Nat} {l : List (Nat × PV)} {r : Env1} (h : Has n l r) (j : Nat) (v : PV) (hj : ∀ p ∈ l, p.1 ≠ j := by simp) (hn : j < n := by omega) : Has n ((j, v) :: l) (r.set j (some v)) :=
  ⟨by rw [List.length_set]; exact h.1, fun p hp => by
    rcases List.mem_cons.mp hp with rfl | hp
    · rw [List.getElem?_set_self (by rw [h.1]; exact hn)]
    · rw [List.getElem?_set_ne (hj p hp).symm]; exact h.2 p hp⟩
theorem Has.sub {n : Nat} {l l' : List (Nat × PV)} {r : Env1} (h : Has n l r) (hs : ∀ p ∈ l', p ∈ l := by simp) : Has n l' r := ⟨h.1, fun p hp => h.2 p (hs p hp)⟩
theorem Has.start {n : Nat} {d : PV} (hn : 1 ≤ n := by omega) : Has n [(0, d)] (start1 n [d]) := by
  refine ⟨by simp [start1]; omega, fun p hp => ?_⟩
  simp at hp; subst hp
  simp [start1]
theorem cells_loop {ns : List Int} (hl : ns.length ≤ 63) {N i j : Nat} {M : Int} {inner : SM} (hM : 1 ≤ M ∧ M ≤ 100) (hij : i < N ∧ j < N ∧ i ≠ j ∧ i ≠ 0 ∧ j ≠ 0)
    (h : ∀ (r : Env1) (S : Store) (L k : Nat), Pn L k 0 S → Has N [(0, .scr ns), (j, .loc k)] r → ∃ r' S', inner r S = .ok (.nx r') S' ∧ AllI S' ∧ Has N [(0, .scr ns)] r') (r : Env1) (S : Store) (hS : AllI S) (hr : Has N [(0, .scr ns)] r) :
    ∃ r' S', sFor (iRange1 (eCB vMax (lCons (eC (.int 1)) (lCons (eCB vMin (lCons (eCB vLen (lCons (eVar 0) lNil)) (lCons (eC (.int M)) lNil))) lNil)))) (gNm i) (sSeq (sSet j (eCallN 1 m_pen [] (lCons (eCallN 2 m_cell [] (lCons (eVar 0) (lCons (eVar i) lNil))) lNil))) inner) r S = .ok (.nx r') S' ∧ AllI S' ∧ Has N [(0, .scr ns)] r' := by
  have g00 : r[0]? = some (some (.scr ns)) := hr.get 0
  obtain ⟨r', S', e, h1, h2⟩ := sFor_inv (g := gNm i) (b := sSeq (sSet j (eCallN 1 m_pen [] (lCons (eCallN 2 m_cell [] (lCons (eVar 0) (lCons (eVar i) lNil))) lNil))) inner) (r := r) (S := S) (S1 := S) (ds := rng 0 (max 1 (min (ns.length : Int) M)).toNat)
    (it := iRange1 (eCB vMax (lCons (eC (.int 1)) (lCons (eCB vMin (lCons (eCB vLen (lCons (eVar 0) lNil)) (lCons (eC (.int M)) lNil))) lNil)))) (iRange1_ok (n := max 1 (min (ns.length : Int) M)) (by simp [g00, vLen_scr]) (by omega)) (fun _ r S => AllI S ∧ Has N [(0, .scr ns)] r) ⟨hS, hr⟩ (fun t d hd r S ⟨hS, hr⟩ => by
    obtain ⟨ht, rfl⟩ := rng_get hd
    obtain ⟨c, ec⟩ := cell_ok (ns := ns) (i := t) hl S
    obtain ⟨S3, ep, hp⟩ := pen_ok c hS
    have hr1 : Has N [(i, .int t), (0, .scr ns)] (r.set i (some (.int t))) := hr.put i _ (by simp; omega) hij.1
    have hr2 := (hr1.put j (.loc S.length) (by simp; omega) hij.2.1).sub (l' := [(0, .scr ns), (j, .loc S.length)])
    obtain ⟨r', S', e, h1, h2⟩ := h _ S3 _ _ hp hr2
    refine ⟨_, r', S', rfl, .inl ?_, h1, h2⟩
    have g0 : (r.set i (some (PV.int t)))[0]? = some (some (.scr ns)) := hr1.get 0
    have g1 : (r.set i (some (PV.int t)))[i]? = some (some (.int t)) := hr1.get i
    rw [Int.zero_add]
    simp [g0, g1, ec, ep, e])
  exact ⟨r', S', e, h1, h2⟩
theorem laps_loop {N i K c L k n : Nat} {l : List (Nat × PV)} {body : SM} (hK : K ≤ 10000) (hi : i < N ∧ ∀ p ∈ l, p.1 ≠ i)
    (h : ∀ (t : Nat), t < K → ∀ (r : Env1) (S : Store), Pn L k (n + c * t) S → Has N ((i, .int t) :: l) r → ∃ r' S', body r S = .ok (.nx r') S' ∧ Pn L k (n + c * t + c) S' ∧ Has N l r') {r : Env1} {S : Store} (hS : Pn L k n S) (hr : Has N l r) :
    ∃ r' S', sFor (iRange1 (eC (.int K))) (gNm i) body r S = .ok (.nx r') S' ∧ Pn L k (n + c * K) S' ∧ Has N l r' := by
  obtain ⟨r', S', e, h1, h2⟩ := sFor_inv (g := gNm i) (b := body) (it := iRange1 (eC (.int K))) (r := r) (S := S) (S1 := S) (ds := rng 0 K) (iRange1_ok (n := K) rfl (by omega)) (fun t r S => Pn L k (n + c * t) S ∧ Has N l r) ⟨by simpa using hS, hr⟩ (fun t d hd r S ⟨hS, hr⟩ => by
    obtain ⟨ht, rfl⟩ := rng_get hd
    rw [Int.zero_add]
    obtain ⟨r', S', e, h1, h2⟩ := h t ht _ S hS (hr.put i (.int t) hi.2 hi.1)
    exact ⟨_, r', S', rfl, .inl e, by rw [Nat.mul_succ, ← Nat.add_assoc]; exact h1, h2⟩)
  rw [rng_len] at h1
  exact ⟨r', S', e, h1, h2⟩
theorem vals_loop {N i : Nat} {l : List (Nat × PV)} {it : IM} {body : SM} {ds : List PV} (hi : i < N ∧ ∀ p ∈ l, p.1 ≠ i) {r : Env1} {S S1 : Store} (hit : it r S = .ok ⟨ds, none⟩ S1)
    (h : ∀ d ∈ ds, ∀ (r : Env1), Has N ((i, d) :: l) r → ∃ r', body r S1 = .ok (.nx r') S1 ∧ Has N l r') (hr : Has N l r) :
    ∃ r', sFor it (gNm i) body r S = .ok (.nx r') S1 ∧ Has N l r' := by
  obtain ⟨r', S', e, rfl, h2⟩ := sFor_inv (r := r) (S := S) (S1 := S1) (ds := ds) (b := body) (g := gNm i) hit (fun t r S => S = S1 ∧ Has N l r) ⟨rfl, hr⟩ (fun t d hd r S ⟨e, hr⟩ => by
    subst e
    obtain ⟨r', e, h2⟩ := h d (List.mem_of_getElem? hd) _ (hr.put i d hi.2 hi.1)
    exact ⟨_, r', S, rfl, .inl e, rfl, h2⟩)
  exact ⟨r', e, h2⟩
theorem law_end {N : Nat} {b : SM} {ns : List Int} {S' : Store} (e : b (start1 N [.scr ns]) [] = .ok (.rt (.bl true)) S') : ∃ S, fnM false N b [.scr ns] [] = .ok (.bl true) S := by
  refine ⟨[], ?_⟩
  unfold fnM
  rw [e]
  show shutR 0 (.bl true) S' = _
  unfold shutR
  by_cases h : S'.length ≤ 0
  · rw [if_pos h]
    have : S' = [] := List.length_eq_zero_iff.mp (by omega)
    rw [this]
  · rw [if_neg h]; rfl
end Hl
namespace Hl
open PySem L2 Dn
def nums (h : Int) : List Int := (List.range (2 * h + 1).toNat).map fun (i : Nat) => -h + (i : Int)
def spn (h : Int) : Nat → List (List Int)
  | 0 => [[]]
  | n + 1 => (spn h n).flatMap fun s => (nums h).map fun x => s ++ [x]
theorem nums_mem {h x : Int} (hh : 0 ≤ h) : x ∈ nums h ↔ -h ≤ x ∧ x ≤ h := by
  unfold nums
  simp only [List.mem_map, List.mem_range]
  constructor
  · rintro ⟨i, hi, rfl⟩; omega
  · intro hx; exact ⟨(x + h).toNat, by omega, by omega⟩
theorem spn_mem {h : Int} (hh : 0 ≤ h) : ∀ {n : Nat} {s : List Int}, s ∈ spn h n ↔ s.length = n ∧ ∀ x ∈ s, -h ≤ x ∧ x ≤ h
  | 0, s => by simp [spn]; intro e; subst e; simp
  | n + 1, s => by
    simp only [spn, List.mem_flatMap, List.mem_map]
    constructor
    · rintro ⟨t, ht, x, hx, rfl⟩
      have ih := (spn_mem hh (n := n)).mp ht
      have := (nums_mem hh).mp hx
      refine ⟨by simp [ih.1], fun y hy => ?_⟩
      rcases List.mem_append.mp hy with hy | hy
      · exact ih.2 y hy
      · simp at hy; subst hy; exact this
    · rintro ⟨hl, hs⟩
      have hne : s ≠ [] := fun e => by subst e; simp at hl
      refine ⟨s.dropLast, (spn_mem hh (n := n)).mpr ⟨by simp [hl], fun y hy => hs y (List.dropLast_subset _ hy)⟩, s.getLast hne, (nums_mem hh).mpr (hs _ (List.getLast_mem hne)), List.dropLast_concat_getLast hne⟩
theorem nums_len {h : Int} (hh : 0 ≤ h) : ((nums h).length : Int) = 2 * h + 1 := by unfold nums; simp; omega
theorem spn_len {h : Int} (hh : 0 ≤ h) : ∀ n : Nat, ((spn h n).length : Int) = (2 * h + 1) ^ n
  | 0 => by simp [spn]
  | n + 1 => by
    have ih := spn_len hh n
    have nl := nums_len hh
    have : ∀ l : List (List Int), ((l.flatMap fun s => (nums h).map fun x => s ++ [x]).length : Int) = l.length * (2 * h + 1) := fun l => by
      induction l with
      | nil => simp
      | cons a l ih => simp only [List.flatMap_cons, List.length_append, List.length_map, List.length_cons, Int.natCast_add, ih, nl]; rw [Int.add_mul]; omega
    simp only [spn]
    rw [this, ih, Int.pow_succ]
theorem pow3_le {h : Int} {n : Nat} (hh : 1 ≤ h ∧ h ≤ 60) (hn : n ≤ 3) : (2 * h + 1) ^ n ≤ 1771561 := by
  have h1 : (2 * h + 1) ^ n ≤ 121 ^ n := ipow_mono (by omega) (by omega) n
  have h2 : (121 : Int) ^ n ≤ 1771561 := by
    have : n = 0 ∨ n = 1 ∨ n = 2 ∨ n = 3 := by omega
    rcases this with rfl | rfl | rfl | rfl <;> decide
  omega
theorem tsv_app (xs : List Int) (x : Int) (S : Store) (h : xs.length ≤ 1000) : vAdd (tsv xs) (.tup [.int x]) S = .ok (tsv (xs ++ [x])) S := by
  unfold tsv
  rw [vAdd_tup (by simp; omega)]; simp
theorem small_tsv (n : Nat) : ∀ xs : List (List Int), smalls n (xs.map tsv) = true
  | [] => rfl
  | x :: xs => by simp [smalls, small, tsv, smalls_ints, small_tsv n xs]
end Hl
namespace Hl
section
variable {α : Type} [BEq α] [LawfulBEq α]
def it (f : α → α) (s : α) : Nat → α
  | 0 => s
  | n + 1 => f (it f s n)
def orb (f : α → α) (s : α) (n : Nat) : List α := (List.range n).map (it f s)
omit [BEq α] [LawfulBEq α] in
theorem it_add (f : α → α) (s : α) (a : Nat) : ∀ b, it f s (a + b) = it f (it f s a) b
  | 0 => rfl
  | b + 1 => congrArg f (it_add f s a b)
omit [BEq α] [LawfulBEq α] in
theorem orb_succ (f : α → α) (s : α) (n : Nat) : orb f s (n + 1) = orb f s n ++ [it f s n] := by unfold orb; rw [List.range_succ, List.map_append]; rfl
omit [BEq α] [LawfulBEq α] in
theorem orb_len (f : α → α) (s : α) (n : Nat) : (orb f s n).length = n := by unfold orb; simp
omit [BEq α] [LawfulBEq α] in
theorem orb_get {f : α → α} {s : α} {n i : Nat} (h : i < n) : (orb f s n)[i]? = some (it f s i) := by unfold orb; simp [h]
omit [BEq α] [LawfulBEq α] in
theorem orb_mem {f : α → α} {s a : α} {n : Nat} : a ∈ orb f s n ↔ ∃ i, i < n ∧ it f s i = a := by unfold orb; simp
omit [BEq α] [LawfulBEq α] in
theorem orb_inj {f : α → α} {s : α} {n i j : Nat} (nd : (orb f s n).Nodup) (hi : i < n) (hj : j < n) (e : it f s i = it f s j) : i = j := by
  have l := orb_len f s n
  have := (List.getElem_inj (h₀ := by omega) (h₁ := by omega) nd (i := i) (j := j)).mp (by
    have a := orb_get (f := f) (s := s) hi
    have b := orb_get (f := f) (s := s) hj
    rw [List.getElem?_eq_getElem (by omega)] at a b
    injection a with a; injection b with b
    rw [a, b, e])
  exact this
theorem idx_at {f : α → α} {s : α} {n i : Nat} (nd : (orb f s n).Nodup) (hi : i < n) : (orb f s n).idxOf (it f s i) = i := by
  have l := orb_len f s n
  have a := orb_get (f := f) (s := s) hi
  rw [List.getElem?_eq_getElem (by omega)] at a
  injection a with a
  rw [← a]
  exact List.Nodup.idxOf_getElem nd i (by omega)
theorem nodup_sub : ∀ {xs ys : List α}, xs.Nodup → (∀ x ∈ xs, x ∈ ys) → xs.length ≤ ys.length
  | [], _, _, _ => Nat.zero_le _
  | x :: xs, ys, nd, h => by
    rw [List.nodup_cons] at nd
    have hx := h x List.mem_cons_self
    have := nodup_sub (xs := xs) (ys := ys.erase x) nd.2 fun y hy => (List.mem_erase_of_ne (by rintro rfl; exact nd.1 hy)).mpr (h y (List.mem_cons_of_mem _ hy))
    have l := List.length_erase_of_mem hx
    have : 0 < ys.length := List.length_pos_of_mem hx
    simp only [List.length_cons]; omega
def Stop (f : α → α) (s : α) (n : Nat) : Prop := (orb f s n).Nodup ∧ it f s n ∈ orb f s n
omit [BEq α] [LawfulBEq α] in
theorem stop_one {f : α → α} {s : α} {m n : Nat} (h1 : Stop f s m) (h2 : Stop f s n) : m = n := by
  have go : ∀ {m n : Nat}, Stop f s m → Stop f s n → ¬ m < n := fun {m n} h1 h2 lt => by
    obtain ⟨i, hi, e⟩ := orb_mem.mp h1.2
    have := orb_inj h2.1 (by omega) lt e
    omega
  have a := go h1 h2
  have b := go h2 h1
  omega
structure Cyc (f : α → α) (m : α) (n : Nat) : Prop where
  pos : 0 < n
  nd : (orb f m n).Nodup
  back : it f m n = m
omit [BEq α] [LawfulBEq α] in
theorem Cyc.stop {f : α → α} {m : α} {n : Nat} (h : Cyc f m n) : Stop f m n := ⟨h.nd, by rw [h.back]; exact orb_mem.mpr ⟨0, h.pos, rfl⟩⟩
theorem Cyc.head {f : α → α} {m : α} {n : Nat} (h : Cyc f m n) : (orb f m n).idxOf (it f m n) = 0 := by
  have := idx_at h.nd h.pos
  rw [h.back]; exact this
omit [BEq α] [LawfulBEq α] in
theorem Cyc.on {f : α → α} {m : α} {n : Nat} (h : Cyc f m n) (k : Nat) : it f m (n + k) = it f m k := by rw [it_add, h.back]
omit [BEq α] [LawfulBEq α] in
theorem orb_tail {f : α → α} {s : α} {n j : Nat} (h : j ≤ n) : (orb f s n).drop j = orb f (it f s j) (n - j) := by
  apply List.ext_getElem?
  intro i
  rw [List.getElem?_drop]
  by_cases hi : i < n - j
  · rw [orb_get hi, orb_get (show j + i < n by omega), it_add]
  · rw [List.getElem?_eq_none (by rw [orb_len]; omega), List.getElem?_eq_none (by rw [orb_len]; omega)]
omit [BEq α] [LawfulBEq α] in
theorem Cyc.turn {f : α → α} {m : α} {n : Nat} (h : Cyc f m n) {j : Nat} (hj : j < n) : (orb f m n).drop j ++ (orb f m n).take j = orb f (it f m j) n := by
  apply List.ext_getElem?
  intro i
  have ld : ((orb f m n).drop j).length = n - j := by rw [List.length_drop, orb_len]
  by_cases hi : i < n
  · rw [orb_get hi]
    by_cases h1 : i < n - j
    · rw [List.getElem?_append_left (by omega), List.getElem?_drop, orb_get (show j + i < n by omega), it_add]
    · rw [List.getElem?_append_right (by omega), ld, List.getElem?_take, if_pos (by omega), orb_get (by omega), ← it_add, show j + i = n + (i - (n - j)) by omega, h.on]
  · rw [List.getElem?_eq_none (by simp [orb_len]; omega), List.getElem?_eq_none (by rw [orb_len]; omega)]
theorem Stop.cyc {f : α → α} {s : α} {n : Nat} (h : Stop f s n) : (orb f s n).idxOf (it f s n) < n ∧ Cyc f (it f s n) (n - (orb f s n).idxOf (it f s n)) ∧ (orb f s n).drop ((orb f s n).idxOf (it f s n)) = orb f (it f s n) (n - (orb f s n).idxOf (it f s n)) := by
  obtain ⟨i, hi, e⟩ := orb_mem.mp h.2
  have q := idx_at h.1 hi
  rw [e] at q
  rw [q]
  have t := orb_tail (f := f) (s := s) (n := n) (j := i) (by omega)
  refine ⟨hi, ⟨by omega, ?_, ?_⟩, by rw [t, e]⟩
  · rw [← e, ← t]; exact h.1.sublist (List.drop_sublist _ _)
  · rw [← e, ← it_add, show i + (n - i) = n by omega, e]
omit [BEq α] [LawfulBEq α] in
theorem it_in {f : α → α} {U : α → Prop} (hf : ∀ s, U s → U (f s)) {s : α} (hs : U s) : ∀ n, U (it f s n)
  | 0 => hs
  | n + 1 => hf _ (it_in hf hs n)
theorem orb_le {f : α → α} {U : List α} (hf : ∀ s ∈ U, f s ∈ U) {s : α} (hs : s ∈ U) {n : Nat} (nd : (orb f s n).Nodup) : n ≤ U.length := by
  have := nodup_sub nd (ys := U) fun x hx => by
    obtain ⟨i, _, rfl⟩ := orb_mem.mp hx
    exact it_in (U := (· ∈ U)) hf hs i
  rwa [orb_len] at this
end
open PySem L2 Dn PySem.W PyProof.Rows
def kS (s : List Int) : List (Int ⊕ List Nat) := keyToksAll (s.map PyData.int)
def ltS (a b : List Int) : Bool := PyProof.Rows.lexLt itemOrd (kS a) (kS b)
theorem kS_inj : ∀ {a b : List Int}, kS a = kS b → a = b
  | [], [], _ => rfl
  | [], y :: ys, h => by simp [kS, keyToksAll] at h
  | x :: xs, [], h => by simp [kS, keyToksAll] at h
  | x :: xs, y :: ys, h => by
    simp only [kS, keyToksAll, keyToks, List.map_cons, List.cons_append, List.nil_append, List.cons.injEq, Sum.inl.injEq] at h
    rw [h.2.1, kS_inj (a := xs) (b := ys) h.2.2]
theorem ltS_total {a b : List Int} (h1 : ltS a b = false) (h2 : ltS b a = false) : a = b := kS_inj (lex_total (O := itemOrd) _ _ h1 h2)
theorem ltS_irr (a : List Int) : ltS a a = false := lex_irrefl (O := itemOrd) _
def lmin (x : List Int) (xs : List (List Int)) : List Int := xs.foldl (fun a y => if ltS y a then y else a) x
def least : List (List Int) → List Int
  | [] => []
  | x :: xs => lmin x xs
theorem lmin_mem : ∀ (xs : List (List Int)) (x : List Int), lmin x xs ∈ x :: xs
  | [], x => by simp [lmin]
  | y :: ys, x => by
    have ih := lmin_mem ys (if ltS y x then y else x)
    have e : lmin x (y :: ys) = lmin (if ltS y x then y else x) ys := rfl
    rw [e]
    rcases List.mem_cons.mp ih with h | h
    · rw [h]; split <;> simp
    · simp [h]
theorem lmin_le : ∀ (xs : List (List Int)) (x : List Int), ∀ z ∈ x :: xs, ltS z (lmin x xs) = false
  | [], x, z, hz => by simp at hz; subst hz; exact ltS_irr _
  | y :: ys, x, z, hz => by
    have e : lmin x (y :: ys) = lmin (if ltS y x then y else x) ys := rfl
    rw [e]
    by_cases h : ltS y x = true
    · rw [if_pos h]
      have ih := lmin_le ys y
      rcases List.mem_cons.mp hz with q | q
      · subst q
        cases t : ltS z (lmin y ys) with
        | false => rfl
        | true => have := lex_trans (O := itemOrd) _ _ _ h t; rw [← ih y (by simp)]; exact this.symm
      · exact ih z q
    · rw [if_neg h]
      have ih := lmin_le ys x
      rcases List.mem_cons.mp hz with q | q
      · subst q; exact ih z (by simp)
      · rcases List.mem_cons.mp q with q | q
        · subst q
          cases t : ltS z (lmin x ys) with
          | false => rfl
          | true =>
            rcases lex_negTrans (O := itemOrd) _ (kS x) _ t with k | k
            · exact absurd k h
            · rw [← ih x (by simp)]; exact k.symm
        · exact ih z (List.mem_cons_of_mem _ q)
theorem least_mem : ∀ {ss : List (List Int)}, ss ≠ [] → least ss ∈ ss
  | [], h => absurd rfl h
  | x :: xs, _ => lmin_mem xs x
theorem least_le : ∀ {ss : List (List Int)}, ∀ z ∈ ss, ltS z (least ss) = false
  | [], _, h => nomatch h
  | x :: xs, z, h => lmin_le xs x z h
theorem least_eq {ss : List (List Int)} {m : List Int} (h : m ∈ ss) (hm : ∀ z ∈ ss, ltS z m = false) : least ss = m := by
  have ne : ss ≠ [] := fun e => by subst e; cases h
  exact ltS_total (hm _ (least_mem ne)) (least_le _ h)
def rotm (ss : List (List Int)) : List (List Int) := ss.drop (ss.idxOf (least ss)) ++ ss.take (ss.idxOf (least ss))
structure Rg (f : List Int → List Int) (m : List Int) (n : Nat) : Prop where
  cyc : Cyc f m n
  low : least (orb f m n) = m
theorem Cyc.rotm {f : List Int → List Int} {m : List Int} {n : Nat} (h : Cyc f m n) : ∃ k, Hl.rotm (orb f m n) = orb f (it f m k) n ∧ Rg f (it f m k) n := by
  have ne : orb f m n ≠ [] := fun e => by have := orb_len f m n; rw [e] at this; have := h.pos; simp at *; omega
  obtain ⟨j, hj, e⟩ := orb_mem.mp (least_mem ne)
  have ix := idx_at h.nd hj
  have t := h.turn hj
  refine ⟨j, ?_, ⟨h.pos, ?_, ?_⟩, ?_⟩
  · unfold Hl.rotm; rw [← e, ix, t]
  · rw [← t]
    exact (List.perm_append_comm.trans (List.Perm.of_eq (List.take_append_drop j (orb f m n)))).nodup_iff.mpr h.nd
  · rw [← it_add, Nat.add_comm, h.on]
  · refine least_eq (orb_mem.mpr ⟨0, h.pos, rfl⟩) fun z hz => ?_
    rw [e]
    refine least_le z ?_
    rw [← t] at hz
    rcases List.mem_append.mp hz with q | q
    · exact List.mem_of_mem_drop q
    · exact List.mem_of_mem_take q
theorem Rg.rotm {f : List Int → List Int} {m : List Int} {n : Nat} (h : Rg f m n) : Hl.rotm (orb f m n) = orb f m n := by
  unfold Hl.rotm
  rw [h.low]
  have := idx_at h.cyc.nd h.cyc.pos
  have e : (orb f m n).idxOf m = 0 := this
  rw [e]; simp
end Hl
namespace Hl
open PySem L2 Dn
theorem made_ok {p : Pt} (h : p.Ok) {S : Store} (hS : AllI S) : m_made [p.pv] S = .ok p.obj S := by
  refine run_fn ?_
  unfold b_made
  simp [start1, List.replicate, ix0, ix1, ix2, ix3, ix4, ix5, make_ok h hS]
end Hl
namespace Hl
open PySem L2 Dn
end Hl
namespace Hl
open PySem L2 Dn
def Pt.told (p : Pt) : List Int → List Int → List Int
  | _, [] => []
  | s, x :: r => p.fit (p.sm s + x) :: Pt.told p (p.step s x) r
theorem need_filter_ok (p : Pt) (S : Store) : m_p_need_filter [p.obj] S = .ok .non S := by
  refine fn_nx (r := [some p.obj]) ?_ (Nat.le_refl _)
  have i : vIsiU [p.obj, .cls "Filter"] S = .ok (.bl true) S := isi_FF _ S
  unfold b_p_need_filter
  simp [start1, List.replicate, i]
end Hl
namespace Hl
open PySem L2 Dn
theorem isx_cls {n : Str} (h : n ∈ EXN) (c : Str) (S : Store) : vIsiU [.exc c, .cls n] S = .ok (.bl (subE c n)) S := if_pos h
theorem m1 {n : Str} {c : Str} {r : Env1} {S : Store} (h : n ∈ EXN) (h0 : r[0]? = some (some (.exc c))) : eCB vIsiU (lCons (eVar 0) (lCons (eC (.cls n)) lNil)) r S = .ok (.bl (subE c n)) S := by
  simp [h0, isx_cls h]
theorem seq_nx {g h : SM} {r r1 : Env1} {S S1 : Store} (e : g r S = .ok (.nx r1) S1) : sSeq g h r S = h r1 S1 := by rw [sSeq_ap, e]; rfl
end Hl
namespace Hl
open PySem L2 Dn
def szN (ts : List Int) : Nat := (ts.map Int.natAbs).sum
theorem sz_sum : ∀ ts : List Int, (ts.map fun t => (t.natAbs : Int)).sum = (szN ts : Int)
  | [] => rfl
  | t :: ts => by
    have ih := sz_sum ts
    simp only [szN, List.map_cons, List.sum_cons] at ih ⊢
    rw [ih]; omega
theorem sizes_ok (p : Pt) (h : p.ts.length ≤ 1000) (S : Store) : m_p_sizes [p.obj] S = .ok (.int (szN p.ts)) S := by
  have c : c_p_sizes_1 [some p.obj, none] S = .ok ((p.ts.map fun t => (t.natAbs : Int)).map PV.int) S := by
    unfold c_p_sizes_1
    simp [ofC_ok, tops_ok, tsv, show p.ts.length ≤ 16777216 by omega]
    rw [compM_map2 (.inl rfl) PV.int (fun t : Int => PV.int (t.natAbs : Int)) p.ts (fun x hx => ⟨_, rfl, rfl, by simp⟩)]
    simp [Function.comp_def]
  have v := vSum_ints (p.ts.map fun t => (t.natAbs : Int)) S
  rw [sz_sum] at v
  refine run_fn ?_
  unfold b_p_sizes
  simp only [start1, List.replicate, List.map_cons, List.map_nil, List.length_cons, List.length_nil, List.cons_append, List.nil_append]
  rw [sRet_ap, eCB_ap, lCons_ap, eNew_ap]
  simp only [Nat.reduceAdd, Nat.reduceSub, List.replicate, c, Res.bind_ok, lNil_ap, v]
def lowT (a b : Nat) : PV := .tup [.int ((a : Int) / (Nat.gcd a b : Nat)), .int ((b : Int) / (Nat.gcd a b : Nat))]
def low (a b : Int) : PV := lowT a.toNat b.toNat
end Hl
namespace Hl
open PySem L2 Dn
def dv : PV → Bool
  | .non => true
  | .bl _ => true
  | .int _ => true
  | .str _ => true
  | .tup _ => true
  | .lst _ => true
  | .dik _ => true
  | _ => false
structure Val (d : PV) : Prop where
  dv : Hl.dv d = true
  tup : ∀ xs, d = .tup xs → (∀ x ∈ xs, Hl.dv x = true) ∧ xs.length ≤ 1000
end Hl
namespace Hl
open PySem L2 Dn PyProof.Rows
mutual
def capD : PyData → Nat
  | .none => 4
  | .bool _ => 5
  | .int _ => 1921
  | .str x => 10 * x.length + 2
  | .list xs => capDs xs + 2
  | .tuple xs => capDs xs + 3
  | .dict kvs => capDk kvs + 2
def capDs : List PyData → Nat
  | [] => 0
  | x :: xs => capD x + 2 + capDs xs
def capDk : List (PyData × PyData) → Nat
  | [] => 0
  | (x, y) :: xs => capD x + capD y + 4 + capDk xs
end
mutual
def okD : PyData → Bool
  | .none => true
  | .bool _ => true
  | .int i => decide (i.natAbs.log2 < 1920)
  | .str x => cpsOk x
  | .list xs => okDs xs
  | .tuple xs => okDs xs
  | .dict kvs => okDk kvs
def okDs : List PyData → Bool
  | [] => true
  | x :: xs => okD x && okDs xs
def okDk : List (PyData × PyData) → Bool
  | [] => true
  | (x, y) :: xs => okD x && (okD y && okDk xs)
end
theorem dictText_le (ts : List Str) : (dictText ts).length ≤ piled ts + 2 := by
  unfold dictText
  rw [sl_app, sl_app]
  have e1 : ((("{" : String) : Str)).length = 1 := rfl
  have e2 : ((("}" : String) : Str)).length = 1 := rfl
  by_cases h : ts = []
  · subst h
    have : (Str.join ", " []).length = 0 := rfl
    omega
  · have := join_length_add ts h
    omega
mutual
theorem shownD_le : ∀ {d : PyData}, okD d = true → d.shown.length ≤ capD d ∧ d.showable = true
  | .none, _ => ⟨by simp only [PyData.shown, capD]; decide, by simp [PyData.showable]⟩
  | .bool b, _ => ⟨by simp only [PyData.shown, capD]; cases b <;> decide, by simp [PyData.showable]⟩
  | .int i, h => by
    have h : i.natAbs.log2 < 1920 := by simpa [okD] using h
    exact ⟨by simp only [PyData.shown, capD]; exact int_text_len_1921 h, by simp [PyData.showable, h]⟩
  | .str x, h => by
    have h : ∀ c ∈ x.cps.toList, c < 1114112 := by
      have h2 : cpsOk x = true := by simpa [okD] using h
      exact fun c hc => of_decide_eq_true (List.all_eq_true.mp h2 c hc)
    exact ⟨by simp only [PyData.shown, capD]; exact StrLaws.reprText_len x (fun c hc => by have := h c hc; omega), by simp [PyData.showable]⟩
  | .list xs, h => by
    obtain ⟨h1, h2⟩ := shownDs_le (show okDs xs = true by simpa [okD] using h)
    refine ⟨?_, by simpa [PyData.showable] using h2⟩
    simp only [PyData.shown, capD]
    unfold listText
    rw [sl_app]
    have h4 := textFrom_le (PyData.shownAll xs) 0 "["
    have e1 : ((("[" : String) : Str)).length = 1 := rfl
    have e2 : ((("]" : String) : Str)).length = 1 := rfl
    omega
  | .tuple xs, h => by
    obtain ⟨h1, h2⟩ := shownDs_le (show okDs xs = true by simpa [okD] using h)
    refine ⟨?_, by simpa [PyData.showable] using h2⟩
    simp only [PyData.shown, capD]
    have h4 := tupleText_le (PyData.shownAll xs)
    omega
  | .dict kvs, h => by
    obtain ⟨h1, h2⟩ := shownDk_le (show okDk kvs = true by simpa [okD] using h)
    refine ⟨?_, by simpa [PyData.showable] using h2⟩
    simp only [PyData.shown, capD]
    have h4 := dictText_le (PyData.shownKv kvs)
    omega
theorem shownDs_le : ∀ {ds : List PyData}, okDs ds = true → piled (PyData.shownAll ds) ≤ capDs ds ∧ PyData.showableAll ds = true
  | [], _ => ⟨by simp [PyData.shownAll, capDs, piled], by simp [PyData.showableAll]⟩
  | x :: xs, h => by
    have h : okD x = true ∧ okDs xs = true := by simpa [okDs] using h
    obtain ⟨a1, a2⟩ := shownD_le h.1
    obtain ⟨b1, b2⟩ := shownDs_le h.2
    refine ⟨?_, by simp [PyData.showableAll, a2, b2]⟩
    simp only [PyData.shownAll, capDs]
    rw [piled_cons]
    omega
theorem shownDk_le : ∀ {ds : List (PyData × PyData)}, okDk ds = true → piled (PyData.shownKv ds) ≤ capDk ds ∧ PyData.showableKv ds = true
  | [], _ => ⟨by simp [PyData.shownKv, capDk, piled], by simp [PyData.showableKv]⟩
  | (x, y) :: xs, h => by
    have h : okD x = true ∧ okD y = true ∧ okDk xs = true := by simpa [okDk] using h
    obtain ⟨a1, a2⟩ := shownD_le h.1
    obtain ⟨c1, c2⟩ := shownD_le h.2.1
    obtain ⟨b1, b2⟩ := shownDk_le h.2.2
    refine ⟨?_, by simp [PyData.showableKv, a2, b2, c2]⟩
    simp only [PyData.shownKv, capDk]
    rw [piled_cons, sl_app, sl_app]
    have e1 : (((": " : String) : Str)).length = 2 := rfl
    omega
end
mutual
theorem data01 : ∀ {d : PV} {p : PyData}, data0 d = some p → Dn.data1 d = some p ∧ p.hasDict = false
  | .non, _, h => by simp [data0] at h; subst h; simp [Dn.data1, PyData.hasDict]
  | .bl _, _, h => by simp [data0] at h; subst h; simp [Dn.data1, PyData.hasDict]
  | .int _, _, h => by simp [data0] at h; subst h; simp [Dn.data1, PyData.hasDict]
  | .str _, _, h => by simp [data0] at h; subst h; simp [Dn.data1, PyData.hasDict]
  | .tup xs, _, h => by
    simp only [data0] at h
    cases e : data0s xs with
    | none => rw [e] at h; cases h
    | some ps =>
      rw [e] at h; cases h
      obtain ⟨a, b⟩ := data01s e
      simp [Dn.data1, a, PyData.hasDict, b]
  | .lst xs, _, h => by
    simp only [data0] at h
    cases e : data0s xs with
    | none => rw [e] at h; cases h
    | some ps =>
      rw [e] at h; cases h
      obtain ⟨a, b⟩ := data01s e
      simp [Dn.data1, a, PyData.hasDict, b]
  | .obj _ _, _, h => by simp [data0] at h
  | .loc _, _, h => by simp [data0] at h
  | .scr _, _, h => by simp [data0] at h
  | .ty _, _, h => by simp [data0] at h
  | .cls _, _, h => by simp [data0] at h
  | .exc _, _, h => by simp [data0] at h
  | .dic _, _, h => by simp [data0] at h
  | .tub _, _, h => by simp [data0] at h
  | .dik _, _, h => by simp [data0] at h
theorem data01s : ∀ {ds : List PV} {ps : List PyData}, data0s ds = some ps → data1s ds = some ps ∧ PyData.hasDictAll ps = false
  | [], _, h => by simp [data0s] at h; subst h; simp [data1s, PyData.hasDictAll]
  | x :: xs, _, h => by
    simp only [data0s] at h
    cases e : data0 x with
    | none => rw [e] at h; cases h
    | some p =>
      cases e' : data0s xs with
      | none => rw [e, e'] at h; cases h
      | some ps =>
        rw [e, e'] at h; cases h
        obtain ⟨a, b⟩ := data01 e
        obtain ⟨c, d⟩ := data01s e'
        simp [data1s, a, c, PyData.hasDictAll, b, d]
end
def Sh (d : PV) (c e : Nat) : Prop := ∃ p, Dn.data1 d = some p ∧ okD p = true ∧ capD p ≤ c ∧ p.depth ≤ e
def Shs (ds : List PV) (c e : Nat) : Prop := ∃ ps, data1s ds = some ps ∧ okDs ps = true ∧ capDs ps ≤ c ∧ PyData.depthAll ps ≤ e
theorem Shs.nil (e : Nat) : Shs [] 0 e := ⟨[], rfl, rfl, Nat.le_refl _, by simp [PyData.depthAll]⟩
theorem Shs.cons {d : PV} {ds : List PV} {c1 c2 e : Nat} (h : Sh d c1 e) (t : Shs ds c2 e) : Shs (d :: ds) (c1 + c2 + 2) e := by
  obtain ⟨p, a1, a2, a3, a4⟩ := h
  obtain ⟨ps, b1, b2, b3, b4⟩ := t
  refine ⟨p :: ps, by simp [data1s, a1, b1], by simp [okDs, a2, b2], by simp only [capDs]; omega, by simp only [PyData.depthAll]; omega⟩
theorem Sh.le {d : PV} {c e c' e' : Nat} (h : Sh d c e) (hc : c ≤ c') (he : e ≤ e') : Sh d c' e' := let ⟨p, a, b, x, y⟩ := h; ⟨p, a, b, Nat.le_trans x hc, Nat.le_trans y he⟩
theorem Sh.lst {ds : List PV} {c e : Nat} (t : Shs ds c e) : Sh (.lst ds) (c + 2) (e + 1) := by
  obtain ⟨ps, b1, b2, b3, b4⟩ := t
  exact ⟨.list ps, by simp [Dn.data1, b1], by simp [okD, b2], by simp only [capD]; omega, by simp only [PyData.depth]; omega⟩
theorem Sh.tup {ds : List PV} {c e : Nat} (t : Shs ds c e) : Sh (.tup ds) (c + 3) (e + 1) := by
  obtain ⟨ps, b1, b2, b3, b4⟩ := t
  exact ⟨.tuple ps, by simp [Dn.data1, b1], by simp [okD, b2], by simp only [capD]; omega, by simp only [PyData.depth]; omega⟩
end Hl
namespace Hl
open PySem L2 Dn
mutual
theorem small0 {n : Nat} : ∀ {d : PV}, small 0 d = true → small n d = true
  | .non, _ => rfl
  | .bl _, _ => rfl
  | .int _, _ => rfl
  | .str _, _ => rfl
  | .tup xs, h => by simp only [small] at h ⊢; exact small0s h
  | .lst xs, h => by simp only [small] at h ⊢; exact small0s h
  | .obj _ fs, h => by simp only [small] at h ⊢; exact small0f h
  | .loc i, h => by simp [small] at h
  | .scr _, _ => rfl
  | .ty _, _ => rfl
  | .cls _, _ => rfl
  | .exc _, _ => rfl
  | .dic kvs, h => by simp only [small] at h ⊢; exact small0d h
  | .tub xs, h => by simp only [small] at h ⊢; exact small0s h
  | .dik kvs, h => by simp only [small] at h ⊢; exact small0d h
theorem small0s {n : Nat} : ∀ {ds : List PV}, smalls 0 ds = true → smalls n ds = true
  | [], _ => rfl
  | x :: xs, h => by
    simp only [smalls, Bool.and_eq_true] at h ⊢
    exact ⟨small0 h.1, small0s h.2⟩
theorem small0f {n : Nat} : ∀ {ds : List (Str × PV)}, smallf 0 ds = true → smallf n ds = true
  | [], _ => rfl
  | (_, x) :: xs, h => by
    simp only [smallf, Bool.and_eq_true] at h ⊢
    exact ⟨small0 h.1, small0f h.2⟩
theorem small0d {n : Nat} : ∀ {ds : List (PV × PV)}, smalld 0 ds = true → smalld n ds = true
  | [], _ => rfl
  | (x, y) :: xs, h => by
    simp only [smalld, Bool.and_eq_true] at h ⊢
    exact ⟨small0 h.1, small0 h.2.1, small0d h.2.2⟩
end
structure Any (d : PV) : Prop where
  val : Val d
  sm : ∀ n, small n d = true
  sh : Sh d 40000 10
def tupB : PV → Bool
  | .tup xs => xs.all dv && decide (xs.length ≤ 100)
  | _ => true
def shB (d : PV) : Bool := match Dn.data1 d with
  | some p => okD p && (decide (capD p ≤ 40000) && decide (p.depth ≤ 10))
  | none => false
def anyB (d : PV) : Bool := dv d && (tupB d && (small 0 d && shB d))
example : anyB (.tup [.int 1, .tup [.str "ab", .int (-33)], .dik [], .dik [(.str "a", .tup [])]]) = true := by decide +kernel
end Hl
namespace Hl
open PySem L2 Dn
def CL (w : Str) : Prop := ∀ c ∈ w.cps.toList, c < 1114112
theorem ch_lt (ch : Char) : ch.toNat < 1114112 := by
  have := ch.valid
  show ch.val.toNat < _
  rcases this with h | h
  · have : ch.val.toNat < 0xd800 := h; omega
  · exact h.2
theorem cl_of (s : String) : CL (Str.ofString s) := fun c hc => by
  rw [PyProof.Rows.signs_ofString] at hc
  obtain ⟨ch, _, rfl⟩ := List.mem_map.mp hc
  exact ch_lt ch
theorem cl_app {a b : Str} (h1 : CL a) (h2 : CL b) : CL (a ++ b) := fun c hc => (PyProof.Rows.mem_cps_append.mp hc).elim (h1 c) (h2 c)
theorem cl_join {s : Str} (hs : CL s) {ts : List Str} (h : ∀ t ∈ ts, CL t) : CL (Str.join s ts) := fun c hc =>
  ((PyProof.Rows.mem_join s c ts).mp hc).elim (fun ⟨t, ht, hc⟩ => h t ht c hc) fun z => hs c z.2
theorem cl_char {q c : Nat} (hq : q < 1114112) (hc : c < 1114112) : ∀ d ∈ Builtin.Str.reprChar q c, d < 1114112 := by
  have hd : ∀ n d, d ∈ (Nat.toDigits 16 n).map Char.toNat → d < 1114112 := fun n d h => by
    obtain ⟨ch, _, rfl⟩ := List.mem_map.mp h
    exact ch_lt ch
  have hr : ∀ k d : Nat, d ∈ List.replicate k 48 → d < 1114112 := fun k d h => by
    have := (List.mem_replicate.mp h).2
    omega
  intro d
  unfold Builtin.Str.reprChar
  dsimp only
  repeat' split
  all_goals simp only [List.mem_append, List.mem_cons, List.not_mem_nil, or_false]
  all_goals intro h
  all_goals repeat' (refine Or.elim h ?_ ?_ <;> clear h <;> intro h)
  all_goals first
    | omega
    | exact hd _ _ h
    | exact hr _ _ h
theorem cl_fold {q : Nat} (hq : q < 1114112) : ∀ (l : List Nat) (acc : Array Nat), (∀ c ∈ acc.toList, c < 1114112) → (∀ c ∈ l, c < 1114112) → ∀ d ∈ (l.foldl (fun out c => out ++ (Builtin.Str.reprChar q c).toArray) acc).toList, d < 1114112
  | [], acc, h, _ => h
  | c :: r, acc, h, hl => by
    rw [List.foldl_cons]
    refine cl_fold hq r _ (fun d hd => ?_) fun d hd => hl d (List.mem_cons_of_mem _ hd)
    rw [Array.toList_append, List.mem_append] at hd
    rcases hd with hd | hd
    · exact h d hd
    · exact cl_char hq (hl c List.mem_cons_self) d (by simpa using hd)
theorem cl_repr {x : Str} (hx : CL x) : CL (PySem.reprText x) := by
  have hq : PySem.reprQuote x < 1114112 := by
    unfold PySem.reprQuote
    repeat' split
    all_goals decide
  intro d hd
  unfold PySem.reprText at hd
  replace hd : d ∈ ((x.cps.foldl (fun out c => out ++ (Builtin.Str.reprChar (PySem.reprQuote x) c).toArray) #[PySem.reprQuote x]).push (PySem.reprQuote x)).toList := hd
  rw [Array.toList_push, List.mem_append, ← Array.foldl_toList] at hd
  rcases hd with hd | hd
  · exact cl_fold hq _ _ (fun c hc => by simp at hc; omega) hx d hd
  · simp at hd; omega
theorem cl_from : ∀ (ts : List Str) (k : Nat) (acc : Str), CL acc → (∀ t ∈ ts, CL t) → CL (textFrom k acc ts)
  | [], _, _, h, _ => h
  | t :: ts, k, acc, h, hs => by
    unfold textFrom
    refine cl_from ts _ _ (cl_app (cl_app h ?_) (hs t List.mem_cons_self)) fun x hx => hs x (List.mem_cons_of_mem _ hx)
    split <;> exact cl_of _
mutual
theorem cl_shown : ∀ {d : PyData}, okD d = true → CL d.shown
  | .none, _ => by simp only [PyData.shown]; exact cl_of _
  | .bool b, _ => by simp only [PyData.shown]; split <;> exact cl_of _
  | .int i, _ => by simp only [PyData.shown]; exact cl_of _
  | .str x, h => by
    simp only [PyData.shown]
    have h2 : cpsOk x = true := by simpa [okD] using h
    exact cl_repr fun c hc => of_decide_eq_true (List.all_eq_true.mp h2 c hc)
  | .list xs, h => by
    simp only [PyData.shown]
    exact cl_app (cl_from _ _ _ (cl_of _) (cl_shownAll (by simpa [okD] using h))) (cl_of _)
  | .tuple xs, h => by
    simp only [PyData.shown]
    unfold tupleText
    exact cl_app (cl_app (cl_of _) (cl_join (cl_of _) (cl_shownAll (by simpa [okD] using h)))) (cl_of _)
  | .dict kvs, h => by
    simp only [PyData.shown]
    unfold dictText
    exact cl_app (cl_app (cl_of _) (cl_join (cl_of _) (cl_shownKv (by simpa [okD] using h)))) (cl_of _)
theorem cl_shownAll : ∀ {ds : List PyData}, okDs ds = true → ∀ t ∈ PyData.shownAll ds, CL t
  | [], _ => by simp [PyData.shownAll]
  | x :: xs, h => by
    have h : okD x = true ∧ okDs xs = true := by simpa [okDs] using h
    intro t ht
    simp only [PyData.shownAll, List.mem_cons] at ht
    rcases ht with rfl | ht
    · exact cl_shown h.1
    · exact cl_shownAll h.2 t ht
theorem cl_shownKv : ∀ {ds : List (PyData × PyData)}, okDk ds = true → ∀ t ∈ PyData.shownKv ds, CL t
  | [], _ => by simp [PyData.shownKv]
  | (x, y) :: xs, h => by
    have h : okD x = true ∧ okD y = true ∧ okDk xs = true := by simpa [okDk] using h
    intro t ht
    simp only [PyData.shownKv, List.mem_cons] at ht
    rcases ht with rfl | ht
    · exact cl_app (cl_app (cl_shown h.1) (cl_of _)) (cl_shown h.2.1)
    · exact cl_shownKv h.2.2 t ht
end
theorem cl_cps {w : Str} (h : CL w) : cpsOk w = true := List.all_eq_true.mpr fun c hc => decide_eq_true (h c hc)
theorem Dt.str {w : Str} (h : CL w) : Dt (.str w) (.str w) (10 * w.length + 2) 1 := ⟨by simp [data0], by simpa [okP] using cl_cps h, by simp [cap], by simp [PyData.depth]⟩
def turnI : Nat → List Int → List Int
  | _, [] => []
  | i, t :: ts => (if i % 2 = 0 then t else -t) :: turnI (i + 1) ts
@[simp] theorem turnI_len : ∀ (i : Nat) (ts : List Int), (turnI i ts).length = ts.length
  | _, [] => rfl
  | i, t :: ts => by simp [turnI, turnI_len (i + 1) ts]
@[simp] theorem iEnT_ap (a : EM) (r : Env1) (S : Store) : iEnT' a r S = (a r S).bind enOf := rfl
@[simp] theorem enOf_tup (xs : List PV) (S : Store) : enOf (.tup xs) S = .ok ⟨enW xs, none⟩ S := rfl
end Hl
namespace Hl
open PySem L2 Dn
end Hl
namespace Hl
open PySem L2 Dn
def lrnd3 (w : Str) (a b : Int) : Int := if w = "down" ∨ a - a / b * b = 0 then a / b else if w = "cut" then a / b + (if a < 0 then 1 else 0)
  else a / b + (if b < 2 * (a - a / b * b) ∨ (2 * (a - a / b * b) = b ∧ 0 < a) then 1 else 0)
theorem lrnd3_eq {w : Str} {a b : Int} (hb : 1 ≤ b ∧ b ≤ 16) : lrnd3 w a b = rnd w a b := by
  unfold lrnd3 rnd
  have hb' : b = 1 ∨ b = 2 ∨ b = 3 ∨ b = 4 ∨ b = 5 ∨ b = 6 ∨ b = 7 ∨ b = 8 ∨ b = 9 ∨ b = 10 ∨ b = 11 ∨ b = 12 ∨ b = 13 ∨ b = 14 ∨ b = 15 ∨ b = 16 := by omega
  by_cases h1 : w = "down"
  · simp only [h1, true_or, if_true]
  · simp only [h1, false_or, if_false]
    by_cases h2 : w = "cut"
    · simp only [h2, if_true]
      rcases hb' with rfl | rfl | rfl | rfl | rfl | rfl | rfl | rfl | rfl | rfl | rfl | rfl | rfl | rfl | rfl | rfl <;> (repeat' split) <;> omega
    · simp only [h2, if_false]
      rcases hb' with rfl | rfl | rfl | rfl | rfl | rfl | rfl | rfl | rfl | rfl | rfl | rfl | rfl | rfl | rfl | rfl <;> (repeat' split) <;> omega
theorem round3_ok {w : Str} {a b : Int} (S : Store) (hb : 1 ≤ b ∧ b ≤ 16) (ha : a.natAbs ≤ 100000000) : m_round_k74 [.int a, .int b, .str w] S = .ok (.int (rnd w a b)) S := by
  rw [← lrnd3_eq hb]
  refine run_fn ?_
  have d1 : vDiv (.int a) (.int b) S = .ok (.int (a / b)) S := vDiv_int (by omega) (by omega)
  have hm : a / b * b = a - a % b := by have := Int.emod_add_mul_ediv a b; rw [Int.mul_comm]; omega
  have l0 : 0 ≤ a % b := Int.emod_nonneg _ (by omega)
  have l1 : a % b < b := Int.emod_lt_of_pos _ (by omega)
  have hq : (a / b).natAbs ≤ 100000000 := by
    have hb' : b = 1 ∨ b = 2 ∨ b = 3 ∨ b = 4 ∨ b = 5 ∨ b = 6 ∨ b = 7 ∨ b = 8 ∨ b = 9 ∨ b = 10 ∨ b = 11 ∨ b = 12 ∨ b = 13 ∨ b = 14 ∨ b = 15 ∨ b = 16 := by omega
    clear d1 hm l0 l1
    rcases hb' with rfl | rfl | rfl | rfl | rfl | rfl | rfl | rfl | rfl | rfl | rfl | rfl | rfl | rfl | rfl | rfl <;> omega
  have m0 : vMul (.int (a / b)) (.int b) S = .ok (.int (a / b * b)) S := vMul_int (by omega) (by omega)
  have m1 : vMul (.int 2) (.int (a - a / b * b)) S = .ok (.int (2 * (a - a / b * b))) S := vMul_int (by decide) (by omega)
  unfold b_round_k74 lrnd3
  generalize a / b * b = z at *
  by_cases h1 : w = "down"
  · simp [start1, List.replicate, vEq_str, h1, d1, m0]
  · by_cases h2 : a - z = 0
    · simp [start1, List.replicate, vEq_str, vEq_int, h1, h2, d1, m0]
    · by_cases h3 : w = "cut"
      · by_cases h4 : a < 0 <;> simp [start1, List.replicate, vEq_str, vEq_int, h2, h3, h4, d1, m0, words_ne]
      · by_cases h6 : b < 2 * (a - z)
        · simp [start1, List.replicate, vEq_str, vEq_int, h1, h2, h3, h6, d1, m0, m1]
        · by_cases h5 : 2 * (a - z) = b
          · by_cases h4 : 0 < a <;> simp [start1, List.replicate, vEq_str, vEq_int, h1, h2, h3, h4, h5, h6, d1, m0, m1]
          · simp [start1, List.replicate, vEq_str, vEq_int, h1, h2, h3, h5, h6, d1, m0, m1]
theorem sum3_ok {p : Pt} (h : p.Ok) {xs : List Int} (hx : p.St xs) (S : Store) : m_sum_k74 [p.pv, tsv xs] S = .ok (.int (p.sm xs)) S := by
  refine run_fn ?_
  have hb := h.b
  have t0 := ix0 p S
  have pl := prod_le h hx
  have c2 : c_sum_k74_2 [some p.pv, some (tsv xs), none, none] S = .ok ((prods p.ts xs).map PV.int) S := by
    unfold c_sum_k74_2 tsv at *
    simp [t0, zipW_len h xs]
    exact prod_comp h hx S 2 3 ⟨by simp, by simp, by simp⟩
  have c1 : c_sum_k74_1 [some p.pv, some (tsv xs), none, none] S = .ok (((prods p.ts xs).map fun a => rnd p.w a p.b).map PV.int) S := by
    unfold c_sum_k74_1 tsv at *
    simp only [lComp_ap, iZip_ap, eBin_ap, eVar_ap, List.getElem?_cons_zero, List.getElem?_cons_succ, varK_some, Res.bind_ok, eC_ap, t0]
    simp only [zipOf_tup, Res.bind_ok]
    rw [if_pos (szlS _ (zipW_len h xs)), zipW_ints]
    unfold prods
    rw [List.map_map, List.map_map]
    refine compM_map2 (.inl rfl) (fun p : Int × Int => PV.tup [.int p.1, .int p.2]) _ (p.ts.zip xs) fun q hq => ⟨[some p.pv, some (tsv xs), some (.int q.1), some (.int q.2)], by simp [wipeE, tsv], rfl, ?_⟩
    obtain ⟨h1, h2⟩ := List.of_mem_zip hq
    have := h.ts _ h1
    have := hx.le _ h2
    have := h.h
    have sm := pl (q.1 * q.2) (List.mem_map.mpr ⟨q, hq, rfl⟩)
    have e1 := ix1 p S
    have e2 := ix2 p S
    simp [vMul_int (i := q.1) (j := q.2) (S := S) (by omega) (by omega), e1, e2, round3_ok (a := q.1 * q.2) (w := p.w) S hb (by omega)]
  have e1 := ix1 p S
  have e2 := ix2 p S
  have ps := prods_sum h hx
  unfold b_sum_k74 Pt.sm
  cases he : p.e with
  | false => simp [start1, List.replicate, c2, vSum_ints, round3_ok (a := (prods p.ts xs).sum) (w := p.w) S hb (by omega), ix4, he, e1, e2]
  | true => simp [start1, List.replicate, c1, vSum_ints, ix4, he, -List.map_map]
theorem fit3_ok {p : Pt} (h : p.Ok) (n : Int) (S : Store) : m_fit_k74 [p.pv, .int n] S = .ok (.int (p.fit n)) S := by
  refine run_fn ?_
  have hh := h.h
  have m1 : vMul (.int 2) (.int p.h) S = .ok (.int (2 * p.h)) S := vMul_int (by decide) (by omega)
  have m2 : vMod (.int (n + p.h)) (.int (2 * p.h + 1)) S = .ok (.int ((n + p.h) % (2 * p.h + 1))) S := vMod_int (by omega)
  unfold b_fit_k74 Pt.fit
  cases hv : p.v with
  | false => simp [start1, List.replicate, ix3, ix5, hv]
  | true => simp [start1, List.replicate, ix3, ix5, hv, m1, m2]
theorem step3_ok {p : Pt} (h : p.Ok) {xs : List Int} (hx : p.St xs) (x : Int) (S : Store) : m_step_k74 [p.pv, tsv xs, .int x] S = .ok (tsv (p.step xs x)) S := by
  refine run_fn ?_
  have hl := h.len
  have z1 : 1 ≤ sizeLine := seq_le (by omega)
  have ad : vAdd (.tup [.int (p.fit (p.sm xs + x))]) (tsv xs.dropLast) S = .ok (tsv (p.step xs x)) S := by
    have : [PV.int (p.fit (p.sm xs + x))].length + (xs.dropLast.map PV.int).length ≤ sizeLine := seq_le (by have := hx.len; simp; omega)
    exact if_pos this
  unfold b_step_k74
  simp [start1, List.replicate, sum3_ok h hx, fit3_ok h, vSl_last, z1, ad]
end Hl
namespace K60
open PySem L2 Dn Hl
theorem _root_.Hl.Pn.cut {L k n : Nat} {S : Store} (h : Pn (L + 1) k n S) (hk : k < L) : Pn L k n (S.take L) := by
  obtain ⟨x, y, z, a, b⟩ := h.pen
  exact ⟨fun c hc => h.all c (List.mem_of_mem_take hc), by rw [List.length_take, h.len]; omega, x, y, z, by rw [List.getElem?_take_of_lt hk]; exact a, b⟩
theorem _root_.Hl.Pn.lt {L k n : Nat} {S : Store} (h : Pn L k n S) : k < L := by
  obtain ⟨x, y, z, a, _⟩ := h.pen
  have := (List.getElem?_eq_some_iff.mp a).1
  rw [h.len] at this; exact this
end K60
namespace Hl
open PySem L2 Dn
@[simp] theorem eFldL_ap (nm f : Str) (o : EM) (r : Env1) (S : Store) : eFldL nm f o r S = (o r S).bind fun d S1 => fldL nm f d S1 := nr rfl
@[simp] theorem ePropL_ap (nm : Str) (m : Fn) (o : EM) (r : Env1) (S : Store) : ePropL nm m o r S = (o r S).bind fun d S1 => if isC nm S1 d = true then noErr (m [d] S1) else .bad := nr rfl
@[simp] theorem eMethL_ap (nm mn : Str) (n : Nat) (m : Fn) (dv : List PV) (o : EM) (a : LM) (r : Env1) (S : Store) : eMethL nm mn n m dv o a r S = (o r S).bind fun d S1 => if isM nm mn S1 d = true then (a r S1).bind fun ds S2 => methL n m dv d ds S2 else .bad := nr rfl
@[simp] theorem eConL_ap (nm f v : Str) (o : EM) (r : Env1) (S : Store) : eConL nm f v o r S = (o r S).bind fun d S1 => conL nm f v d S1 := nr rfl
@[simp] theorem iRange3_ap (a b c : EM) (r : Env1) (S : Store) : iRange3 a b c r S = (a r S).bind fun d S1 => (b r S1).bind fun e S2 => (c r S2).bind fun f S3 => rngOf3 d e f S3 := nr rfl
@[simp] theorem methL_ap (n : Nat) (m : Fn) (dv : List PV) (d : PV) (ds : List PV) (S : Store) : methL n m dv d ds S = if (d :: ds).length + dv.length = n then m (d :: ds ++ dv) S else .bad := nr rfl
abbrev HQ := List Int × List Int
def hv (q : HQ) : PV := .tup [tsv q.1, tsv q.2]
section
variable {S : Store} {k : Nat} {p : Pt} {q : HQ} {ps : List HQ}
end
end Hl
namespace Hl
open PySem L2 Dn
theorem cut_from (xs : List PV) (n : Nat) (h : n ≤ xs.length) : cutP xs (some (n : Int)) none = xs.drop n := by
  unfold cutP
  rw [HT.sIx_nat, HT.sIx_none, Nat.min_eq_left h]
  rw [List.take_of_length_le (by simp)]
section
variable {S : Store} {k : Nat} {p : Pt} {q : HQ} {ps : List HQ}
end
end Hl
namespace Hl
open PySem L2 Dn
structure HS (q : HQ) : Prop where
  st : ∀ t ∈ q.1, smallI t
  told : ∀ t ∈ q.2, smallI t
section
variable {S : Store} {k : Nat} {p : Pt} {q : HQ} {ps : List HQ}
end
end Hl
namespace Hl
open PySem L2 Dn
theorem cut_head (xs : List PV) (n : Nat) (h : n ≤ xs.length) : cutP xs none (some (n : Int)) = xs.take n := by
  unfold cutP
  rw [HT.sIx_nat, HT.sIx_none, Nat.min_eq_left h]
  simp
theorem ix_ts {ts : List Int} {n : Nat} {x : Int} (h : ts[n]? = some x) (S : Store) : vIx (tsv ts) (.int n) S = .ok (.int x) S := by
  show ofO (atI (ts.map PV.int) ((n : Nat) : Int)) S = _
  rw [atI_get (d := .int x) (by rw [List.getElem?_map, h]; rfl)]; rfl
theorem sWhile_R {t : BM} {b : SM} (J : Nat → Env1 → Store → Prop) (R : Env1 → Store → Prop) (hs : ∀ n r S, J n r S → ∃ k S1, t r S = .ok k S1 ∧ (k = true → ∃ m r' S', m < n ∧ (b r S1 = .ok (.nx r') S' ∨ b r S1 = .ok (.ct r') S') ∧ J m r' S') ∧ (k = false → R r S1)) :
    ∀ (n : Nat) (r : Env1) (S : Store), J n r S → ∃ r' S', sWhile t b r S = .ok (.nx r') S' ∧ R r' S' := by
  intro n
  induction n using Nat.strongRecOn with
  | ind n ih =>
    intro r S h
    obtain ⟨k, S1, e, h1, h2⟩ := hs n r S h
    rw [sWhile_eq, e]
    cases k with
    | false => exact ⟨r, S1, rfl, h2 rfl⟩
    | true =>
      obtain ⟨m, r', S', hm, e2, h3⟩ := h1 rfl
      simp only [Res.bind_ok, if_true]
      rcases e2 with e2 | e2 <;> rw [e2] <;> exact ih m hm r' S' h3
theorem need_source_ok (p : Pt) (S : Store) : m_p_need_source [p.obj] S = .ok .non S := by
  refine fn_nx (r := [some p.obj]) ?_ (Nat.le_refl _)
  have i : vIsiU [p.obj, .cls "Filter"] S = .ok (.bl true) S := isi_FF _ S
  unfold b_p_need_source
  simp [start1, List.replicate, i]
end Hl
namespace Hl
open PySem L2 Dn PySem.W PyProof.Rows
theorem dat_tsv (s : List Int) : dat (tsv s) = .tuple (s.map .int) := by
  have : data0 (tsv s) = some (pdts s) := tsv_pd s
  unfold dat; rw [this]; rfl
theorem tks_ints : ∀ s : List Int, tks (s.map PyData.int) = true
  | [] => by simp [tks]
  | x :: xs => by simp [tks, tk, tks_ints xs]
theorem tkd_tsv (s : List Int) : tkd (tsv s) = true := by
  have h : data0 (tsv s) = some (pdts s) := tsv_pd s
  have d : (pdts s).depth ≤ 2 := pdts_depth s
  unfold tkd; rw [h]
  have t : tk (pdts s) = true := by unfold pdts; simp only [tk]; exact tks_ints s
  simp only [t, Bool.true_and, decide_eq_true_eq]; omega
theorem tkds_tsv (ss : List (List Int)) : tkds (ss.map tsv) = true := List.all_eq_true.mpr fun d hd => by
  obtain ⟨s, _, rfl⟩ := List.mem_map.mp hd
  exact tkd_tsv s
theorem dlt_tsv (a b : List Int) : dataLt (dat (tsv a)) (dat (tsv b)) = ltS a b := by
  rw [dat_tsv, dat_tsv]
  unfold dataLt ltS kS
  simp only [keyToks]
theorem pMin_tsv : ∀ (xs : List (List Int)) (x : List Int), pMin (tsv x) (xs.map tsv) = tsv (lmin x xs)
  | [], x => rfl
  | y :: ys, x => by
    have e : pMin (tsv x) ((y :: ys).map tsv) = pMin (if dataLt (dat (tsv y)) (dat (tsv x)) then tsv y else tsv x) (ys.map tsv) := rfl
    have e2 : lmin x (y :: ys) = lmin (if ltS y x then y else x) ys := rfl
    rw [e, e2, dlt_tsv]
    by_cases h : ltS y x = true
    · rw [if_pos h, if_pos h]; exact pMin_tsv ys y
    · rw [if_neg h, if_neg h]; exact pMin_tsv ys x
theorem tsv_inj {a b : List Int} (h : tsv a = tsv b) : a = b := by
  unfold tsv at h
  injection h with h
  exact (List.map_inj_right fun _ _ h => by injection h).mp h
theorem pIn_tsv (s : List Int) (ss : List (List Int)) : pIn (tsv s) (ss.map tsv) = decide (s ∈ ss) := by
  rw [Bool.eq_iff_iff, pIn_iff, decide_eq_true_eq]
  constructor
  · intro h
    obtain ⟨t, ht, e⟩ := List.mem_map.mp h
    rw [← tsv_inj e]; exact ht
  · intro h; exact List.mem_map.mpr ⟨s, h, rfl⟩
theorem pIdx_tsv (s : List Int) : ∀ ss : List (List Int), pIdx (tsv s) (ss.map tsv) = ss.idxOf s
  | [] => rfl
  | t :: ss => by
    have ih := pIdx_tsv s ss
    letI : BEq PV := @instBEqOfDecidableEq PV decPV
    show List.idxOf (tsv s) (tsv t :: ss.map tsv) = _
    replace ih : List.idxOf (tsv s) (ss.map tsv) = ss.idxOf s := ih
    rw [List.idxOf_cons, List.idxOf_cons, ih]
    by_cases h : t = s
    · subst h
      have : (@BEq.beq PV (@instBEqOfDecidableEq PV decPV) (tsv t) (tsv t)) = true := by
        letI := decPV; exact beq_self_eq_true _
      rw [this]; simp
    · have : (@BEq.beq PV (@instBEqOfDecidableEq PV decPV) (tsv t) (tsv s)) = false := by
        letI := decPV; exact beq_eq_false_iff_ne.mpr fun e => h (tsv_inj e)
      rw [this, show (t == s) = false from beq_eq_false_iff_ne.mpr h]
theorem alike_ints : ∀ a b : List Int, alikeAll (a.map PyData.int) (b.map PyData.int) = true
  | [], _ => by simp [alikeAll]
  | x :: xs, [] => by simp [alikeAll]
  | x :: xs, y :: ys => by simp [alikeAll, alike, alike_ints xs ys]
theorem alikes_tsv (ss : List (List Int)) : alikes (ss.map tsv) = true := List.all_eq_true.mpr fun a ha => List.all_eq_true.mpr fun b hb => by
  obtain ⟨s, _, rfl⟩ := List.mem_map.mp ha
  obtain ⟨t, _, rfl⟩ := List.mem_map.mp hb
  rw [dat_tsv, dat_tsv]
  simp only [alike]; exact alike_ints s t
def nkS (s : List Int) : NestedKey := nkD (.tuple (s.map .int))
theorem nkOf_tsv (s : List Int) : nkOf (tsv s) = some (nkS s) := nkOf_eq (tsv_pd s) (by
  have := dep_ints s
  simp only [pdts, isTK, tks_ints, Bool.true_and, decide_eq_true_eq]; omega)
theorem nkS_inj {a b : List Int} (h : nkS a = nkS b) : a = b := by
  have := nkD_inj (p := .tuple (a.map .int)) (q := .tuple (b.map .int)) (by simp only [tk]; exact tks_ints a) (by simp only [tk]; exact tks_ints b) h
  injection this with e
  exact (List.map_inj_right fun _ _ h => by injection h).mp e
section
variable {β : Type}
def look (s : List Int) : List (List Int × β) → Option β
  | [] => none
  | q :: r => if q.1 = s then some q.2 else look s r
theorem look_none {s : List Int} : ∀ {L : List (List Int × β)}, look s L = none ↔ s ∉ L.map (·.1)
  | [] => by simp [look]
  | q :: r => by
    have ih := look_none (s := s) (L := r)
    unfold look
    by_cases h : q.1 = s
    · rw [if_pos h]; simp [h]
    · rw [if_neg h, ih]; simp [show ¬ s = q.1 from fun e => h e.symm]
theorem look_mem {s : List Int} {v : β} : ∀ {L : List (List Int × β)}, look s L = some v → (s, v) ∈ L
  | [], h => by cases h
  | q :: r, h => by
    unfold look at h
    by_cases e : q.1 = s
    · rw [if_pos e] at h; cases h; subst e; simp
    · rw [if_neg e] at h; exact List.mem_cons_of_mem _ (look_mem h)
theorem dLook_tsv (g : β → PV) (s : List Int) : ∀ L : List (List Int × β), dLook (L.map fun q => (tsv q.1, g q.2)) (nkS s) = (look s L).map g
  | [] => rfl
  | q :: r => by
    have ih := dLook_tsv g s r
    rw [List.map_cons]
    unfold dLook look
    rw [nkOf_tsv]
    by_cases e : q.1 = s
    · rw [if_pos e, if_pos (by rw [e])]; rfl
    · rw [if_neg e, if_neg fun h => e (nkS_inj (Option.some.inj h)), ih]
end
@[simp] theorem sPutC_ap (o i v : EM) (r : Env1) (S : Store) : sPutC o i v r S = (v r S).bind fun d S1 => (o r S1).bind fun x S2 => (i r S2).bind fun y S3 => putIxC x y d r S3 := rfl
@[simp] theorem eCelD_ap (r : Env1) (S : Store) : eCelD r S = .ok (.loc S.length) (S ++ [.dic [] 0]) := rfl
@[simp] theorem eLoose_ap (f : EM) (r : Env1) (S : Store) : eLoose f r S = (f r S).bind fun d S1 => .ok (Dn.loose d) S1 := rfl
@[simp] theorem eIdxU_ap (o : EM) (a : LM) (r : Env1) (S : Store) : eIdxU o a r S = (o r S).bind fun d S1 => if isU d = true then (a r S1).bind fun ds S2 => vIndexU d ds S2 else .bad := rfl
@[simp] theorem loose_tub (xs : List PV) : Dn.loose (.tub xs) = .tup xs := rfl
@[simp] theorem isU_tub (xs : List PV) : isU (.tub xs) = true := rfl
def vss (ss : List (List Int)) : List PV := ss.map tsv
theorem vss_len (ss : List (List Int)) : (vss ss).length = ss.length := List.length_map _
theorem least_cons {ss : List (List Int)} (h : ss ≠ []) : ∃ x xs, ss = x :: xs := by
  cases ss with
  | nil => exact absurd rfl h
  | cons x xs => exact ⟨x, xs, rfl⟩
theorem vMinA_lst {ss : List (List Int)} (h : ss ≠ []) (S : Store) : vMinA [.lst (vss ss)] S = .ok (tsv (least ss)) S := by
  obtain ⟨x, xs, rfl⟩ := least_cons h
  have c : tkds (vss (x :: xs)) = true ∧ alikes (vss (x :: xs)) = true := ⟨tkds_tsv _, alikes_tsv _⟩
  show (if tkds (vss (x :: xs)) = true ∧ alikes (vss (x :: xs)) = true then Res.ok (pMin (tsv x) (xs.map tsv)) S else .bad) = _
  rw [if_pos c, pMin_tsv]; rfl
theorem vMinA_tup {ss : List (List Int)} (h : ss ≠ []) (S : Store) : vMinA [.tup (vss ss)] S = .ok (tsv (least ss)) S := by
  obtain ⟨x, xs, rfl⟩ := least_cons h
  have c : tkds (vss (x :: xs)) = true ∧ alikes (vss (x :: xs)) = true := ⟨tkds_tsv _, alikes_tsv _⟩
  show (if tkds (vss (x :: xs)) = true ∧ alikes (vss (x :: xs)) = true then Res.ok (pMin (tsv x) (xs.map tsv)) S else .bad) = _
  rw [if_pos c, pMin_tsv]; rfl
theorem idx_ss {ss : List (List Int)} {s : List Int} (h : s ∈ ss) : (tkd (tsv s) = true ∧ tkds (vss ss) = true) ∧ pIn (tsv s) (vss ss) = true := ⟨⟨tkd_tsv _, tkds_tsv _⟩, by unfold vss; rw [pIn_tsv]; exact decide_eq_true h⟩
theorem vIndexA_lst {ss : List (List Int)} {s : List Int} (h : s ∈ ss) (S : Store) : vIndexA (.lst (vss ss)) [tsv s] S = .ok (.int (ss.idxOf s : Nat)) S := by
  show (if (tkd (tsv s) = true ∧ tkds (vss ss) = true) ∧ pIn (tsv s) (vss ss) = true then Res.ok (PV.int (pIdx (tsv s) (vss ss) : Nat)) S else .bad) = _
  rw [if_pos (idx_ss h)]; unfold vss; rw [pIdx_tsv]
theorem vIndexA_loc {S : Store} {k : Nat} {ss : List (List Int)} {s : List Int} (e : S[k]? = some (.lst (vss ss))) (h : s ∈ ss) : vIndexA (.loc k) [tsv s] S = .ok (.int (ss.idxOf s : Nat)) S := by
  have l : lstOf S (.loc k) = some (vss ss) := by simp [lstOf, e]
  show (match lstOf S (.loc k) with
    | some xs => if (tkd (tsv s) = true ∧ tkds xs = true) ∧ pIn (tsv s) xs = true then Res.ok (PV.int (pIdx (tsv s) xs : Nat)) S else .bad
    | none => .bad) = _
  rw [l]
  show (if (tkd (tsv s) = true ∧ tkds (vss ss) = true) ∧ pIn (tsv s) (vss ss) = true then Res.ok (PV.int (pIdx (tsv s) (vss ss) : Nat)) S else .bad) = _
  rw [if_pos (idx_ss h)]; unfold vss; rw [pIdx_tsv]
theorem vIndexU_tub {ss : List (List Int)} {s : List Int} (h : s ∈ ss) (S : Store) : vIndexU (.tub (vss ss)) [tsv s] S = .ok (.int (ss.idxOf s : Nat)) S := by
  show (if (tkd (tsv s) = true ∧ tkds (vss ss) = true) ∧ pIn (tsv s) (vss ss) = true then Res.ok (PV.int (pIdx (tsv s) (vss ss) : Nat)) S else .bad) = _
  rw [if_pos (idx_ss h)]; unfold vss; rw [pIdx_tsv]
theorem sl_lst_from (ss : List (List Int)) (n : Nat) (h : n ≤ ss.length) (S : Store) : vSl (.lst (vss ss)) (some (n : Int)) none S = .ok (.lst (vss (ss.drop n))) S := by
  show Res.ok (PV.lst (cutP (ss.map tsv) (some (n : Int)) none)) S = _
  rw [cut_from _ _ (by simpa using h), ← List.map_drop]; rfl
theorem sl_lst_to (ss : List (List Int)) (n : Nat) (h : n ≤ ss.length) (S : Store) : vSl (.lst (vss ss)) none (some (n : Int)) S = .ok (.lst (vss (ss.take n))) S := by
  show Res.ok (PV.lst (cutP (ss.map tsv) none (some (n : Int)))) S = _
  rw [cut_head _ _ (by simpa using h), ← List.map_take]; rfl
theorem sl_loc_from {S : Store} {k : Nat} {ss : List (List Int)} (e : S[k]? = some (.lst (vss ss))) (n : Nat) (h : n ≤ ss.length) : vSl (.loc k) (some (n : Int)) none S = .ok (.lst (vss (ss.drop n))) S := by
  have l : lstOf S (.loc k) = some (vss ss) := by simp [lstOf, e]
  show (match lstOf S (.loc k) with
    | some xs => Res.ok (PV.lst (cutP xs (some (n : Int)) none)) S
    | none => .bad) = _
  rw [l]
  show Res.ok (PV.lst (cutP (ss.map tsv) (some (n : Int)) none)) S = _
  rw [cut_from _ _ (by simpa using h), ← List.map_drop]; rfl
theorem least_ok {ss : List (List Int)} (h : ss ≠ []) (hl : ss.length ≤ 10000000) (S : Store) : m_least [.lst (vss ss)] S = .ok (.tup (vss (rotm ss))) S := by
  have hm := vMinA_lst h S
  have hi := vIndexA_lst (least_mem h) S
  have le : ss.idxOf (least ss) ≤ ss.length := Nat.le_of_lt (List.idxOf_lt_length_of_mem (least_mem h))
  have s1 := sl_lst_from ss _ le S
  have s2 := sl_lst_to ss _ le S
  have ad : vAdd (.lst (vss (ss.drop (ss.idxOf (least ss))))) (.lst (vss (ss.take (ss.idxOf (least ss))))) S = .ok (.lst (vss (rotm ss))) S := by
    rw [vAdd_lst (by rw [vss_len, vss_len, List.length_drop, List.length_take]; omega)]
    unfold vss rotm; rw [List.map_append]
  have vt : vTuple [.lst (vss (rotm ss))] S = .ok (.tup (vss (rotm ss))) S := rfl
  have iT : isT "list" S (.lst (vss ss)) = true := rfl
  refine run_fn ?_
  unfold b_least
  generalize vss (rotm ss) = R at *
  generalize vss (ss.drop (ss.idxOf (least ss))) = A at *
  generalize vss (ss.take (ss.idxOf (least ss))) = B at *
  generalize vss ss = D at *
  generalize tsv (least ss) = m at *
  simp [start1, List.replicate, hm, hi, iT, s1, s2, ad, vt]
theorem begun_least_ok {ss : List (List Int)} (h : ss ≠ []) (hl : ss.length ≤ 10000000) (S : Store) : m_p_begun_least [.tub (vss ss)] S = .ok (.tup (vss (rotm ss))) S := by
  have hm := vMinA_tup h S
  have hi := vIndexU_tub (least_mem h) S
  have le : ss.idxOf (least ss) ≤ ss.length := Nat.le_of_lt (List.idxOf_lt_length_of_mem (least_mem h))
  have s1 : cutP (vss ss) (some ((ss.idxOf (least ss) : Nat) : Int)) none = vss (ss.drop (ss.idxOf (least ss))) := by
    unfold vss; rw [cut_from _ _ (by simpa using le), ← List.map_drop]
  have s2 : cutP (vss ss) none (some ((ss.idxOf (least ss) : Nat) : Int)) = vss (ss.take (ss.idxOf (least ss))) := by
    unfold vss; rw [cut_head _ _ (by simpa using le), ← List.map_take]
  have st : ∀ xs : List PV, starK (.tup xs) S = .ok xs S := fun xs => rfl
  have ad : vss (ss.drop (ss.idxOf (least ss))) ++ vss (ss.take (ss.idxOf (least ss))) = vss (rotm ss) := by
    unfold vss rotm; rw [List.map_append]
  have sz : (vss (rotm ss)).length ≤ sizeLine := seq_le (by rw [← ad, List.length_append, vss_len, vss_len, List.length_drop, List.length_take]; omega)
  refine run_fn ?_
  unfold b_p_begun_least
  generalize vss (rotm ss) = R at *
  generalize vss (ss.drop (ss.idxOf (least ss))) = A at *
  generalize vss (ss.take (ss.idxOf (least ss))) = B at *
  generalize vss ss = D at *
  generalize tsv (least ss) = m at *
  simp [start1, List.replicate, hm, hi, s1, s2, st, ad, sz]
end Hl
namespace Hl
open PySem L2 Dn PySem.W PyProof.Rows
theorem states_c {p : Pt} (h : p.Ok) {xs : List Int} (hx : xs.length ≤ 3) {r : Env1} (h0 : r[0]? = some (some p.pv)) (h4 : r[4]? = some (some (tsv xs))) (hr : r.length = 6) (S : Store) : c_states_1 r S = .ok (vss ((nums p.h).map fun x => xs ++ [x])) S := by
  have hh := h.h
  unfold c_states_1 vss
  have g0 : (rngOf (.int (-p.h)) (.int (p.h + 1)) S) = .ok ⟨rng (-p.h) (p.h + 1 - (-p.h)).toNat, none⟩ S := rngOf_ok (by omega) (by omega)
  simp [h0, ix3] at g0 ⊢
  rw [g0]
  simp [rng_len, show (p.h + 1 + p.h).toNat ≤ 16777216 by omega]
  unfold rng nums
  rw [show p.h + 1 + p.h = 2 * p.h + 1 by omega, List.map_map]
  refine compM_map2 (.inl rfl) (fun i : Nat => PV.int (-p.h + (i : Int))) _ (List.range (2 * p.h + 1).toNat) fun i hi => ⟨_, rfl, rfl, ?_⟩
  have e4 : (((r.set 5 none).set 5 (some (PV.int (-p.h + (i : Int)))))[4]?) = some (some (tsv xs)) := by simp [List.getElem?_set, h4]
  have e5 : (((r.set 5 none).set 5 (some (PV.int (-p.h + (i : Int)))))[5]?) = some (some (PV.int (-p.h + (i : Int)))) := by simp [List.getElem?_set, hr]
  simp at e4 e5
  simp [e4, e5, tsv_app xs _ S (by omega)]
def spnU (h : Int) (n i : Nat) : List (List Int) := ((spn h n).take i).flatMap fun s => (nums h).map fun x => s ++ [x]
theorem spnU_all (h : Int) (n : Nat) : spnU h n (spn h n).length = spn h (n + 1) := by unfold spnU; rw [List.take_length]; rfl
theorem spnU_succ {h : Int} {n i : Nat} {xs : List Int} (hx : (spn h n)[i]? = some xs) : spnU h n (i + 1) = spnU h n i ++ (nums h).map fun x => xs ++ [x] := by
  unfold spnU; rw [List.take_succ, hx]; simp
theorem spnU_len {h : Int} (n i : Nat) : (spnU h n i).length ≤ (spn h (n + 1)).length := by
  have q2 : spn h (n + 1) = spnU h n i ++ (((spn h n).drop i).flatMap fun s => (nums h).map fun x => s ++ [x]) := by
    unfold spnU
    rw [← List.flatMap_append, List.take_append_drop]; rfl
  rw [q2, List.length_append]; omega
theorem allst_ok {p : Pt} (h : p.Ok) (S : Store) : m_states [p.pv] S = .ok (.lst (vss (spn p.h p.ts.length))) S := by
  have hh := h.h
  have hl := h.len
  have inner : ∀ (n : Nat) (r : Env1), n < p.ts.length → Has 6 [(0, p.pv), (1, .lst (vss (spn p.h n))), (3, .lst [])] r →
      ∃ r', l_states_1 r S = .ok (.nx r') S ∧ Has 6 [(0, p.pv), (3, .lst (vss (spn p.h (n + 1))))] r' := fun n r hn hr => by
    have g1 := hr.get 1 (v := .lst (vss (spn p.h n)))
    obtain ⟨r', S', e, rfl, h1⟩ := sFor_inv (g := gNm 4) (b := w_states_1) (it := iVal (eVar 1)) (r := r) (S := S) (S1 := S) (ds := vss (spn p.h n)) (by rw [iVal_ap, eVar_ap, g1]; rfl)
      (fun i r S' => S' = S ∧ Has 6 [(0, p.pv), (3, .lst (vss (spnU p.h n i)))] r) ⟨rfl, hr.sub (l' := [(0, p.pv), (3, .lst [])])⟩ (fun i d hd r S' ⟨eS, hr⟩ => by
        subst eS
        unfold vss at hd
        rw [List.getElem?_map] at hd
        cases hx : (spn p.h n)[i]? with
        | none => rw [hx] at hd; cases hd
        | some xs =>
          rw [hx] at hd; cases hd
          have hm := (spn_mem (h := p.h) (by omega)).mp (List.mem_of_getElem? hx)
          have hr4 := hr.put 4 (tsv xs)
          have c := states_c h (xs := xs) (by omega) (hr4.get 0) (hr4.get 4) hr4.len S'
          have sz : (vss (spnU p.h n i)).length + (vss ((nums p.h).map fun x => xs ++ [x])).length ≤ 16777216 := by
            have l0 := spnU_len (h := p.h) n (i + 1)
            rw [spnU_succ hx, List.length_append] at l0
            have l := spn_len (h := p.h) (by omega) (n + 1)
            have l2 := pow3_le hh (show n + 1 ≤ 3 by omega)
            rw [vss_len, vss_len]; omega
          have ad : vAdd (.lst (vss (spnU p.h n i))) (.lst (vss ((nums p.h).map fun x => xs ++ [x]))) S' = .ok (.lst (vss (spnU p.h n (i + 1)))) S' := by
            rw [vAdd_lst sz, spnU_succ hx]; unfold vss; rw [List.map_append]
          have g3 := hr4.get 3 (v := .lst (vss (spnU p.h n i)))
          refine ⟨_, (r.set 4 (some (tsv xs))).set 3 (some (.lst (vss (spnU p.h n (i + 1))))), S', rfl, .inl ?_, rfl, ?_⟩
          · unfold w_states_1
            generalize vss (spnU p.h n i) = A at *
            generalize vss (spnU p.h n (i + 1)) = B at *
            generalize vss ((nums p.h).map fun x => xs ++ [x]) = C at *
            generalize tsv xs = X at *
            rw [sSet_ap, eBin_ap, eVar_ap, g3, varK_some, Res.bind_ok, eNew_ap, c, Res.bind_ok, Res.bind_ok, ad]
            rfl
          · have q := (hr.sub (l' := [(0, p.pv)])).set 4 (some (tsv xs))
            exact (q.put 3 (.lst (vss (spnU p.h n (i + 1))))).sub)
    rw [vss_len, spnU_all] at h1
    exact ⟨r', e, h1⟩
  have iv : vIx p.pv (.int 0) S = .ok (tsv p.ts) S := ix0 _ S
  obtain ⟨r', S', e, rfl, hr⟩ := sFor_inv (g := gNm 2) (b := w_states_2) (it := iVal (eBin vIx (eVar 0) (eC (.int 0)))) (r := [some p.pv, some (.lst [.tup []]), none, none, none, none]) (S := S) (S1 := S) (ds := p.ts.map PV.int)
    (by
      have l1 : (p.ts.map PV.int).length ≤ sizeLine := seq_le (by simp; omega)
      generalize p.pv = P at *
      simp [iv, tsv])
    (fun i r S' => S' = S ∧ Has 6 [(0, p.pv), (1, .lst (vss (spn p.h i)))] r)
    ⟨rfl, rfl, by simp [vss, spn, tsv]⟩ (fun i d hd r S' ⟨eS, hr⟩ => by
      subst eS
      have hi : i < p.ts.length := by have := (List.getElem?_eq_some_iff.mp hd).1; simpa using this
      have hr3 := (hr.set 2 (some d)).put 3 (.lst [])
      obtain ⟨r', e, hr'⟩ := inner i _ hi hr3.sub
      have g3 := hr'.get 3 (v := .lst (vss (spn p.h (i + 1))))
      refine ⟨_, r'.set 1 (some (.lst (vss (spn p.h (i + 1))))), S', rfl, .inl ?_, rfl, ((hr'.sub (l' := [(0, p.pv)])).put 1 _).sub⟩
      · unfold w_states_2
        have e3 : sSet 3 (eLst lNil) (r.set 2 (some d)) S' = .ok (.nx ((r.set 2 (some d)).set 3 (some (.lst [])))) S' := rfl
        rw [seq_nx e3, seq_nx e, sSet_ap, eVar_ap, g3]; rfl)
  rw [List.length_map] at hr
  have g1 := hr.get 1 (v := .lst (vss (spn p.h p.ts.length)))
  refine run_fn ?_
  unfold b_states
  have e1 : sSet 1 (eLst (lCons (eTup lNil) lNil)) (start1 6 [p.pv]) S' = .ok (.nx [some p.pv, some (.lst [.tup []]), none, none, none, none]) S' := rfl
  have e' : l_states_2 [some p.pv, some (.lst [.tup []]), none, none, none, none] S' = .ok (.nx r') S' := e
  rw [seq_nx e1, seq_nx e', sRet_ap, eVar_ap, g1]; rfl
def Pt.U (p : Pt) : List (List Int) := spn p.h p.ts.length
theorem U_mem {p : Pt} (h : p.Ok) {s : List Int} : s ∈ p.U ↔ p.St s := (spn_mem (by have := h.h; omega)).trans ⟨fun ⟨a, b⟩ => ⟨a, b⟩, fun h => ⟨h.len, h.le⟩⟩
theorem U_len {p : Pt} (h : p.Ok) : p.U.length ≤ 1771561 := by
  have l := spn_len (h := p.h) (by have := h.h; omega) p.ts.length
  have l2 := pow3_le h.h h.len.2
  unfold Pt.U; omega
def Pt.fx (p : Pt) (x : Int) : List Int → List Int := fun s => p.step s x
theorem fx_U {p : Pt} (h : p.Ok) (x : Int) : ∀ s ∈ p.U, p.fx x s ∈ p.U := fun s hs => (U_mem h).mpr (step_st h ((U_mem h).mp hs) x)
theorem it_st {p : Pt} (h : p.Ok) {s : List Int} (hs : p.St s) (x : Int) (n : Nat) : p.St (it (p.fx x) s n) := it_in (U := p.St) (fun s hs => step_st h hs x) hs n
theorem orb_U {p : Pt} (h : p.Ok) {s : List Int} (hs : p.St s) {x : Int} {n : Nat} (nd : (orb (p.fx x) s n).Nodup) : n ≤ p.U.length := orb_le (fx_U h x) ((U_mem h).mpr hs) nd
theorem nodup_snoc {α : Type} {xs : List α} {a : α} (nd : xs.Nodup) (h : a ∉ xs) : (xs ++ [a]).Nodup := by
  rw [List.nodup_append]
  exact ⟨nd, by simp, fun b hb c hc => by simp at hc; subst hc; exact fun e => h (e ▸ hb)⟩
theorem c0_at (S R : Store) (a : Cell) : (S ++ a :: R)[S.length]? = some a := by simp
theorem c0_set (S R : Store) (a a' : Cell) : (S ++ a :: R).set S.length a' = S ++ a' :: R := by
  rw [List.set_append_right _ _ (Nat.le_refl _), Nat.sub_self]; rfl
theorem c1_at (S R : Store) (a b : Cell) : (S ++ a :: b :: R)[S.length + 1]? = some b := by
  rw [List.getElem?_append_right (by omega), Nat.add_sub_cancel_left]; rfl
theorem c1_set (S R : Store) (a b b' : Cell) : (S ++ a :: b :: R).set (S.length + 1) b' = S ++ a :: b' :: R := by
  rw [List.set_append_right _ _ (by omega), Nat.add_sub_cancel_left]; rfl
theorem c2_at (S T : Store) (a b c : Cell) : (S ++ a :: b :: (T ++ [c]))[S.length + 2 + T.length]? = some c := by
  rw [List.getElem?_append_right (by omega), show S.length + 2 + T.length - S.length = (T.length + 1) + 1 by omega]
  simp
theorem c2_set (S T : Store) (a b c c' : Cell) : (S ++ a :: b :: (T ++ [c])).set (S.length + 2 + T.length) c' = S ++ a :: b :: (T ++ [c']) := by
  rw [List.set_append_right _ _ (by omega), show S.length + 2 + T.length - S.length = (T.length + 1) + 1 by omega]
  simp [List.set_append_right]
theorem put_new {S : Store} {k : Nat} {kvs : List (PV × PV)} {ep : Nat} {i d : PV} {n : NestedKey} {r : Env1} (e : S[k]? = some (.dic kvs ep)) (hn : nkOf i = some n) (hl : dLook kvs n = none) (hz : kvs.length < 16777216) : putIxC (.loc k) i d r S = .ok (.nx r) (S.set k (.dic (kvs ++ [(i, d)]) (ep + 1))) := by
  have z : kvs.length < sizeLine := Nat.lt_of_lt_of_le hz (by decide)
  show (match S[k]? with
    | some (.dic kvs ep) => (match nkOf i with
      | some n => if kvs.length < sizeLine then (if (dLook kvs n).isSome = true then Res.ok (Fl.nx r) (S.set k (.dic (dRep kvs n d) ep)) else .ok (.nx r) (S.set k (.dic (kvs ++ [(i, d)]) (ep + 1)))) else .bad
      | none => .bad)
    | _ => .bad) = _
  rw [e]
  show (match nkOf i with
      | some n => if kvs.length < sizeLine then (if (dLook kvs n).isSome = true then Res.ok (Fl.nx r) (S.set k (.dic (dRep kvs n d) ep)) else .ok (.nx r) (S.set k (.dic (kvs ++ [(i, d)]) (ep + 1)))) else .bad
      | none => .bad) = _
  rw [hn]
  show (if kvs.length < sizeLine then (if (dLook kvs n).isSome = true then Res.ok (Fl.nx r) (S.set k (.dic (dRep kvs n d) ep)) else .ok (.nx r) (S.set k (.dic (kvs ++ [(i, d)]) (ep + 1)))) else .bad) = _
  rw [if_pos z, hl]; rfl
theorem vInD_loc {S : Store} {k : Nat} {kvs : List (PV × PV)} {ep : Nat} {i : PV} {n : NestedKey} (e : S[k]? = some (.dic kvs ep)) (hn : nkOf i = some n) : vInD true i (.loc k) S = .ok (.bl (!(dLook kvs n).isSome)) S := by
  have l : dicOf S (.loc k) = some kvs := by simp [dicOf, e]
  unfold vInD
  rw [hn, l]; rfl
theorem vIxC_loc {S : Store} {k : Nat} {kvs : List (PV × PV)} {ep : Nat} {i d : PV} {n : NestedKey} (e : S[k]? = some (.dic kvs ep)) (hn : nkOf i = some n) (hl : dLook kvs n = some d) : vIxC (.loc k) i S = .ok d S := by
  have l : dicOf S (.loc k) = some kvs := by simp [dicOf, e]
  unfold vIxC
  rw [hn, l]
  show (match dLook kvs n with
    | some z => Res.ok z S
    | none => .bad) = _
  rw [hl]
theorem next67_ok {p : Pt} (h : p.Ok) {xs : List Int} (hx : p.St xs) (x : Int) (S : Store) : m_p_next_of_k67 [p.obj, tsv xs, .int x] S = .ok (tsv (p.fx x xs)) S := by
  have i : vIsiU [p.obj, .cls "Filter"] S = .ok (.bl true) S := isi_FF _ S
  have st := stepped_ok h hx x S
  refine run_fn ?_
  unfold b_p_next_of_k67 Pt.fx
  generalize tsv (p.step xs x) = D2 at *
  generalize tsv xs = D at *
  simp [start1, List.replicate, i, st]
def pL (f : List Int → List Int) (s : List Int) (k : Nat) : List (List Int × Nat) := (List.range k).map fun i => (it f s i, i)
def dI (f : List Int → List Int) (s : List Int) (k : Nat) : List (PV × PV) := (pL f s k).map fun q => (tsv q.1, PV.int (q.2 : Nat))
theorem pL_keys (f : List Int → List Int) (s : List Int) (k : Nat) : (pL f s k).map (·.1) = orb f s k := by unfold pL orb; rw [List.map_map]; rfl
theorem dI_succ (f : List Int → List Int) (s : List Int) (k : Nat) : dI f s (k + 1) = dI f s k ++ [(tsv (it f s k), .int (k : Nat))] := by unfold dI pL; rw [List.range_succ, List.map_append, List.map_append]; rfl
theorem dI_len (f : List Int → List Int) (s : List Int) (k : Nat) : (dI f s k).length = k := by unfold dI pL; simp
theorem dI_look (f : List Int → List Int) (s : List Int) (k : Nat) (a : List Int) : dLook (dI f s k) (nkS a) = (look a (pL f s k)).map fun i : Nat => PV.int i := dLook_tsv (fun i : Nat => PV.int i) a (pL f s k)
theorem path_ok {p : Pt} (h : p.Ok) {s : List Int} (hs : p.St s) (x : Int) {S : Store} (hS : AllI S) : ∃ n, Stop (p.fx x) s n ∧ n ≤ p.U.length ∧ m_p_path_from [p.obj, tsv s, .int x] S = .ok (.tup [.lst (vss (orb (p.fx x) s n)), .int ((orb (p.fx x) s n).idxOf (it (p.fx x) s n) : Nat)]) S := by
  have ul := U_len h
  obtain ⟨r', S', e, n, st, eS, hr⟩ := sWhile_R (t := t_p_path_from_1) (b := w_p_path_from_1)
    (fun m r S' => ∃ k, m + k = p.U.length ∧ (orb (p.fx x) s k).Nodup ∧ S' = S ++ [.dic (dI (p.fx x) s k) k, .lst (vss (orb (p.fx x) s k))] ∧ Has 5 [(0, p.obj), (1, tsv (it (p.fx x) s k)), (2, .int x), (3, .loc S.length), (4, .loc (S.length + 1))] r)
    (fun r S' => ∃ k, Stop (p.fx x) s k ∧ S' = S ++ [.dic (dI (p.fx x) s k) k, .lst (vss (orb (p.fx x) s k))] ∧ Has 5 [(0, p.obj), (1, tsv (it (p.fx x) s k)), (2, .int x), (3, .loc S.length), (4, .loc (S.length + 1))] r)
    (fun m r S' ⟨k, hm, nd, eS, hr⟩ => by
      have a0 : S'[S.length]? = some (.dic (dI (p.fx x) s k) k) := by rw [eS]; exact c0_at _ _ _
      have a1 : S'[S.length + 1]? = some (.lst (vss (orb (p.fx x) s k))) := by rw [eS]; exact c1_at _ _ _ _
      have g0 := hr.get 0 (v := p.obj)
      have g1 := hr.get 1 (v := tsv (it (p.fx x) s k))
      have g2 := hr.get 2 (v := .int x)
      have g3 := hr.get 3 (v := .loc S.length)
      have g4 := hr.get 4 (v := .loc (S.length + 1))
      have nk := nkOf_tsv (it (p.fx x) s k)
      have iN := vInD_loc a0 nk
      refine ⟨!(dLook (dI (p.fx x) s k) (nkS (it (p.fx x) s k))).isSome, S', ?_, fun ht => ?_, fun hf => ?_⟩
      · unfold t_p_path_from_1
        rw [bVal_ap, eBin_ap, eVar_ap, g1, varK_some, Res.bind_ok, eVar_ap, g3, varK_some, Res.bind_ok, iN]; rfl
      · have ln : dLook (dI (p.fx x) s k) (nkS (it (p.fx x) s k)) = none := by
          cases q : dLook (dI (p.fx x) s k) (nkS (it (p.fx x) s k)) with
          | none => rfl
          | some v => rw [q] at ht; cases ht
        have nm : it (p.fx x) s k ∉ orb (p.fx x) s k := by
          rw [dI_look] at ln
          have : look (it (p.fx x) s k) (pL (p.fx x) s k) = none := by
            cases q : look (it (p.fx x) s k) (pL (p.fx x) s k) with
            | none => rfl
            | some v => rw [q] at ln; cases ln
          rw [← pL_keys]; exact look_none.mp this
        have nd1 : (orb (p.fx x) s (k + 1)).Nodup := by rw [orb_succ]; exact nodup_snoc nd nm
        have kU := orb_U h hs nd1
        have pt := put_new (d := .int (k : Nat)) (r := r) a0 nk ln (by rw [dI_len]; omega)
        rw [eS, c0_set, ← dI_succ, ← eS] at pt
        have ln4 := len_loc a1
        rw [vss_len, orb_len] at ln4
        have a1' : (S ++ [.dic (dI (p.fx x) s (k + 1)) (k + 1), .lst (vss (orb (p.fx x) s k))])[S.length + 1]? = some (.lst (vss (orb (p.fx x) s k))) := c1_at _ _ _ _
        have ap := app_at (d := tsv (it (p.fx x) s k)) a1' (by rw [vss_len, orb_len]; omega)
        rw [c1_set] at ap
        have iT := isT_loc a1'
        have nx := next67_ok h (it_st h hs x k) x (S ++ [.dic (dI (p.fx x) s (k + 1)) (k + 1), .lst (vss (orb (p.fx x) s (k + 1)))])
        have ev : vss (orb (p.fx x) s k) ++ [tsv (it (p.fx x) s k)] = vss (orb (p.fx x) s (k + 1)) := by rw [orb_succ]; unfold vss; rw [List.map_append]; rfl
        rw [ev] at ap
        refine ⟨m - 1, r.set 1 (some (tsv (it (p.fx x) s (k + 1)))), _, by omega, .inl ?_, k + 1, by omega, nd1, rfl, ((hr.sub (l' := [(0, p.obj), (2, .int x), (3, .loc S.length), (4, .loc (S.length + 1))])).put 1 _).sub⟩
        have e1 : sPutC (eVar 3) (eVar 1) (eCB vLen (lCons (eVar 4) lNil)) r S' = .ok (.nx r) (S ++ [.dic (dI (p.fx x) s (k + 1)) (k + 1), .lst (vss (orb (p.fx x) s k))]) := by
          generalize tsv (it (p.fx x) s k) = T1 at *
          generalize dI (p.fx x) s (k + 1) = D1 at *
          generalize vss (orb (p.fx x) s k) = V1 at *
          simp [g1, g3, g4, ln4, pt]
        have e2 : sExpr (eMt "list" vAppend (eVar 4) (lCons (eVar 1) lNil)) r (S ++ [.dic (dI (p.fx x) s (k + 1)) (k + 1), .lst (vss (orb (p.fx x) s k))]) = .ok (.nx r) (S ++ [.dic (dI (p.fx x) s (k + 1)) (k + 1), .lst (vss (orb (p.fx x) s (k + 1)))]) := by
          generalize tsv (it (p.fx x) s k) = T1 at *
          generalize (S ++ [Cell.dic (dI (p.fx x) s (k + 1)) (k + 1), .lst (vss (orb (p.fx x) s k))]) = S1 at *
          simp [g1, g4, iT, ap]
        unfold w_p_path_from_1
        rw [seq_nx e1, seq_nx e2]
        have q : p.fx x (it (p.fx x) s k) = it (p.fx x) s (k + 1) := rfl
        rw [q] at nx
        generalize (S ++ [Cell.dic (dI (p.fx x) s (k + 1)) (k + 1), .lst (vss (orb (p.fx x) s (k + 1)))]) = S1 at *
        generalize tsv (it (p.fx x) s k) = T1 at *
        generalize tsv (it (p.fx x) s (k + 1)) = T2 at *
        generalize p.obj = O at *
        simp [g0, g1, g2, nx]
      · refine ⟨k, ⟨nd, ?_⟩, eS, hr⟩
        rw [dI_look] at hf
        cases q : look (it (p.fx x) s k) (pL (p.fx x) s k) with
        | none => rw [q] at hf; cases hf
        | some v =>
          have := look_mem q
          rw [← pL_keys]; exact List.mem_map.mpr ⟨_, this, rfl⟩) p.U.length
    [some p.obj, some (tsv s), some (.int x), some (.loc S.length), some (.loc (S.length + 1))] (S ++ [.dic [] 0, .lst []]) ⟨0, rfl, List.nodup_nil, rfl, rfl, by simp [it]⟩
  have g1 := hr.get 1 (v := tsv (it (p.fx x) s n))
  have g3 := hr.get 3 (v := .loc S.length)
  have g4 := hr.get 4 (v := .loc (S.length + 1))
  have a0 : S'[S.length]? = some (.dic (dI (p.fx x) s n) n) := by rw [eS]; exact c0_at _ _ _
  have a1 : S'[S.length + 1]? = some (.lst (vss (orb (p.fx x) s n))) := by rw [eS]; exact c1_at _ _ _ _
  obtain ⟨i, hi, ei⟩ := orb_mem.mp st.2
  have ix := idx_at st.1 hi
  rw [ei] at ix
  have lk : dLook (dI (p.fx x) s n) (nkS (it (p.fx x) s n)) = some (.int (i : Nat)) := by
    rw [dI_look]
    cases q : look (it (p.fx x) s n) (pL (p.fx x) s n) with
    | none =>
      have := look_none.mp q
      rw [pL_keys] at this
      exact absurd st.2 this
    | some v =>
      have m := look_mem q
      unfold pL at m
      obtain ⟨j, hj, e⟩ := List.mem_map.mp m
      injection e with e1 e2
      subst e2
      have := orb_inj st.1 (by simpa using hj) hi (e1.trans ei.symm)
      subst this; rfl
  have vx := vIxC_loc a0 (nkOf_tsv _) lk
  refine ⟨n, st, orb_U h hs st.1, ?_⟩
  rw [ix]
  refine fn_own (d := .tup [.loc (S.length + 1), .int (i : Nat)]) (T := [.dic (dI (p.fx x) s n) n, .lst (vss (orb (p.fx x) s n))]) ?_ (allI_small hS _) ?_ (fun z => by cases z)
  · rw [← eS]
    unfold b_p_path_from
    have e0 : sPar 3 4 (lCons eCelD (lCons (eCell (lDis lNil)) lNil)) (start1 5 [p.obj, tsv s, .int x]) S = .ok (.nx [some p.obj, some (tsv s), some (.int x), some (.loc S.length), some (.loc (S.length + 1))]) (S ++ [.dic [] 0, .lst []]) := by
      generalize p.obj = O
      generalize tsv s = X
      simp [start1, List.replicate]
    have e' : l_p_path_from_1 [some p.obj, some (tsv s), some (.int x), some (.loc S.length), some (.loc (S.length + 1))] (S ++ [.dic [] 0, .lst []]) = .ok (.nx r') S' := e
    rw [seq_nx e0, seq_nx e']
    have z2 : 2 ≤ sizeLine := seq_le (by decide)
    generalize tsv (it (p.fx x) s n) = T1 at *
    simp [g1, g3, g4, vx, z2]
  · rw [← eS]
    have f1 : frz S.length S' (.loc (S.length + 1)) = some (.lst (vss (orb (p.fx x) s n))) := by
      unfold frz
      rw [if_neg (by omega), a1]
      show (if smalls S.length (vss (orb (p.fx x) s n)) = true then some (PV.lst (vss (orb (p.fx x) s n))) else none) = _
      rw [if_pos (show smalls S.length (vss (orb (p.fx x) s n)) = true from small_tsv _ _)]
    unfold frz
    have f2 : frzs S.length S' [.loc (S.length + 1), .int (i : Nat)] = some [.lst (vss (orb (p.fx x) s n)), .int (i : Nat)] := by
      unfold frzs; rw [f1]
      unfold frzs frz frzs; rfl
    rw [f2]; rfl
theorem drop_ne {α : Type} {xs : List α} {i : Nat} (h : i < xs.length) : xs.drop i ≠ [] := fun e => by
  have := congrArg List.length e
  rw [List.length_drop] at this; simp at this; omega
def tail (f : List Int → List Int) (s : List Int) (n : Nat) : List (List Int) := (orb f s n).drop ((orb f s n).idxOf (it f s n))
theorem tail_ne {f : List Int → List Int} {s : List Int} {n : Nat} (h : Stop f s n) : tail f s n ≠ [] := drop_ne (by rw [orb_len]; exact h.cyc.1)
theorem tail_len {f : List Int → List Int} {s : List Int} {n : Nat} : (tail f s n).length ≤ n := by unfold tail; rw [List.length_drop, orb_len]; omega
theorem tail_rg {f : List Int → List Int} {s : List Int} {n : Nat} (h : Stop f s n) : ∃ k m, rotm (tail f s n) = orb f (it f s k) m ∧ Rg f (it f s k) m := by
  obtain ⟨_, c, e⟩ := h.cyc
  obtain ⟨k, e2, g⟩ := c.rotm
  refine ⟨n + k, n - (orb f s n).idxOf (it f s n), ?_, ?_⟩
  · unfold tail; rw [e, e2, ← it_add]
  · rw [it_add]; exact g
end Hl
namespace Hl
open PySem L2 Dn PySem.W PyProof.Rows
theorem lay_ints : ∀ a : List Int, PyData.canLayAll0 (a.map PyData.int) = true
  | [] => by simp [PyData.canLayAll0]
  | x :: xs => by simp [PyData.canLayAll0, PyData.canLay0, lay_ints xs]
theorem lay_pdts (a : List Int) : (pdts a).canLay0 = true := by unfold pdts; simp only [PyData.canLay0]; exact lay_ints a
theorem lay_all : ∀ ss : List (List Int), PyData.canLayAll0 (ss.map pdts) = true
  | [] => by simp [PyData.canLayAll0]
  | s :: ss => by simp [PyData.canLayAll0, lay_pdts, lay_all ss]
theorem dep_all : ∀ ss : List (List Int), PyData.depthAll (ss.map pdts) ≤ 2
  | [] => by simp [PyData.depthAll]
  | s :: ss => by
    have h1 := pdts_depth s
    have h2 := dep_all ss
    simp only [List.map_cons, PyData.depthAll]; omega
theorem sh_pdts (a : List Int) : SeqAt.shaped (pdts a) = true := by
  have h := pdts_depth a
  unfold SeqAt.shaped
  rw [lay_pdts, Bool.true_and, decide_eq_true_eq]; omega
theorem sh_lst (ss : List (List Int)) : SeqAt.shaped (.list (ss.map pdts)) = true := by
  have h := dep_all ss
  unfold SeqAt.shaped
  simp only [PyData.canLay0, lay_all, Bool.true_and, PyData.depth]; exact decide_eq_true (Nat.le_trans (Nat.add_le_add_right h 1) (show 2 + 1 ≤ 64 by decide))
theorem d0s_vss : ∀ ss : List (List Int), data0s (vss ss) = some (ss.map pdts)
  | [] => rfl
  | s :: ss => by
    have ih := d0s_vss ss
    unfold vss at ih ⊢
    simp [data0s, tsv_pd, ih]
theorem d0_tup (ss : List (List Int)) : data0 (.tup (vss ss)) = some (.tuple (ss.map pdts)) := by simp [data0, d0s_vss]
theorem eq_ts (a b : List Int) (S : Store) : vEq (tsv a) (tsv b) S = .ok (.bl (decide (a = b))) S := by
  have h1 : dataOf S (tsv a) = some (pdts a) := tsv_pd a
  have h2 : dataOf S (tsv b) = some (pdts b) := tsv_pd b
  unfold vEq
  rw [show strs? (tsv a) (tsv b) = none from rfl]
  show vEq0 _ _ S = _
  unfold vEq0
  rw [h1, h2]
  show (if SeqAt.shaped (pdts a) = true ∧ SeqAt.shaped (pdts b) = true then Res.ok (PV.bl (PyData.eqv (pdts a) (pdts b))) S else .bad) = _
  rw [if_pos ⟨sh_pdts a, sh_pdts b⟩]
  unfold pdts
  simp only [PyData.eqv, eqv_ints]
theorem ne_loc_none {S : Store} {k : Nat} {a : List (List Int)} (e : S[k]? = some (.lst (vss a))) : vNe (.loc k) (.lst []) S = .ok (.bl (decide (a ≠ []))) S := by
  have l : lstOf S (.loc k) = some (vss a) := by simp [lstOf, e]
  have h1 : dataOf S (.loc k) = some (.list (a.map pdts)) := by unfold Dn.dataOf; rw [l]; simp [d0s_vss]
  unfold vNe
  rw [show strs? (.loc k) (.lst []) = none from rfl]
  show vNe0 _ _ S = _
  unfold vNe0
  rw [h1]
  show (if SeqAt.shaped (.list (a.map pdts)) = true ∧ SeqAt.shaped (.list []) = true then Res.ok (PV.bl (!PyData.eqv (.list (a.map pdts)) (.list []))) S else .bad) = _
  rw [if_pos ⟨sh_lst a, sh_lst []⟩]
  cases a <;> simp [PyData.eqv, PyData.eqvAll]
def rV (r : List (List Int)) : PV := .tup (vss r)
def dL2 (L : List (List Int × List Int)) : List (PV × PV) := L.map fun q => (tsv q.1, tsv q.2)
theorem dL2_look (L : List (List Int × List Int)) (a : List Int) : dLook (dL2 L) (nkS a) = (look a L).map tsv := dLook_tsv tsv a L
def Pt.GoodR (p : Pt) (x : Int) (r : List (List Int)) : Prop := ∃ m n, p.St m ∧ Rg (p.fx x) m n ∧ r = orb (p.fx x) m n
def ext (f : List Int → List Int) (L : List (List Int × List Int)) (u : List Int) (k : Nat) : List (List Int × List Int) := L ++ (orb f u k).map fun a => (a, u)
theorem ext_keys (f : List Int → List Int) (L : List (List Int × List Int)) (u : List Int) (k : Nat) : (ext f L u k).map (·.1) = L.map (·.1) ++ orb f u k := by
  unfold ext; rw [List.map_append, List.map_map]
  congr 1
  exact List.map_id _
theorem ext_succ (f : List Int → List Int) (L : List (List Int × List Int)) (u : List Int) (k : Nat) : dL2 (ext f L u (k + 1)) = dL2 (ext f L u k) ++ [(tsv (it f u k), tsv u)] := by
  unfold dL2 ext; rw [orb_succ]; simp
theorem ext_len (f : List Int → List Int) (L : List (List Int × List Int)) (u : List Int) (k : Nat) : (ext f L u k).length = L.length + k := by unfold ext; simp [orb_len]
structure GoodL (p : Pt) (L : List (List Int × List Int)) : Prop where
  nd : (L.map (·.1)).Nodup
  st : ∀ a ∈ L.map (·.1), p.St a
  val : ∀ q ∈ L, q.2 ∈ L.map (·.1)
theorem GoodL.len {p : Pt} (h : p.Ok) {L : List (List Int × List Int)} (g : GoodL p L) : L.length ≤ p.U.length := by
  have := nodup_sub g.nd (ys := p.U) fun a ha => (U_mem h).mpr (g.st a ha)
  rwa [List.length_map] at this
theorem GoodL.ext {p : Pt} (h : p.Ok) {x : Int} {L : List (List Int × List Int)} (g : GoodL p L) {u : List Int} (hu : p.St u) {k : Nat} (nd : ((ext (p.fx x) L u k).map (·.1)).Nodup) : GoodL p (Hl.ext (p.fx x) L u k) := by
  refine ⟨nd, fun a ha => ?_, fun q hq => ?_⟩
  · rw [ext_keys] at ha
    rcases List.mem_append.mp ha with m | m
    · exact g.st a m
    · obtain ⟨i, _, rfl⟩ := orb_mem.mp m
      exact it_st h hu x i
  · rw [ext_keys]
    unfold Hl.ext at hq
    rcases List.mem_append.mp hq with m | m
    · exact List.mem_append_left _ (g.val q m)
    · obtain ⟨a, ha, rfl⟩ := List.mem_map.mp m
      obtain ⟨i, hi, _⟩ := orb_mem.mp ha
      exact List.mem_append_right _ (orb_mem.mpr ⟨0, by omega, rfl⟩)
theorem rings_in {p : Pt} (h : p.Ok) {x : Int} {L : List (List Int × List Int)} (g : GoodL p L) {u : List Int} (hu : p.St u) (S T : Store) (c : Cell) (ep : Nat) {r : Env1} (hr : Has 7 [(0, p.pv), (1, .int x), (2, .loc S.length), (3, .loc (S.length + 1)), (4, tsv u), (5, tsv u), (6, .loc (S.length + 2 + T.length))] r) :
    ∃ k r', l_rings_1 r (S ++ c :: .dic (dL2 L) ep :: (T ++ [.lst []])) = .ok (.nx r') (S ++ c :: .dic (dL2 (ext (p.fx x) L u k)) (ep + k) :: (T ++ [.lst (vss (orb (p.fx x) u k))])) ∧ ((ext (p.fx x) L u k).map (·.1)).Nodup ∧ it (p.fx x) u k ∈ (ext (p.fx x) L u k).map (·.1) ∧
      Has 7 [(0, p.pv), (1, .int x), (2, .loc S.length), (3, .loc (S.length + 1)), (4, tsv u), (5, tsv (it (p.fx x) u k)), (6, .loc (S.length + 2 + T.length))] r' := by
  have ul := U_len h
  obtain ⟨r', S', e, k, nd, hk, eS, hr'⟩ := sWhile_R (t := t_rings_1) (b := w_rings_1)
    (fun m r S' => ∃ k, m + (L.length + k) = p.U.length ∧ ((ext (p.fx x) L u k).map (·.1)).Nodup ∧ S' = S ++ c :: .dic (dL2 (ext (p.fx x) L u k)) (ep + k) :: (T ++ [.lst (vss (orb (p.fx x) u k))]) ∧ Has 7 [(0, p.pv), (1, .int x), (2, .loc S.length), (3, .loc (S.length + 1)), (4, tsv u), (5, tsv (it (p.fx x) u k)), (6, .loc (S.length + 2 + T.length))] r)
    (fun r S' => ∃ k, ((ext (p.fx x) L u k).map (·.1)).Nodup ∧ it (p.fx x) u k ∈ (ext (p.fx x) L u k).map (·.1) ∧ S' = S ++ c :: .dic (dL2 (ext (p.fx x) L u k)) (ep + k) :: (T ++ [.lst (vss (orb (p.fx x) u k))]) ∧ Has 7 [(0, p.pv), (1, .int x), (2, .loc S.length), (3, .loc (S.length + 1)), (4, tsv u), (5, tsv (it (p.fx x) u k)), (6, .loc (S.length + 2 + T.length))] r)
    (fun m r S' ⟨k, hm, nd, eS, hr⟩ => by
      have a1 : S'[S.length + 1]? = some (.dic (dL2 (ext (p.fx x) L u k)) (ep + k)) := by rw [eS]; exact c1_at _ _ _ _
      have a2 : S'[S.length + 2 + T.length]? = some (.lst (vss (orb (p.fx x) u k))) := by rw [eS]; exact c2_at _ _ _ _ _
      have g0 := hr.get 0 (v := p.pv)
      have g1 := hr.get 1 (v := .int x)
      have g3 := hr.get 3 (v := .loc (S.length + 1))
      have g4 := hr.get 4 (v := tsv u)
      have g5 := hr.get 5 (v := tsv (it (p.fx x) u k))
      have g6 := hr.get 6 (v := .loc (S.length + 2 + T.length))
      have nk := nkOf_tsv (it (p.fx x) u k)
      have iN := vInD_loc a1 nk
      rw [dL2_look] at iN
      refine ⟨!((look (it (p.fx x) u k) (ext (p.fx x) L u k)).map tsv).isSome, S', ?_, fun ht => ?_, fun hf => ?_⟩
      · unfold t_rings_1
        rw [bVal_ap, eBin_ap, eVar_ap, g5, varK_some, Res.bind_ok, eVar_ap, g3, varK_some, Res.bind_ok, iN]; rfl
      · have ln : look (it (p.fx x) u k) (ext (p.fx x) L u k) = none := by
          cases q : look (it (p.fx x) u k) (ext (p.fx x) L u k) with
          | none => rfl
          | some v => rw [q] at ht; cases ht
        have nm := look_none.mp ln
        have nd1 : ((ext (p.fx x) L u (k + 1)).map (·.1)).Nodup := by
          rw [ext_keys, orb_succ, ← List.append_assoc, ← ext_keys]; exact nodup_snoc nd nm
        have kU := (g.ext h hu nd1).len h
        rw [ext_len] at kU
        have ld : dLook (dL2 (ext (p.fx x) L u k)) (nkS (it (p.fx x) u k)) = none := by rw [dL2_look, ln]; rfl
        have pt := put_new (d := tsv u) (r := r) a1 nk ld (by unfold dL2; rw [List.length_map, ext_len]; omega)
        rw [eS, c1_set, ← ext_succ, ← eS] at pt
        have a2' : (S ++ c :: .dic (dL2 (ext (p.fx x) L u (k + 1))) (ep + k + 1) :: (T ++ [.lst (vss (orb (p.fx x) u k))]))[S.length + 2 + T.length]? = some (.lst (vss (orb (p.fx x) u k))) := c2_at _ _ _ _ _
        have ap := app_at (d := tsv (it (p.fx x) u k)) a2' (by rw [vss_len, orb_len]; omega)
        rw [c2_set] at ap
        have iT := isT_loc a2'
        have nx := step3_ok h (it_st h hu x k) x (S ++ c :: .dic (dL2 (ext (p.fx x) L u (k + 1))) (ep + k + 1) :: (T ++ [.lst (vss (orb (p.fx x) u (k + 1)))]))
        have ev : vss (orb (p.fx x) u k) ++ [tsv (it (p.fx x) u k)] = vss (orb (p.fx x) u (k + 1)) := by rw [orb_succ]; unfold vss; rw [List.map_append]; rfl
        rw [ev] at ap
        refine ⟨m - 1, r.set 5 (some (tsv (it (p.fx x) u (k + 1)))), _, by omega, .inl ?_, k + 1, by omega, nd1, rfl, ((hr.sub (l' := [(0, p.pv), (1, .int x), (2, .loc S.length), (3, .loc (S.length + 1)), (4, tsv u), (6, .loc (S.length + 2 + T.length))])).put 5 _).sub⟩
        have e1 : sPutC (eVar 3) (eVar 5) (eVar 4) r S' = .ok (.nx r) (S ++ c :: .dic (dL2 (ext (p.fx x) L u (k + 1))) (ep + k + 1) :: (T ++ [.lst (vss (orb (p.fx x) u k))])) := by
          generalize tsv (it (p.fx x) u k) = T1 at *
          generalize tsv u = T2 at *
          generalize (S ++ c :: Cell.dic (dL2 (ext (p.fx x) L u (k + 1))) (ep + k + 1) :: (T ++ [.lst (vss (orb (p.fx x) u k))])) = S1 at *
          simp [g3, g4, g5, pt]
        have e2 : sExpr (eMt "list" vAppend (eVar 6) (lCons (eVar 5) lNil)) r (S ++ c :: .dic (dL2 (ext (p.fx x) L u (k + 1))) (ep + k + 1) :: (T ++ [.lst (vss (orb (p.fx x) u k))])) = .ok (.nx r) (S ++ c :: .dic (dL2 (ext (p.fx x) L u (k + 1))) (ep + k + 1) :: (T ++ [.lst (vss (orb (p.fx x) u (k + 1)))])) := by
          generalize tsv (it (p.fx x) u k) = T1 at *
          generalize (S ++ c :: Cell.dic (dL2 (ext (p.fx x) L u (k + 1))) (ep + k + 1) :: (T ++ [.lst (vss (orb (p.fx x) u k))])) = S1 at *
          simp [g5, g6, iT, ap]
        unfold w_rings_1
        rw [seq_nx e1, seq_nx e2]
        have q : p.step (it (p.fx x) u k) x = it (p.fx x) u (k + 1) := rfl
        rw [q] at nx
        rw [show ep + (k + 1) = ep + k + 1 by omega]
        generalize (S ++ c :: Cell.dic (dL2 (ext (p.fx x) L u (k + 1))) (ep + k + 1) :: (T ++ [.lst (vss (orb (p.fx x) u (k + 1)))])) = S1 at *
        generalize tsv (it (p.fx x) u k) = T1 at *
        generalize tsv (it (p.fx x) u (k + 1)) = T2 at *
        generalize p.pv = O at *
        simp [g0, g1, g5, nx]
      · refine ⟨k, nd, ?_, eS, hr⟩
        cases q : look (it (p.fx x) u k) (ext (p.fx x) L u k) with
        | none => rw [q] at hf; cases hf
        | some v => exact List.mem_map.mpr ⟨_, look_mem q, rfl⟩) (p.U.length - L.length) r (S ++ c :: .dic (dL2 L) ep :: (T ++ [.lst []])) ⟨0, by have := g.len h; omega, by rw [ext_keys]; simpa [orb] using g.nd, by unfold ext; simp [orb, vss], hr⟩
  exact ⟨k, r', by rw [← eS]; exact e, nd, hk, hr'⟩
end Hl
namespace Hl
open PySem L2 Dn PySem.W PyProof.Rows
theorem rot_ne {p : Pt} {x : Int} {r : List (List Int)} (h : p.GoodR x r) : r ≠ [] := by
  obtain ⟨m, n, _, g, rfl⟩ := h
  intro e
  have := orb_len (p.fx x) m n
  rw [e] at this
  have := g.cyc.pos
  simp at *; omega
theorem tkd_rV (r : List (List Int)) : tkd (rV r) = true := by
  have h : data0 (rV r) = some (.tuple (r.map pdts)) := d0_tup r
  have d := dep_all r
  have t : tks (r.map pdts) = true := by
    clear h d
    induction r with
    | nil => simp [tks]
    | cons s ss ih => simp only [List.map_cons, tks, ih, Bool.and_true]; unfold pdts; simp only [tk]; exact tks_ints s
  unfold tkd; rw [h]
  simp only [tk, t, Bool.true_and, PyData.depth]
  exact decide_eq_true (Nat.le_trans (Nat.add_le_add_right d 1) (show 2 + 1 ≤ 6 by decide))
theorem dat_rV (r : List (List Int)) : dat (rV r) = .tuple (r.map pdts) := by
  have : data0 (rV r) = some (.tuple (r.map pdts)) := d0_tup r
  unfold dat; rw [this]; rfl
theorem alike_pdts : ∀ a b : List (List Int), alikeAll (a.map pdts) (b.map pdts) = true
  | [], _ => by simp [alikeAll]
  | x :: xs, [] => by simp [alikeAll]
  | x :: xs, y :: ys => by
    have h : alike (pdts x) (pdts y) = true := by unfold pdts; simp only [alike]; exact alike_ints x y
    simp [alikeAll, h, alike_pdts xs ys]
def unI : PV → Int
  | .int i => i
  | _ => 0
def unS : PV → List Int
  | .tup xs => xs.map unI
  | _ => []
def unR : PV → List (List Int)
  | .tup xs => xs.map unS
  | _ => []
theorem unS_tsv (s : List Int) : unS (tsv s) = s := by
  show (s.map PV.int).map unI = s
  rw [List.map_map]; exact List.map_id _
theorem unR_rV (r : List (List Int)) : unR (rV r) = r := by
  show (r.map tsv).map unS = r
  rw [List.map_map]
  have : (unS ∘ tsv) = id := by funext s; exact unS_tsv s
  rw [this]; exact List.map_id _
noncomputable def srt (F : List (List (List Int))) : List (List (List Int)) := (pSort (F.map rV)).map unR
theorem srt_map (F : List (List (List Int))) : (srt F).map rV = pSort (F.map rV) := by
  unfold srt
  rw [List.map_map]
  have : ∀ d ∈ pSort (F.map rV), (rV ∘ unR) d = d := fun d hd => by
    have : d ∈ F.map rV := (List.mergeSort_perm (F.map rV) _).mem_iff.mp hd
    obtain ⟨r, _, rfl⟩ := List.mem_map.mp this
    show rV (unR (rV r)) = _
    rw [unR_rV]
  rw [List.map_congr_left this]; exact List.map_id _
theorem srt_perm (F : List (List (List Int))) : (srt F).Perm F := by
  have h := (List.mergeSort_perm (F.map rV) (PySem.W.dataLe false dat)).map unR
  have e : (F.map rV).map unR = F := by
    rw [List.map_map]
    have : (unR ∘ rV) = id := by funext r; exact unR_rV r
    rw [this]; exact List.map_id _
  rw [e] at h
  exact h
theorem sortR_ok {F : List (List (List Int))} (hF : ∀ r ∈ F, r ≠ []) {S : Store} {k : Nat} (e : S[k]? = some (.lst (F.map rV))) : vSorted [.loc k] S = .ok (.lst ((srt F).map rV)) S := by
  have l : lstOf S (.loc k) = some (F.map rV) := by simp [lstOf, e]
  have c : (tkds (F.map rV) = true ∧ alikes (F.map rV) = true) ∧ rows (F.map rV) = true := by
    refine ⟨⟨List.all_eq_true.mpr fun d hd => ?_, List.all_eq_true.mpr fun a ha => List.all_eq_true.mpr fun b hb => ?_⟩, List.all_eq_true.mpr fun d hd => ?_⟩
    · obtain ⟨r, _, rfl⟩ := List.mem_map.mp hd
      exact tkd_rV r
    · obtain ⟨r, _, rfl⟩ := List.mem_map.mp ha
      obtain ⟨q, _, rfl⟩ := List.mem_map.mp hb
      rw [dat_rV, dat_rV]
      simp only [alike]; exact alike_pdts r q
    · obtain ⟨r, hr, rfl⟩ := List.mem_map.mp hd
      rw [dat_rV]
      have := hF r hr
      cases r with
      | nil => exact absurd rfl this
      | cons a b => rfl
  rw [srt_map]
  show (match lstOf S (.loc k) with
      | some xs => if (tkds xs = true ∧ alikes xs = true) ∧ rows xs = true then Res.ok (PV.lst (pSort xs)) S else .bad
      | none => .bad) = _
  rw [l]
  exact if_pos c
def Turn (f : List Int → List Int) (F : List (List (List Int))) (L : List (List Int × List Int)) (u : List Int) (F' : List (List (List Int))) (L' : List (List Int × List Int)) : Prop :=
  ∃ k, ((ext f L u k).map (·.1)).Nodup ∧ it f u k ∈ (ext f L u k).map (·.1) ∧ L' = ext f L u k ∧ (orb f u k ≠ [] ∧ look (it f u k) L' = some u ∧ F' = F ++ [rotm (tail f u k)] ∨ ¬ (orb f u k ≠ [] ∧ look (it f u k) L' = some u) ∧ F' = F)
inductive Scan (f : List Int → List Int) : List (List Int) → List (List (List Int)) → List (List Int × List Int) → Prop where
  | nil : Scan f [] [] []
  | snoc {us F L u F' L'} : Scan f us F L → Turn f F L u F' L' → Scan f (us ++ [u]) F' L'
theorem small_rV (n : Nat) : ∀ G : List (List (List Int)), smalls n (G.map rV) = true
  | [] => rfl
  | r :: G => by
    have h : smalls n (vss r) = true := small_tsv n r
    simp [smalls, small, rV, h, small_rV n G]
theorem rings_scan {p : Pt} (h : p.Ok) (x : Int) {S : Store} (hS : AllI S) : ∃ F L, Scan (p.fx x) p.U F L ∧ (∀ r ∈ F, p.GoodR x r) ∧ GoodL p L ∧ m_rings [p.pv, .int x] S = .ok (.lst ((srt F).map rV)) S := by
  have ul := U_len h
  obtain ⟨r', S', e, F, L, ep, T, eS, hr, hF, fl, gL, sc⟩ := sFor_inv (g := gNm 4) (b := w_rings_2) (it := iVal (eCallN 1 m_states [] (lCons (eVar 0) lNil))) (r := [some p.pv, some (.int x), some (.loc S.length), some (.loc (S.length + 1)), none, none, none]) (S := S ++ [.lst [], .dic [] 0]) (S1 := S ++ [.lst [], .dic [] 0]) (ds := vss p.U)
    (by
      have s := allst_ok h (S ++ [.lst [], .dic [] 0])
      unfold Pt.U
      generalize p.pv = O at *
      generalize vss (spn p.h p.ts.length) = V at *
      simp [s])
    (fun i r S' => ∃ (F : List (List (List Int))) (L : List (List Int × List Int)) (ep : Nat) (T : Store), S' = S ++ .lst (F.map rV) :: .dic (dL2 L) ep :: T ∧ Has 7 [(0, p.pv), (1, .int x), (2, .loc S.length), (3, .loc (S.length + 1))] r ∧ (∀ r ∈ F, p.GoodR x r) ∧ F.length ≤ i ∧ GoodL p L ∧ Scan (p.fx x) (p.U.take i) F L)
    ⟨[], [], 0, [], rfl, ⟨rfl, by simp⟩, nofun, Nat.zero_le _, ⟨List.nodup_nil, nofun, nofun⟩, .nil⟩ (fun i d hd r S' ⟨F, L, ep, T, eS, hr, hF, fl, gL, sc⟩ => by
      unfold vss at hd
      rw [List.getElem?_map] at hd
      cases hx : p.U[i]? with
      | none => rw [hx] at hd; cases hd
      | some u =>
        rw [hx] at hd; cases hd
        have iU := (List.getElem?_eq_some_iff.mp hx).1
        have hu : p.St u := (U_mem h).mp (List.mem_of_getElem? hx)
        have tk : p.U.take (i + 1) = p.U.take i ++ [u] := by rw [List.take_succ, hx]; rfl
        have hr4 := hr.put 4 (tsv u)
        have q4 := hr4.get 4 (v := tsv u)
        have eL : S'.length = S.length + 2 + T.length := by rw [eS]; simp; omega
        have e0 : sPar 5 6 (lCons (eVar 4) (lCons (eCell (lDis lNil)) lNil)) (r.set 4 (some (tsv u))) S' = .ok (.nx (((r.set 4 (some (tsv u))).set 5 (some (tsv u))).set 6 (some (.loc S'.length)))) (S' ++ [.lst []]) := by
          generalize tsv u = X at *
          generalize r.set 4 (some X) = r4 at *
          simp [q4]
        rw [eL] at e0
        have hr6 := (hr4.put 5 (tsv u)).put 6 (.loc (S.length + 2 + T.length))
        obtain ⟨k, r2, e1, nd, hk, hr2⟩ := rings_in h gL hu (x := x) S T (.lst (F.map rV)) ep (r := ((r.set 4 (some (tsv u))).set 5 (some (tsv u))).set 6 (some (.loc (S.length + 2 + T.length)))) hr6.sub
        have eS1 : S' ++ [.lst []] = S ++ .lst (F.map rV) :: .dic (dL2 L) ep :: (T ++ [.lst []]) := by rw [eS]; simp
        rw [eS1] at e0
        have g2 := hr2.get 2 (v := .loc S.length)
        have g3 := hr2.get 3 (v := .loc (S.length + 1))
        have g4 := hr2.get 4 (v := tsv u)
        have g5 := hr2.get 5 (v := tsv (it (p.fx x) u k))
        have g6 := hr2.get 6 (v := .loc (S.length + 2 + T.length))
        have gX := gL.ext h hu nd
        have kU := gX.len h
        rw [ext_len] at kU
        obtain ⟨S2, hS2⟩ : ∃ S2, S2 = S ++ .lst (F.map rV) :: .dic (dL2 (ext (p.fx x) L u k)) (ep + k) :: (T ++ [.lst (vss (orb (p.fx x) u k))]) := ⟨_, rfl⟩
        rw [← hS2] at e1
        have b0 : S2[S.length]? = some (.lst (F.map rV)) := by rw [hS2]; exact c0_at _ _ _
        have b1 : S2[S.length + 1]? = some (.dic (dL2 (ext (p.fx x) L u k)) (ep + k)) := by rw [hS2]; exact c1_at _ _ _ _
        have b2 : S2[S.length + 2 + T.length]? = some (.lst (vss (orb (p.fx x) u k))) := by rw [hS2]; exact c2_at _ _ _ _ _
        have n0 := ne_loc_none b2
        have skip : (∀ (v : List Int), look (it (p.fx x) u k) (ext (p.fx x) L u k) = some v → ¬ (orb (p.fx x) u k ≠ [] ∧ v = u)) → ∀ rr : Env1, Has 7 [(0, p.pv), (1, .int x), (2, .loc S.length), (3, .loc (S.length + 1)), (4, tsv u), (5, tsv (it (p.fx x) u k)), (6, .loc (S.length + 2 + T.length))] rr → ∃ (F' : List (List (List Int))) (L' : List (List Int × List Int)) (ep' : Nat) (T' : Store), S2 = S ++ .lst (F'.map rV) :: .dic (dL2 L') ep' :: T' ∧ Has 7 [(0, p.pv), (1, .int x), (2, .loc S.length), (3, .loc (S.length + 1))] rr ∧ (∀ r ∈ F', p.GoodR x r) ∧ F'.length ≤ i + 1 ∧ GoodL p L' ∧ Scan (p.fx x) (p.U.take (i + 1)) F' L' := fun hno rr hh =>
          ⟨F, ext (p.fx x) L u k, ep + k, T ++ [.lst (vss (orb (p.fx x) u k))], hS2, hh.sub, hF, by omega, gX, by rw [tk]; exact sc.snoc ⟨k, nd, hk, rfl, .inr ⟨fun z => hno u z.2 ⟨z.1, rfl⟩, rfl⟩⟩⟩
        have lk : ∃ v, look (it (p.fx x) u k) (ext (p.fx x) L u k) = some v := by
          cases q : look (it (p.fx x) u k) (ext (p.fx x) L u k) with
          | none => exact absurd hk (look_none.mp q)
          | some v => exact ⟨v, rfl⟩
        obtain ⟨v, lk⟩ := lk
        have vx := vIxC_loc b1 (nkOf_tsv (it (p.fx x) u k)) (d := tsv v) (by rw [dL2_look, lk]; rfl)
        have ev := eq_ts v u S2
        have cond : bAnd (bVal (eBin vNe (eVar 6) (eLst lNil))) (bVal (eBin vEq (eBin vIxC (eVar 3) (eVar 5)) (eVar 4))) r2 S2 = .ok (decide (orb (p.fx x) u k ≠ []) && decide (v = u)) S2 := by
          have z0 : 0 ≤ sizeLine := Nat.zero_le _
          generalize tsv (it (p.fx x) u k) = T1 at *
          generalize tsv u = T2 at *
          generalize tsv v = T3 at *
          by_cases c1 : orb (p.fx x) u k = []
          · simp [g6, n0, c1]
          · simp [g6, n0, c1, g3, g5, vx, g4, ev]
        by_cases c1 : orb (p.fx x) u k ≠ [] ∧ v = u
        · have k0 : 0 < k := by
            rcases Nat.eq_zero_or_pos k with z | z
            · subst z; exact absurd rfl c1.1
            · exact z
          have mk : it (p.fx x) u k ∈ orb (p.fx x) u k := by
            have m := look_mem lk
            unfold ext at m
            rcases List.mem_append.mp m with m | m
            · have := gL.val _ m
              rw [c1.2] at this
              rw [ext_keys, List.nodup_append] at nd
              exact absurd rfl (nd.2.2 u this u (orb_mem.mpr ⟨0, k0, rfl⟩))
            · obtain ⟨a, ha, e⟩ := List.mem_map.mp m
              injection e with e1 e2
              rw [← e1]; exact ha
          have nk : (orb (p.fx x) u k).Nodup := by rw [ext_keys, List.nodup_append] at nd; exact nd.2.1
          have st : Stop (p.fx x) u k := ⟨nk, mk⟩
          have ix := vIndexA_loc b2 mk
          have iT := isT_loc b2
          have iT0 := isT_loc b0
          have sl := sl_loc_from b2 ((orb (p.fx x) u k).idxOf (it (p.fx x) u k)) (by rw [orb_len]; have := st.cyc.1; omega)
          have le := least_ok (tail_ne st) (by have := tail_len (f := p.fx x) (s := u) (n := k); omega) S2
          obtain ⟨j, n, e5, g5r⟩ := tail_rg st
          have ap := app_at (d := rV (rotm (tail (p.fx x) u k))) b0 (by rw [List.length_map]; omega)
          rw [hS2, c0_set, ← hS2, ← List.map_singleton, ← List.map_append] at ap
          obtain ⟨W, hW⟩ : ∃ W, W = S ++ .lst ((F ++ [rotm (tail (p.fx x) u k)]).map rV) :: .dic (dL2 (ext (p.fx x) L u k)) (ep + k) :: (T ++ [.lst (vss (orb (p.fx x) u k))]) := ⟨_, rfl⟩
          rw [← hW] at ap
          replace ap : vAppend (.loc S.length) [.tup (vss (rotm (tail (p.fx x) u k)))] S2 = .ok .non W := ap
          refine ⟨_, r2, W, rfl, .inl ?_, F ++ [rotm (tail (p.fx x) u k)], ext (p.fx x) L u k, ep + k, T ++ [.lst (vss (orb (p.fx x) u k))], hW, hr2.sub, fun q hq => ?_, by rw [List.length_append]; simp; omega, gX, by rw [tk]; exact sc.snoc ⟨k, nd, hk, rfl, .inl ⟨c1.1, by rw [lk, c1.2], rfl⟩⟩⟩
          · unfold w_rings_2
            rw [seq_nx e0, seq_nx e1]
            have cond' : bAnd (bVal (eBin vNe (eVar 6) (eLst lNil))) (bVal (eBin vEq (eBin vIxC (eVar 3) (eVar 5)) (eVar 4))) r2 S2 = .ok true S2 := by
              rw [cond]; simp [c1.1, c1.2]
            rw [sIf_ap, cond', Res.bind_ok, if_pos rfl]
            unfold tail at le ap
            generalize vss (rotm ((orb (p.fx x) u k).drop ((orb (p.fx x) u k).idxOf (it (p.fx x) u k)))) = R at *
            generalize vss ((orb (p.fx x) u k).drop ((orb (p.fx x) u k).idxOf (it (p.fx x) u k))) = A at *
            generalize tsv (it (p.fx x) u k) = T1 at *
            simp [g2, g5, g6, iT, iT0, ix, sl, le, ap]
          · rcases List.mem_append.mp hq with m | m
            · exact hF q m
            · simp at m; subst m
              exact ⟨it (p.fx x) u j, n, it_st h hu x j, g5r, e5⟩
        · refine ⟨_, r2, S2, rfl, .inl ?_, skip (fun v' hv' z => c1 ⟨z.1, by rw [lk] at hv'; cases hv'; exact z.2⟩) r2 hr2⟩
          unfold w_rings_2
          rw [seq_nx e0, seq_nx e1]
          have cond' : bAnd (bVal (eBin vNe (eVar 6) (eLst lNil))) (bVal (eBin vEq (eBin vIxC (eVar 3) (eVar 5)) (eVar 4))) r2 S2 = .ok false S2 := by
            rw [cond]
            by_cases z : v = u
            · have : ¬ orb (p.fx x) u k ≠ [] := fun y => c1 ⟨y, z⟩
              simp [this]
            · simp [z]
          rw [sIf_ap, cond', Res.bind_ok, if_neg (by simp)]; rfl)
  have g2 := hr.get 2 (v := .loc S.length)
  have b0 : S'[S.length]? = some (.lst (F.map rV)) := by rw [eS]; exact c0_at _ _ _
  have so := sortR_ok (fun r hr => rot_ne (hF r hr)) b0
  rw [vss_len, List.take_length] at sc
  refine ⟨F, L, sc, hF, gL, ?_⟩
  refine fn_own (d := .lst ((srt F).map rV)) (T := .lst (F.map rV) :: .dic (dL2 L) ep :: T) ?_ (allI_small hS _) ?_ (fun z => by cases z)
  · rw [← eS]
    unfold b_rings
    have e0 : sPar 2 3 (lCons (eCell (lDis lNil)) (lCons eCelD lNil)) (start1 7 [p.pv, .int x]) S = .ok (.nx [some p.pv, some (.int x), some (.loc S.length), some (.loc (S.length + 1)), none, none, none]) (S ++ [.lst [], .dic [] 0]) := by
      generalize p.pv = O
      simp [start1, List.replicate]
    have e' : l_rings_2 [some p.pv, some (.int x), some (.loc S.length), some (.loc (S.length + 1)), none, none, none] (S ++ [.lst [], .dic [] 0]) = .ok (.nx r') S' := e
    rw [seq_nx e0, seq_nx e', sRet_ap, eCB_ap, lCons_ap, eVar_ap, g2, varK_some, Res.bind_ok, lNil_ap, Res.bind_ok, Res.bind_ok, so]; rfl
  · unfold frz
    rw [if_pos (small_rV _ _)]
end Hl
namespace Hl
open PySem L2 Dn PySem.W PyProof.Rows
theorem turn_one {f : List Int → List Int} {F : List (List (List Int))} {L : List (List Int × List Int)} {u : List Int} {F1 F2 : List (List (List Int))} {L1 L2 : List (List Int × List Int)} (h1 : Turn f F L u F1 L1) (h2 : Turn f F L u F2 L2) : F1 = F2 ∧ L1 = L2 := by
  obtain ⟨k, nd, hk, rfl, a⟩ := h1
  obtain ⟨j, nd2, hj, rfl, b⟩ := h2
  have go : ∀ {k j : Nat}, ((ext f L u j).map (·.1)).Nodup → it f u k ∈ (ext f L u k).map (·.1) → ¬ k < j := fun {k j} nd hk lt => by
    rw [ext_keys] at nd hk
    rw [List.nodup_append] at nd
    have mj : it f u k ∈ orb f u j := orb_mem.mpr ⟨k, lt, rfl⟩
    rcases List.mem_append.mp hk with m | m
    · exact nd.2.2 _ m _ mj rfl
    · obtain ⟨i, hi, e⟩ := orb_mem.mp m
      have := orb_inj nd.2.1 (by omega) lt e
      omega
  have e : k = j := by
    have a1 := go nd2 hk
    have a2 := go nd hj
    omega
  subst e
  refine ⟨?_, rfl⟩
  rcases a with ⟨x1, x2, x3⟩ | ⟨x1, x2⟩ <;> rcases b with ⟨y1, y2, y3⟩ | ⟨y1, y2⟩
  · rw [x3, y3]
  · exact absurd ⟨x1, x2⟩ y1
  · exact absurd ⟨y1, y2⟩ x1
  · rw [x2, y2]
theorem scan_inv {f : List Int → List Int} {us F L} (h : Scan f us F L) : (us = [] ∧ F = [] ∧ L = []) ∨ ∃ vs u F0 L0, us = vs ++ [u] ∧ Scan f vs F0 L0 ∧ Turn f F0 L0 u F L := by
  cases h with
  | nil => exact .inl ⟨rfl, rfl, rfl⟩
  | snoc a b => exact .inr ⟨_, _, _, _, rfl, a, b⟩
theorem scan_one {f : List Int → List Int} {us F L} (h1 : Scan f us F L) : ∀ {F' L'}, Scan f us F' L' → F = F' ∧ L = L' := by
  induction h1 with
  | nil =>
    intro F' L' h2
    rcases scan_inv h2 with ⟨_, a, b⟩ | ⟨vs, u, _, _, e, _, _⟩
    · exact ⟨a.symm, b.symm⟩
    · simp at e
  | snoc a t ih =>
    intro F' L' h2
    rcases scan_inv h2 with ⟨e, _, _⟩ | ⟨vs, u, F0, L0, e, a2, t2⟩
    · simp at e
    · obtain ⟨rfl, e2⟩ := List.append_inj' e rfl
      simp at e2; subst e2
      obtain ⟨rfl, rfl⟩ := ih a2
      exact turn_one t t2
theorem Cyc.mul {f : List Int → List Int} {m : List Int} {n : Nat} (h : Cyc f m n) : ∀ q r, it f m (n * q + r) = it f m r
  | 0, r => by simp
  | q + 1, r => by
    rw [show n * (q + 1) + r = n + (n * q + r) by rw [Nat.mul_succ]; omega, h.on, h.mul q r]
theorem Cyc.mem {f : List Int → List Int} {m : List Int} {n : Nat} (h : Cyc f m n) (t : Nat) : it f m t ∈ orb f m n := by
  have := h.mul (t / n) (t % n)
  rw [Nat.div_add_mod] at this
  rw [this]
  exact orb_mem.mpr ⟨t % n, Nat.mod_lt _ h.pos, rfl⟩
theorem rg_uniq {f : List Int → List Int} {m m' : List Int} {n n' t : Nat} (h : Rg f m n) (h' : Rg f m' n') (e : m' = it f m t) : m' = m ∧ n' = n := by
  have sub : ∀ z ∈ orb f m' n', z ∈ orb f m n := fun z hz => by
    obtain ⟨i, _, rfl⟩ := orb_mem.mp hz
    rw [e, ← it_add]; exact h.cyc.mem _
  have back : m ∈ orb f m' n' := by
    have h1 : it f m (n * t) = m := by
      have := h.cyc.mul t 0
      simpa [it] using this
    have le : t ≤ n * t := Nat.le_mul_of_pos_left t h.cyc.pos
    have : m = it f m' (n * t - t) := by rw [e, ← it_add, show t + (n * t - t) = n * t by omega, h1]
    rw [this]; exact h'.cyc.mem _
  have l1 : least (orb f m' n') = m := least_eq back fun z hz => by
    have := least_le (ss := orb f m n) z (sub z hz)
    rw [h.low] at this; exact this
  have em : m' = m := by rw [← h'.low, l1]
  subst em
  exact ⟨rfl, stop_one h'.cyc.stop h.cyc.stop⟩
def ringAt (f : List Int → List Int) (a : List Int) (r : List (List Int)) : Prop := ∃ k m, r = orb f (it f a k) m ∧ Rg f (it f a k) m
theorem ringAt_tail {f : List Int → List Int} {a : List Int} {n : Nat} (h : Stop f a n) : ringAt f a (rotm (tail f a n)) := by
  obtain ⟨k, m, e, g⟩ := tail_rg h
  exact ⟨k, m, e, g⟩
theorem ringAt_one {f : List Int → List Int} {a : List Int} {r r' : List (List Int)} (h : ringAt f a r) (h' : ringAt f a r') : r = r' := by
  obtain ⟨k, m, e, g⟩ := h
  obtain ⟨k', m', e', g'⟩ := h'
  rcases Nat.le_total k k' with le | le
  · have : it f a k' = it f (it f a k) (k' - k) := by rw [← it_add, Nat.add_sub_of_le le]
    obtain ⟨e1, e2⟩ := rg_uniq g g' this
    rw [e, e', e1, e2]
  · have : it f a k = it f (it f a k') (k - k') := by rw [← it_add, Nat.add_sub_of_le le]
    obtain ⟨e1, e2⟩ := rg_uniq g' g this
    rw [e, e', e1, e2]
theorem ringAt_it {f : List Int → List Int} {a : List Int} {r : List (List Int)} (j : Nat) : ringAt f (it f a j) r ↔ ringAt f a r := by
  constructor
  · rintro ⟨k, m, e, g⟩
    exact ⟨j + k, m, by rw [e, it_add], by rw [it_add]; exact g⟩
  · rintro ⟨k, m, e, g⟩
    -- further along the ring, once round
    have le : k ≤ k + m * j := Nat.le_add_right _ _
    have pos := g.cyc.pos
    have le2 : j ≤ m * j := Nat.le_mul_of_pos_left j pos
    have q : it f a k = it f (it f a j) (k + m * j - j) := by
      rw [← it_add, show j + (k + m * j - j) = k + m * j by omega, it_add]
      have := g.cyc.mul j 0
      simpa [it] using this.symm
    exact ⟨k + m * j - j, m, by rw [e, ← q], by rw [← q]; exact g⟩
theorem ringAt_self {f : List Int → List Int} {m : List Int} {n : Nat} (g : Rg f m n) : ringAt f m (orb f m n) := ⟨0, n, rfl, g⟩
theorem look_app_out {s : List Int} {β : Type} : ∀ {L M : List (List Int × β)}, s ∉ L.map (·.1) → look s (L ++ M) = look s M
  | [], _, _ => rfl
  | q :: r, M, h => by
    rw [List.map_cons, List.mem_cons, not_or] at h
    show (if q.1 = s then _ else look s (r ++ M)) = _
    rw [if_neg fun e => h.1 e.symm]
    exact look_app_out h.2
theorem look_pair {s u : List Int} : ∀ {xs : List (List Int)}, s ∈ xs → look s (xs.map fun a => (a, u)) = some u
  | x :: xs, h => by
    show (if x = s then some u else look s (xs.map fun a => (a, u))) = _
    by_cases e : x = s
    · rw [if_pos e]
    · rw [if_neg e]
      exact look_pair ((List.mem_cons.mp h).resolve_left fun z => e z.symm)
structure Done (f : List Int → List Int) (us : List (List Int)) (F : List (List (List Int))) (L : List (List Int × List Int)) : Prop where
  nd : F.Nodup
  keys : ∀ a ∈ L.map (·.1), ∃ r ∈ F, ringAt f a r
  rgs : ∀ r ∈ F, ∃ m n, r = orb f m n ∧ Rg f m n ∧ m ∈ L.map (·.1)
  all : ∀ u ∈ us, u ∈ L.map (·.1)
theorem scan_done {f : List Int → List Int} (St : List Int → Prop) (hf : ∀ s, St s → St (f s)) (hstop : ∀ s, St s → ∃ n, Stop f s n) : ∀ {us F L}, Scan f us F L → (∀ u ∈ us, St u) → (∀ q ∈ L, q.2 ∈ L.map (·.1)) ∧ Done f us F L := by
  intro us F L h
  induction h with
  | nil => intro _; exact ⟨nofun, List.nodup_nil, nofun, nofun, nofun⟩
  | @snoc us F L u F' L' sc t ih =>
    intro hu
    obtain ⟨vals, d⟩ := ih fun v hv => hu v (List.mem_append_left _ hv)
    have hu1 : St u := hu u (by simp)
    obtain ⟨k, nd, hk, rfl, ef⟩ := t
    have kk := ext_keys f L u k
    have nd' := nd
    rw [kk, List.nodup_append] at nd'
    have grow : ∀ a ∈ L.map (·.1), a ∈ (ext f L u k).map (·.1) := fun a ha => by rw [kk]; exact List.mem_append_left _ ha
    have vals' : ∀ q ∈ ext f L u k, q.2 ∈ (ext f L u k).map (·.1) := fun q hq => by
      unfold ext at hq
      rcases List.mem_append.mp hq with m | m
      · exact grow _ (vals q m)
      · obtain ⟨a, ha, rfl⟩ := List.mem_map.mp m
        obtain ⟨i, hi, _⟩ := orb_mem.mp ha
        rw [kk]; exact List.mem_append_right _ (orb_mem.mpr ⟨0, by omega, rfl⟩)
    have all' : ∀ v ∈ us ++ [u], v ∈ (ext f L u k).map (·.1) := fun v hv => by
      rcases List.mem_append.mp hv with m | m
      · exact grow _ (d.all v m)
      · simp at m; subst m
        rcases Nat.eq_zero_or_pos k with z | z
        · subst z; exact hk
        · rw [kk]; exact List.mem_append_right _ (orb_mem.mpr ⟨0, z, rfl⟩)
    refine ⟨vals', ?_⟩
    -- where the path meets: in what was there, or in itself
    rw [kk] at hk
    have meet : orb f u k ≠ [] ∧ look (it f u k) (ext f L u k) = some u ↔ it f u k ∈ orb f u k := by
      constructor
      · rintro ⟨ne, lk⟩
        rcases List.mem_append.mp hk with m | m
        · exfalso
          -- the value there is an earlier first, and stands among the keys
          have z : 0 < k := by
            rcases Nat.eq_zero_or_pos k with z | z
            · subst z; exact absurd rfl ne
            · exact z
          have := look_mem lk
          unfold ext at this
          rcases List.mem_append.mp this with q | q
          · exact nd'.2.2 _ (vals _ q) _ (orb_mem.mpr ⟨0, z, rfl⟩) rfl
          · obtain ⟨a, ha, e⟩ := List.mem_map.mp q
            injection e with e1 e2
            rw [e1] at ha
            exact nd'.2.2 _ m _ ha rfl
        · exact m
      · intro m
        refine ⟨fun e => absurd (e ▸ m : it f u k ∈ []) (by simp), ?_⟩
        unfold ext
        rw [look_app_out fun z => nd'.2.2 _ z _ m rfl]
        exact look_pair m
    rcases ef with ⟨ne, lk, rfl⟩ | ⟨no, rfl⟩
    · have m := meet.mp ⟨ne, lk⟩
      have st : Stop f u k := ⟨nd'.2.1, m⟩
      have ra := ringAt_tail st
      have fresh : rotm (tail f u k) ∉ F := fun z => by
        obtain ⟨m0, n0, e0, g0, k0⟩ := d.rgs _ z
        -- that ring's least state was there, so the path had met it
        obtain ⟨j, n1, e1, g1⟩ := tail_rg st
        rw [e1] at e0
        have hm : m0 ∈ orb f (it f u j) n1 := by rw [e0]; exact orb_mem.mpr ⟨0, g0.cyc.pos, rfl⟩
        obtain ⟨i, _, e2⟩ := orb_mem.mp hm
        rw [← it_add] at e2
        -- every state on the way is in the path
        have on : ∀ t, it f u t ∈ orb f u k := fun t => by
          obtain ⟨a1, c1, d1⟩ := st.cyc
          by_cases lt : t < k
          · exact orb_mem.mpr ⟨t, lt, rfl⟩
          · have : it f u t = it f (it f u k) (t - k) := by rw [← it_add, Nat.add_sub_of_le (by omega)]
            rw [this]
            have := c1.mem (t - k)
            rw [← d1] at this
            exact List.mem_of_mem_drop this
        have := on (j + i)
        rw [e2] at this
        exact nd'.2.2 _ k0 _ this rfl
      refine ⟨nodup_snoc d.nd fresh, fun a ha => ?_, fun r hr => ?_, all'⟩
      · rw [kk] at ha
        rcases List.mem_append.mp ha with q | q
        · obtain ⟨r, hr, x⟩ := d.keys a q
          exact ⟨r, List.mem_append_left _ hr, x⟩
        · obtain ⟨i, _, rfl⟩ := orb_mem.mp q
          exact ⟨_, List.mem_append_right _ (by simp), (ringAt_it i).mpr ra⟩
      · rcases List.mem_append.mp hr with q | q
        · obtain ⟨m0, n0, e0, g0, k0⟩ := d.rgs r q
          exact ⟨m0, n0, e0, g0, grow _ k0⟩
        · simp at q; subst q
          obtain ⟨j, n1, e1, g1⟩ := tail_rg st
          refine ⟨_, n1, e1, g1, ?_⟩
          rw [kk]
          refine List.mem_append_right _ ?_
          obtain ⟨a1, c1, d1⟩ := st.cyc
          by_cases lt : j < k
          · exact orb_mem.mpr ⟨j, lt, rfl⟩
          · have : it f u j = it f (it f u k) (j - k) := by rw [← it_add, Nat.add_sub_of_le (by omega)]
            rw [this]
            have := c1.mem (j - k)
            rw [← d1] at this
            exact List.mem_of_mem_drop this
    · have nm : it f u k ∉ orb f u k := fun z => no (meet.mpr z)
      have old := (List.mem_append.mp hk).resolve_right nm
      obtain ⟨r0, hr0, x0⟩ := d.keys _ old
      refine ⟨d.nd, fun a ha => ?_, fun r hr => ?_, all'⟩
      · rw [kk] at ha
        rcases List.mem_append.mp ha with q | q
        · exact d.keys a q
        · obtain ⟨i, hi, rfl⟩ := orb_mem.mp q
          exact ⟨r0, hr0, (ringAt_it i).mpr ((ringAt_it k).mp x0)⟩
      · obtain ⟨m0, n0, e0, g0, k0⟩ := d.rgs r hr
        exact ⟨m0, n0, e0, g0, grow _ k0⟩
theorem stop_ex {p : Pt} (h : p.Ok) (x : Int) {s : List Int} (hs : p.St s) : ∃ n, Stop (p.fx x) s n := by
  obtain ⟨n, st, _⟩ := path_ok h hs x AllI.nil
  exact ⟨n, st⟩
theorem rings_all {p : Pt} (h : p.Ok) (x : Int) {F : List (List (List Int))} {L : List (List Int × List Int)} (sc : Scan (p.fx x) p.U F L) : F.Nodup ∧ ∀ m n, p.St m → Rg (p.fx x) m n → orb (p.fx x) m n ∈ F := by
  obtain ⟨_, d⟩ := scan_done p.St (fun s hs => step_st h hs x) (fun s hs => stop_ex h x hs) sc fun u hu => (U_mem h).mp hu
  refine ⟨d.nd, fun m n hm g => ?_⟩
  obtain ⟨r, hr, ra⟩ := d.keys m (d.all m ((U_mem h).mpr hm))
  rw [ringAt_one (ringAt_self g) ra]; exact hr
end Hl
namespace Hl
open PySem L2 Dn PySem.W PyProof.Rows
theorem walkC_inv {b : Env1 → Store → Res Unit} {g : GM} {c : Src} {r0 : Env1} (J : Nat → Store → Prop) (ht : ∀ j S, J j S → c.there S) : ∀ (ds : List PV) (j : Nat) (S : Store), (∀ i d, ds[i]? = some d → ∀ S, J (j + i) S → ∃ r1 S', g d r0 = some r1 ∧ b r1 S = .ok () S' ∧ J (j + i + 1) S') → J j S →
    ∃ S', walkC b g bYes c r0 ds S = .ok () S' ∧ J (j + ds.length) S'
  | [], j, S, _, h => ⟨S, by unfold walkC; rw [if_pos (ht _ _ h)], by simpa using h⟩
  | d :: ds, j, S, hb, h => by
    obtain ⟨r1, S1, e1, e2, h1⟩ := hb 0 d rfl S (by simpa using h)
    obtain ⟨S2, e3, h2⟩ := walkC_inv J ht ds (j + 1) S1 (fun i d' hd S hj => by
      have e3 : j + (i + 1) = j + 1 + i := by omega
      have := hb (i + 1) d' (by simpa using hd) S (by rw [e3]; exact hj)
      rw [e3] at this
      exact this) (by simpa using h1)
    refine ⟨S2, ?_, by rw [List.length_cons, Nat.add_comm ds.length 1, ← Nat.add_assoc]; exact h2⟩
    unfold walkC
    rw [if_pos (ht _ _ h), e1]
    have by1 : bYes r1 S = .ok true S := rfl
    simp only [by1, okOnly_ok, Res.bind_ok, if_true, e2, e3]
theorem addL_ok {S : Store} {acc : List PV} {v : PV} (h : acc.length < 16777216) : addL S.length v (S ++ [.lst acc]) = .ok () (S ++ [.lst (acc ++ [v])]) := by
  have z : acc.length < sizeLine := Nat.lt_of_lt_of_le h (by decide)
  unfold addL
  rw [last_at]
  show (if acc.length < sizeLine then Res.ok () ((S ++ [Cell.lst acc]).set S.length (.lst (acc ++ [v]))) else .bad) = _
  rw [if_pos z, set_last]
theorem addD_ok {S : Store} {kvs : List (PV × PV)} {ep : Nat} {k v : PV} {n : NestedKey} (hn : nkOf k = some n) (hl : dLook kvs n = none) (h : kvs.length < 16777216) : addD S.length k v (S ++ [.dic kvs ep]) = .ok () (S ++ [.dic (kvs ++ [(k, v)]) (ep + 1)]) := by
  have z : kvs.length < sizeLine ∧ (dLook kvs n).isSome = false := ⟨Nat.lt_of_lt_of_le h (by decide), by rw [hl]; rfl⟩
  unfold addD
  rw [last_at, hn]
  show (if kvs.length < sizeLine ∧ (dLook kvs n).isSome = false then Res.ok () ((S ++ [Cell.dic kvs ep]).set S.length (.dic (kvs ++ [(k, v)]) (ep + 1))) else .bad) = _
  rw [if_pos z, set_last]
theorem nums_nodup (h : Int) : (nums h).Nodup := by
  unfold nums
  rw [List.Nodup, List.pairwise_map]
  exact List.nodup_range.imp fun {a b} h => by omega
theorem spn_nodup (h : Int) : ∀ n, (spn h n).Nodup
  | 0 => by simp [spn]
  | n + 1 => by
    show ((spn h n).flatMap fun s => (nums h).map fun x => s ++ [x]).Nodup
    rw [List.Nodup, List.pairwise_flatMap]
    refine ⟨fun s _ => ?_, (spn_nodup h n).imp fun {a b} hab x hx y hy => ?_⟩
    · rw [List.pairwise_map]
      exact (nums_nodup h).imp fun {a b} hab e => hab (by simpa using e)
    · obtain ⟨u, _, rfl⟩ := List.mem_map.mp hx
      obtain ⟨v, _, rfl⟩ := List.mem_map.mp hy
      intro e
      exact hab (List.append_inj' e rfl).1
theorem p_states_c {p : Pt} (h : p.Ok) {n : Nat} (hn : n < p.ts.length) {r : Env1} {S : Store} {f : PV} {k : Option Nat} (hr : Has 5 [(0, p.obj), (1, f)] r) (hs : srcOf f S = .ok ⟨vss (spn p.h n), k.map Wh.l⟩ S) (hk : ∀ j, k = some j → S[j]? = some (.lst (vss (spn p.h n)))) :
    c_p_states_of_1 r S = .ok (.loc S.length) (S ++ [.lst (vss (spn p.h (n + 1)))]) := by
  have hh := h.h
  have hl := h.len
  have g0 := hr.get 0 (v := p.obj)
  have g1 := hr.get 1 (v := f)
  have l := spn_len (h := p.h) (by omega) (n + 1)
  have l2 := pow3_le hh (show n + 1 ≤ 3 by omega)
  have l0 := spn_len (h := p.h) (by omega) n
  have l02 := pow3_le hh (show n ≤ 3 by omega)
  obtain ⟨S2, e, eS⟩ := walkC_inv (c := ⟨vss (spn p.h n), k.map Wh.l⟩) (g := gNm 3) (r0 := wipeE r [3, 4]) (b := innL S.length (iRange2 (eUn vNeg (eProp "Filter" m_p_Filter_high (eVar 0))) (eBin vAdd (eProp "Filter" m_p_Filter_high (eVar 0)) (eC (.int 1)))) (gNm 4) bYes (eTup (lStar (eVar 3) (lCons (eVar 4) lNil))) [4])
    (fun i S' => S' = S ++ [.lst (vss (spnU p.h n i))])
    (fun j S' e => by
      subst e
      unfold Src.there
      cases k with
      | none => trivial
      | some j =>
        have := hk j rfl
        show (S ++ _)[j]? = _
        rw [List.getElem?_append_left (List.getElem?_eq_some_iff.mp this).1]; exact this) (vss (spn p.h n)) 0 (S ++ [.lst []])
    (fun i d hd S' e => by
      subst e
      rw [Nat.zero_add] at *
      unfold vss at hd
      rw [List.getElem?_map] at hd
      cases hx : (spn p.h n)[i]? with
      | none => rw [hx] at hd; cases hd
      | some xs =>
        rw [hx] at hd; cases hd
        have hm := (spn_mem (h := p.h) (by omega)).mp (List.mem_of_getElem? hx)
        have w0 : Has 5 [(0, p.obj)] (wipeE r [3, 4]) := by
          show Has 5 _ ((r.set 4 none).set 3 none)
          exact (((hr.sub (l' := [(0, p.obj)])).set 4 none).set 3 none)
        have hr3 := w0.put 3 (tsv xs)
        have q0 := hr3.get 0 (v := p.obj)
        have hi := high_ok p (S ++ [.lst (vss (spnU p.h n i))])
        have fc := ofC_ok p
        have rg : (rngOf (.int (-p.h)) (.int (p.h + 1)) (S ++ [.lst (vss (spnU p.h n i))])) = .ok ⟨rng (-p.h) (p.h + 1 - (-p.h)).toNat, none⟩ (S ++ [.lst (vss (spnU p.h n i))]) := rngOf_ok (by omega) (by omega)
        rw [show p.h + 1 - (-p.h) = 2 * p.h + 1 by omega] at rg
        have en : rng (-p.h) (2 * p.h + 1).toNat = (nums p.h).map PV.int := by
          unfold rng nums; rw [List.map_map]; rfl
        rw [en] at rg
        have i1 : iRange2 (eUn vNeg (eProp "Filter" m_p_Filter_high (eVar 0))) (eBin vAdd (eProp "Filter" m_p_Filter_high (eVar 0)) (eC (.int 1))) ((wipeE r [3, 4]).set 3 (some (tsv xs))) (S ++ [.lst (vss (spnU p.h n i))]) = .ok ⟨(nums p.h).map PV.int, none⟩ (S ++ [.lst (vss (spnU p.h n i))]) := by
          generalize p.obj = O at *
          generalize tsv xs = X at *
          generalize wipeE r [3, 4] = R at *
          generalize (S ++ [Cell.lst (vss (spnU p.h n i))]) = S3 at *
          simp [q0, hi, fc, rg]
        have snl := nums_len (h := p.h) (by omega)
        obtain ⟨S4, e4, eS4⟩ := walkC_inv (c := ⟨(nums p.h).map PV.int, none⟩) (g := gNm 4) (r0 := wipeE ((wipeE r [3, 4]).set 3 (some (tsv xs))) [4]) (b := Dn.putL S.length (eTup (lStar (eVar 3) (lCons (eVar 4) lNil))))
          (fun j S' => S' = S ++ [.lst (vss (spnU p.h n i ++ ((nums p.h).take j).map fun x => xs ++ [x]))]) (fun j S' _ => trivial) ((nums p.h).map PV.int) 0 (S ++ [.lst (vss (spnU p.h n i))])
          (fun j d hd S' e => by
            subst e
            rw [Nat.zero_add] at *
            rw [List.getElem?_map] at hd
            cases hy : (nums p.h)[j]? with
            | none => rw [hy] at hd; cases hd
            | some y =>
              rw [hy] at hd; cases hd
              have w4 : Has 5 [(3, tsv xs)] (wipeE ((wipeE r [3, 4]).set 3 (some (tsv xs))) [4]) := by
                show Has 5 _ (((wipeE r [3, 4]).set 3 (some (tsv xs))).set 4 none)
                exact (hr3.sub (l' := [(3, tsv xs)])).set 4 none
              have hr4 := w4.put 4 (.int y)
              have q3 := hr4.get 3 (v := tsv xs)
              have q4 := hr4.get 4 (v := .int y)
              refine ⟨_, _, rfl, ?_, rfl⟩
              have sk : ∀ S, starK (tsv xs) S = .ok (xs.map PV.int) S := fun S => rfl
              have z3 : (xs.map PV.int).length + 1 ≤ sizeLine := seq_le (by rw [List.length_map]; omega)
              have fv : eTup (lStar (eVar 3) (lCons (eVar 4) lNil)) ((wipeE ((wipeE r [3, 4]).set 3 (some (tsv xs))) [4]).set 4 (some (.int y))) (S ++ [.lst (vss (spnU p.h n i ++ ((nums p.h).take j).map fun x => xs ++ [x]))]) = .ok (tsv (xs ++ [y])) (S ++ [.lst (vss (spnU p.h n i ++ ((nums p.h).take j).map fun x => xs ++ [x]))]) := by
                have et : tsv (xs ++ [y]) = .tup (xs.map PV.int ++ [.int y]) := by unfold tsv; rw [List.map_append]; rfl
                rw [et]
                generalize tsv xs = X at *
                generalize (wipeE ((wipeE r [3, 4]).set 3 (some X)) [4]).set 4 (some (.int y)) = R at *
                generalize xs.map PV.int = XI at *
                generalize (S ++ [Cell.lst (vss (spnU p.h n i ++ ((nums p.h).take j).map fun x => xs ++ [x]))]) = S3 at *
                simp [q3, q4, sk, z3]
              unfold Dn.putL
              rw [fv]
              simp only [okOnly_ok, Res.bind_ok]
              have hj := (List.getElem?_eq_some_iff.mp hy).1
              have tk : (nums p.h).take (j + 1) = (nums p.h).take j ++ [y] := by rw [List.take_succ, hy]; rfl
              have bound : (spnU p.h n i).length + (nums p.h).length ≤ (spn p.h (n + 1)).length := by
                have l0 := spnU_len (h := p.h) n (i + 1)
                rw [spnU_succ hx, List.length_append, List.length_map] at l0
                exact l0
              rw [addL_ok (by rw [vss_len, List.length_append, List.length_map, List.length_take]; omega), tk]
              unfold vss
              simp) (by simp)
        refine ⟨_, S ++ [.lst (vss (spnU p.h n (i + 1)))], rfl, ?_, rfl⟩
        · unfold innL
          have sz : ((nums p.h).map PV.int).length ≤ sizeLine := seq_le (by rw [List.length_map]; omega)
          rw [i1]
          simp only [okOnly_ok, Res.bind_ok, sz, if_true]
          rw [e4]
          rw [Nat.zero_add, List.length_map] at eS4
          rw [eS4, List.take_length, spnU_succ hx]) (by simp [spnU, vss])
  have iv : iVal (eVar 1) r S = .ok ⟨vss (spn p.h n), k.map Wh.l⟩ S := by rw [iVal_ap, eVar_ap, g1, varK_some, Res.bind_ok, hs]
  have sz : (vss (spn p.h n)).length ≤ sizeLine := seq_le (by rw [vss_len]; omega)
  unfold c_p_states_of_1 eComp2
  rw [iv]
  simp only [Res.bind_ok, sz, if_true]
  rw [e]
  simp only [Res.bind_ok]
  rw [Nat.zero_add, vss_len] at eS
  rw [eS, spnU_all]
theorem pstates_ok {p : Pt} (h : p.Ok) {S : Store} (hS : AllI S) : m_p_states_of [p.obj] S = .ok (.lst (vss p.U)) S := by
  have hh := h.h
  have hl := h.len
  obtain ⟨r', S', e, T, f, k, rfl, hr, hs, hk, hf⟩ := sFor_inv (g := gNm 2) (b := w_p_states_of_1) (it := iRange1 (eProp "Filter" m_p_Filter_order (eVar 0))) (r := [some p.obj, some (.lst [.tup []]), none, none, none]) (S := S) (S1 := S) (ds := rng 0 p.ts.length)
    (iRange1_ok (n := p.ts.length) (by
      have o := order_ok p S
      have fc := ofC_ok p
      generalize p.obj = O at *
      simp [o, fc]) (by omega))
    (fun i r S' => ∃ T f k, S' = S ++ T ∧ Has 5 [(0, p.obj), (1, f)] r ∧ srcOf f S' = .ok ⟨vss (spn p.h i), k.map Wh.l⟩ S' ∧ (∀ j, k = some j → S'[j]? = some (.lst (vss (spn p.h i)))) ∧ (f = .lst [.tup []] ∧ T = [] ∧ i = 0 ∨ ∃ j, f = .loc j ∧ S.length ≤ j ∧ S'[j]? = some (.lst (vss (spn p.h i)))))
    ⟨[], .lst [.tup []], none, by simp, ⟨rfl, by simp⟩, rfl, nofun, .inl ⟨rfl, rfl, rfl⟩⟩ (fun i d hd r S' ⟨T, f, k, eS, hr, hs, hk, hf⟩ => by
      obtain ⟨hi, rfl⟩ := rng_get hd
      have hr2 := hr.set 2 (some (.int (0 + i)))
      have c := p_states_c h hi hr2 hs hk
      have lt := last_at S' (.lst (vss (spn p.h (i + 1))))
      refine ⟨_, (r.set 2 (some (.int (0 + i)))).set 1 (some (.loc S'.length)), S' ++ [.lst (vss (spn p.h (i + 1)))], rfl, .inl ?_, T ++ [.lst (vss (spn p.h (i + 1)))], .loc S'.length, some S'.length, by rw [eS]; simp, (((hr2.sub (l' := [(0, p.obj)])).put 1 (.loc S'.length)).sub), src_loc lt, fun j hj => by cases hj; exact lt, .inr ⟨_, rfl, by rw [eS]; simp, lt⟩⟩
      unfold w_p_states_of_1
      rw [sSet_ap, c]; rfl)
  rw [rng_len] at *
  have g1 := hr.get 1 (v := f)
  rcases hf with ⟨_, _, z⟩ | ⟨j, rfl, hj0, hj⟩
  · omega
  refine fn_own (d := .loc j) (T := T) ?_ (allI_small hS _) ?_ ?_
  · unfold b_p_states_of
    have e1 : sSet 1 (eLst (lCons (eTup lNil) lNil)) (start1 5 [p.obj]) S = .ok (.nx [some p.obj, some (.lst [.tup []]), none, none, none]) S := rfl
    have e' : l_p_states_of_1 [some p.obj, some (.lst [.tup []]), none, none, none] S = _ := e
    rw [seq_nx e1, seq_nx e', sRet_ap, eVar_ap, g1]; rfl
  · unfold frz
    rw [if_neg (by omega), hj]
    show (if smalls S.length (vss (spn p.h p.ts.length)) = true then some (PV.lst (vss (spn p.h p.ts.length))) else none) = _
    rw [if_pos (show smalls S.length (vss (spn p.h p.ts.length)) = true from small_tsv _ _)]; rfl
  · intro z; subst z
    have := (List.getElem?_eq_some_iff.mp hj).1
    simp at this; omega
theorem allst_p {p : Pt} (h : p.Ok) {S : Store} (hS : AllI S) : m_p_all_states [p.obj] S = .ok (.lst (vss p.U)) S := by
  have i : vIsiU [p.obj, .cls "Filter"] S = .ok (.bl true) S := isi_FF _ S
  have st := pstates_ok h hS
  refine run_fn ?_
  unfold b_p_all_states
  generalize vss p.U = V at *
  generalize p.obj = O at *
  simp [start1, List.replicate, i, st]
def ldL (f : List Int → List Int) (us : List (List Int)) : List (List Int × List Int) := us.map fun s => (s, f s)
theorem ld_look {f : List Int → List Int} {s : List Int} : ∀ {us : List (List Int)}, s ∈ us → look s (ldL f us) = some (f s)
  | u :: us, h => by
    show (if u = s then some (f u) else look s (ldL f us)) = _
    by_cases e : u = s
    · rw [if_pos e, e]
    · rw [if_neg e]; exact ld_look ((List.mem_cons.mp h).resolve_left fun z => e z.symm)
theorem ld_none {f : List Int → List Int} {s : List Int} {us : List (List Int)} (h : s ∉ us) : look s (ldL f us) = none := look_none.mpr (by
  unfold ldL; rw [List.map_map]
  have : ((fun q : List Int × List Int => q.1) ∘ fun s => (s, f s)) = id := rfl
  rw [this, List.map_id]; exact h)
theorem ld_keys (f : List Int → List Int) (us : List (List Int)) : (dL2 (ldL f us)).map (·.1) = vss us := by
  unfold dL2 ldL vss; rw [List.map_map, List.map_map]; rfl
theorem small_dL (n : Nat) : ∀ L : List (List Int × List Int), smalld n (dL2 L) = true
  | [] => rfl
  | q :: L => by
    have h1 := small_tsv n [q.1]
    have h2 := small_tsv n [q.2]
    have ih := small_dL n L
    unfold dL2 at ih ⊢
    simp [smalls] at h1 h2
    simp [smalld, h1, h2, ih]
theorem steps_of_ok {p : Pt} (h : p.Ok) (x : Int) {S : Store} (hS : AllI S) : m_p_steps_of [p.obj, .int x] S = .ok (.dic (dL2 (ldL (p.fx x) p.U))) S := by
  have ul := U_len h
  have as := allst_p h hS
  have nd : p.U.Nodup := spn_nodup _ _
  obtain ⟨S2, e, ep, eS⟩ := walkC_inv (c := ⟨vss p.U, none⟩) (g := gNm 2) (r0 := wipeE [some p.obj, some (.int x), none] [2]) (b := putE S.length (eVar 2) (eCallN 3 m_p_next_of_k67 [] (lCons (eVar 0) (lCons (eVar 2) (lCons (eVar 1) lNil)))))
    (fun i S' => ∃ ep, S' = S ++ [.dic (dL2 (ldL (p.fx x) (p.U.take i))) ep]) (fun _ _ _ => trivial) (vss p.U) 0 (S ++ [.dic [] 0])
    (fun i d hd S' ⟨ep, eS⟩ => by
      subst eS
      rw [Nat.zero_add] at *
      unfold vss at hd
      rw [List.getElem?_map] at hd
      cases hx : p.U[i]? with
      | none => rw [hx] at hd; cases hd
      | some u =>
        rw [hx] at hd; cases hd
        have iU := (List.getElem?_eq_some_iff.mp hx).1
        have hu : p.St u := (U_mem h).mp (List.mem_of_getElem? hx)
        have tk : p.U.take (i + 1) = p.U.take i ++ [u] := by rw [List.take_succ, hx]; rfl
        have nx := next67_ok h hu x (S ++ [.dic (dL2 (ldL (p.fx x) (p.U.take i))) ep])
        have fresh : u ∉ p.U.take i := fun z => by
          have t2 : (p.U.take (i + 1)).Nodup := nd.sublist (List.take_sublist _ _)
          rw [tk, List.nodup_append] at t2
          exact t2.2.2 _ z u (by simp) rfl
        have ln : dLook (dL2 (ldL (p.fx x) (p.U.take i))) (nkS u) = none := by rw [dL2_look, ld_none fresh]; rfl
        have ad := addD_ok (S := S) (ep := ep) (v := tsv (p.fx x u)) (nkOf_tsv u) ln (by unfold dL2 ldL; rw [List.length_map, List.length_map, List.length_take]; omega)
        refine ⟨_, _, rfl, ?_, ep + 1, rfl⟩
        have ev : dL2 (ldL (p.fx x) (p.U.take i)) ++ [(tsv u, tsv (p.fx x u))] = dL2 (ldL (p.fx x) (p.U.take (i + 1))) := by rw [tk]; unfold dL2 ldL; simp
        rw [ev] at ad
        unfold putE
        have k1 : eVar 2 ((wipeE [some p.obj, some (.int x), none] [2]).set 2 (some (tsv u))) (S ++ [.dic (dL2 (ldL (p.fx x) (p.U.take i))) ep]) = .ok (tsv u) (S ++ [.dic (dL2 (ldL (p.fx x) (p.U.take i))) ep]) := rfl
        have k2 : eCallN 3 m_p_next_of_k67 [] (lCons (eVar 0) (lCons (eVar 2) (lCons (eVar 1) lNil))) ((wipeE [some p.obj, some (.int x), none] [2]).set 2 (some (tsv u))) (S ++ [.dic (dL2 (ldL (p.fx x) (p.U.take i))) ep]) = .ok (tsv (p.fx x u)) (S ++ [.dic (dL2 (ldL (p.fx x) (p.U.take i))) ep]) := by
          generalize p.obj = O at *
          generalize tsv (p.fx x u) = Y at *
          generalize tsv u = X at *
          generalize (S ++ [Cell.dic (dL2 (ldL (p.fx x) (p.U.take i))) ep]) = S3 at *
          simp [wipeE, nx]
        rw [k1]
        simp only [okOnly_ok, Res.bind_ok]
        rw [k2]
        simp only [okOnly_ok, Res.bind_ok]
        exact ad) ⟨0, rfl⟩
  have sz : (vss p.U).length ≤ sizeLine := seq_le (by rw [vss_len]; omega)
  refine fn_own (d := .loc S.length) (T := [.dic (dL2 (ldL (p.fx x) p.U)) ep]) ?_ (allI_small hS _) ?_ (fun z => by cases z)
  · unfold b_p_steps_of c_p_steps_of_1 eCompD
    have iv : iVal (eCallN 1 m_p_all_states [] (lCons (eVar 0) lNil)) (start1 3 [p.obj, .int x]) S = .ok ⟨vss p.U, none⟩ S := by
      generalize p.obj = O at *
      generalize vss p.U = V at *
      simp [start1, List.replicate, as]
    rw [sRet_ap, iv]
    simp only [Res.bind_ok, sz, if_true]
    have e' : walkC (putE S.length (eVar 2) (eCallN 3 m_p_next_of_k67 [] (lCons (eVar 0) (lCons (eVar 2) (lCons (eVar 1) lNil))))) (gNm 2) bYes ⟨vss p.U, none⟩ (wipeE (start1 3 [p.obj, .int x]) [2]) (vss p.U) (S ++ [.dic [] 0]) = .ok () S2 := e
    rw [e']
    rw [Nat.zero_add, vss_len, List.take_length] at eS
    rw [eS]; rfl
  · unfold frz
    rw [if_neg (by omega), last_at]
    show (if smalld S.length (dL2 (ldL (p.fx x) p.U)) = true then some (PV.dic (dL2 (ldL (p.fx x) p.U))) else none) = _
    rw [if_pos (small_dL _ _)]
end Hl
namespace Hl
open PySem L2 Dn PySem.W PyProof.Rows
def Pt.ld (p : Pt) (x : Int) : PV := .dic (dL2 (ldL (p.fx x) p.U))
theorem ld_at {p : Pt} (h : p.Ok) (x : Int) {s : List Int} (hs : p.St s) (S : Store) : vIxC (p.ld x) (tsv s) S = .ok (tsv (p.fx x s)) S := by
  have lk : dLook (dL2 (ldL (p.fx x) p.U)) (nkS s) = some (tsv (p.fx x s)) := by rw [dL2_look, ld_look ((U_mem h).mpr hs)]; rfl
  unfold vIxC
  rw [show dicOf S (p.ld x) = some (dL2 (ldL (p.fx x) p.U)) from rfl, nkOf_tsv]
  show (match dLook (dL2 (ldL (p.fx x) p.U)) (nkS s) with
    | some z => Res.ok z S
    | none => .bad) = _
  rw [lk]
theorem prings_in {p : Pt} (h : p.Ok) {x : Int} {L : List (List Int × List Int)} (g : GoodL p L) {u : List Int} (hu : p.St u) (S T : Store) (c : Cell) (ep : Nat) {r : Env1} (hr : Has 6 [(0, p.ld x), (1, .loc S.length), (2, .loc (S.length + 1)), (3, tsv u), (4, tsv u), (5, .loc (S.length + 2 + T.length))] r) :
    ∃ k r', l_p_rings_in_1 r (S ++ c :: .dic (dL2 L) ep :: (T ++ [.lst []])) = .ok (.nx r') (S ++ c :: .dic (dL2 (ext (p.fx x) L u k)) (ep + k) :: (T ++ [.lst (vss (orb (p.fx x) u k))])) ∧ ((ext (p.fx x) L u k).map (·.1)).Nodup ∧ it (p.fx x) u k ∈ (ext (p.fx x) L u k).map (·.1) ∧
      Has 6 [(0, p.ld x), (1, .loc S.length), (2, .loc (S.length + 1)), (3, tsv u), (4, tsv (it (p.fx x) u k)), (5, .loc (S.length + 2 + T.length))] r' := by
  have ul := U_len h
  obtain ⟨r', S', e, k, nd, hk, eS, hr'⟩ := sWhile_R (t := t_p_rings_in_1) (b := w_p_rings_in_1)
    (fun m r S' => ∃ k, m + (L.length + k) = p.U.length ∧ ((ext (p.fx x) L u k).map (·.1)).Nodup ∧ S' = S ++ c :: .dic (dL2 (ext (p.fx x) L u k)) (ep + k) :: (T ++ [.lst (vss (orb (p.fx x) u k))]) ∧ Has 6 [(0, p.ld x), (1, .loc S.length), (2, .loc (S.length + 1)), (3, tsv u), (4, tsv (it (p.fx x) u k)), (5, .loc (S.length + 2 + T.length))] r)
    (fun r S' => ∃ k, ((ext (p.fx x) L u k).map (·.1)).Nodup ∧ it (p.fx x) u k ∈ (ext (p.fx x) L u k).map (·.1) ∧ S' = S ++ c :: .dic (dL2 (ext (p.fx x) L u k)) (ep + k) :: (T ++ [.lst (vss (orb (p.fx x) u k))]) ∧ Has 6 [(0, p.ld x), (1, .loc S.length), (2, .loc (S.length + 1)), (3, tsv u), (4, tsv (it (p.fx x) u k)), (5, .loc (S.length + 2 + T.length))] r)
    (fun m r S' ⟨k, hm, nd, eS, hr⟩ => by
      have a1 : S'[S.length + 1]? = some (.dic (dL2 (ext (p.fx x) L u k)) (ep + k)) := by rw [eS]; exact c1_at _ _ _ _
      have a2 : S'[S.length + 2 + T.length]? = some (.lst (vss (orb (p.fx x) u k))) := by rw [eS]; exact c2_at _ _ _ _ _
      have g0 := hr.get 0 (v := p.ld x)
      have g3 := hr.get 2 (v := .loc (S.length + 1))
      have g4 := hr.get 3 (v := tsv u)
      have g5 := hr.get 4 (v := tsv (it (p.fx x) u k))
      have g6 := hr.get 5 (v := .loc (S.length + 2 + T.length))
      have nk := nkOf_tsv (it (p.fx x) u k)
      have iN := vInD_loc a1 nk
      rw [dL2_look] at iN
      refine ⟨!((look (it (p.fx x) u k) (ext (p.fx x) L u k)).map tsv).isSome, S', ?_, fun ht => ?_, fun hf => ?_⟩
      · unfold t_p_rings_in_1
        rw [bVal_ap, eBin_ap, eVar_ap, g5, varK_some, Res.bind_ok, eVar_ap, g3, varK_some, Res.bind_ok, iN]; rfl
      · have ln : look (it (p.fx x) u k) (ext (p.fx x) L u k) = none := by
          cases q : look (it (p.fx x) u k) (ext (p.fx x) L u k) with
          | none => rfl
          | some v => rw [q] at ht; cases ht
        have nm := look_none.mp ln
        have nd1 : ((ext (p.fx x) L u (k + 1)).map (·.1)).Nodup := by
          rw [ext_keys, orb_succ, ← List.append_assoc, ← ext_keys]; exact nodup_snoc nd nm
        have kU := (g.ext h hu nd1).len h
        rw [ext_len] at kU
        have ld : dLook (dL2 (ext (p.fx x) L u k)) (nkS (it (p.fx x) u k)) = none := by rw [dL2_look, ln]; rfl
        have pt := put_new (d := tsv u) (r := r) a1 nk ld (by unfold dL2; rw [List.length_map, ext_len]; omega)
        rw [eS, c1_set, ← ext_succ, ← eS] at pt
        have a2' : (S ++ c :: .dic (dL2 (ext (p.fx x) L u (k + 1))) (ep + k + 1) :: (T ++ [.lst (vss (orb (p.fx x) u k))]))[S.length + 2 + T.length]? = some (.lst (vss (orb (p.fx x) u k))) := c2_at _ _ _ _ _
        have ap := app_at (d := tsv (it (p.fx x) u k)) a2' (by rw [vss_len, orb_len]; omega)
        rw [c2_set] at ap
        have iT := isT_loc a2'
        have nx := ld_at h x (it_st h hu x k) (S ++ c :: .dic (dL2 (ext (p.fx x) L u (k + 1))) (ep + k + 1) :: (T ++ [.lst (vss (orb (p.fx x) u (k + 1)))]))
        have ev : vss (orb (p.fx x) u k) ++ [tsv (it (p.fx x) u k)] = vss (orb (p.fx x) u (k + 1)) := by rw [orb_succ]; unfold vss; rw [List.map_append]; rfl
        rw [ev] at ap
        refine ⟨m - 1, r.set 4 (some (tsv (it (p.fx x) u (k + 1)))), _, by omega, .inl ?_, k + 1, by omega, nd1, rfl, ((hr.sub (l' := [(0, p.ld x), (1, .loc S.length), (2, .loc (S.length + 1)), (3, tsv u), (5, .loc (S.length + 2 + T.length))])).put 4 _).sub⟩
        have e1 : sPutC (eVar 2) (eVar 4) (eVar 3) r S' = .ok (.nx r) (S ++ c :: .dic (dL2 (ext (p.fx x) L u (k + 1))) (ep + k + 1) :: (T ++ [.lst (vss (orb (p.fx x) u k))])) := by
          generalize tsv (it (p.fx x) u k) = T1 at *
          generalize tsv u = T2 at *
          generalize (S ++ c :: Cell.dic (dL2 (ext (p.fx x) L u (k + 1))) (ep + k + 1) :: (T ++ [.lst (vss (orb (p.fx x) u k))])) = S1 at *
          simp [g3, g4, g5, pt]
        have e2 : sExpr (eMt "list" vAppend (eVar 5) (lCons (eVar 4) lNil)) r (S ++ c :: .dic (dL2 (ext (p.fx x) L u (k + 1))) (ep + k + 1) :: (T ++ [.lst (vss (orb (p.fx x) u k))])) = .ok (.nx r) (S ++ c :: .dic (dL2 (ext (p.fx x) L u (k + 1))) (ep + k + 1) :: (T ++ [.lst (vss (orb (p.fx x) u (k + 1)))])) := by
          generalize tsv (it (p.fx x) u k) = T1 at *
          generalize (S ++ c :: Cell.dic (dL2 (ext (p.fx x) L u (k + 1))) (ep + k + 1) :: (T ++ [.lst (vss (orb (p.fx x) u k))])) = S1 at *
          simp [g5, g6, iT, ap]
        unfold w_p_rings_in_1
        rw [seq_nx e1, seq_nx e2]
        have q : p.fx x (it (p.fx x) u k) = it (p.fx x) u (k + 1) := rfl
        rw [q] at nx
        rw [show ep + (k + 1) = ep + k + 1 by omega]
        generalize (S ++ c :: Cell.dic (dL2 (ext (p.fx x) L u (k + 1))) (ep + k + 1) :: (T ++ [.lst (vss (orb (p.fx x) u (k + 1)))])) = S1 at *
        generalize tsv (it (p.fx x) u k) = T1 at *
        generalize tsv (it (p.fx x) u (k + 1)) = T2 at *
        generalize p.ld x = O at *
        simp [g0, g5, nx]
      · refine ⟨k, nd, ?_, eS, hr⟩
        cases q : look (it (p.fx x) u k) (ext (p.fx x) L u k) with
        | none => rw [q] at hf; cases hf
        | some v => exact List.mem_map.mpr ⟨_, look_mem q, rfl⟩) (p.U.length - L.length) r (S ++ c :: .dic (dL2 L) ep :: (T ++ [.lst []])) ⟨0, by have := g.len h; omega, by rw [ext_keys]; simpa [orb] using g.nd, by unfold ext; simp [orb, vss], hr⟩
  exact ⟨k, r', by rw [← eS]; exact e, nd, hk, hr'⟩
theorem prings_scan {p : Pt} (h : p.Ok) (x : Int) {S : Store} (hS : AllI S) : ∃ F L, Scan (p.fx x) p.U F L ∧ m_p_rings_in [p.ld x] S = .ok (.lst ((srt F).map rV)) S := by
  have ul := U_len h
  obtain ⟨r', S', e, F, L, ep, T, eS, hr, hF, fl, gL, sc⟩ := sFor_inv (g := gNm 3) (b := w_p_rings_in_2) (it := iVal (eVar 0)) (r := [some (p.ld x), some (.loc S.length), some (.loc (S.length + 1)), none, none, none]) (S := S ++ [.lst [], .dic [] 0]) (S1 := S ++ [.lst [], .dic [] 0]) (ds := vss p.U)
    (by
      have e : srcOf (p.ld x) (S ++ [.lst [], .dic [] 0]) = .ok ⟨(dL2 (ldL (p.fx x) p.U)).map (·.1), none⟩ (S ++ [.lst [], .dic [] 0]) := rfl
      rw [ld_keys] at e
      rw [iVal_ap, eVar_ap, List.getElem?_cons_zero, varK_some, Res.bind_ok, e])
    (fun i r S' => ∃ (F : List (List (List Int))) (L : List (List Int × List Int)) (ep : Nat) (T : Store), S' = S ++ .lst (F.map rV) :: .dic (dL2 L) ep :: T ∧ Has 6 [(0, p.ld x), (1, .loc S.length), (2, .loc (S.length + 1))] r ∧ (∀ r ∈ F, p.GoodR x r) ∧ F.length ≤ i ∧ GoodL p L ∧ Scan (p.fx x) (p.U.take i) F L)
    ⟨[], [], 0, [], rfl, ⟨rfl, by simp⟩, nofun, Nat.zero_le _, ⟨List.nodup_nil, nofun, nofun⟩, .nil⟩ (fun i d hd r S' ⟨F, L, ep, T, eS, hr, hF, fl, gL, sc⟩ => by
      unfold vss at hd
      rw [List.getElem?_map] at hd
      cases hx : p.U[i]? with
      | none => rw [hx] at hd; cases hd
      | some u =>
        rw [hx] at hd; cases hd
        have iU := (List.getElem?_eq_some_iff.mp hx).1
        have hu : p.St u := (U_mem h).mp (List.mem_of_getElem? hx)
        have tk : p.U.take (i + 1) = p.U.take i ++ [u] := by rw [List.take_succ, hx]; rfl
        have hr4 := hr.put 3 (tsv u)
        have q4 := hr4.get 3 (v := tsv u)
        have eL : S'.length = S.length + 2 + T.length := by rw [eS]; simp; omega
        have e0 : sPar 4 5 (lCons (eVar 3) (lCons (eCell (lDis lNil)) lNil)) (r.set 3 (some (tsv u))) S' = .ok (.nx (((r.set 3 (some (tsv u))).set 4 (some (tsv u))).set 5 (some (.loc S'.length)))) (S' ++ [.lst []]) := by
          generalize tsv u = X at *
          generalize r.set 3 (some X) = r4 at *
          simp [q4]
        rw [eL] at e0
        have hr6 := (hr4.put 4 (tsv u)).put 5 (.loc (S.length + 2 + T.length))
        obtain ⟨k, r2, e1, nd, hk, hr2⟩ := prings_in h gL hu (x := x) S T (.lst (F.map rV)) ep (r := ((r.set 3 (some (tsv u))).set 4 (some (tsv u))).set 5 (some (.loc (S.length + 2 + T.length)))) hr6.sub
        have eS1 : S' ++ [.lst []] = S ++ .lst (F.map rV) :: .dic (dL2 L) ep :: (T ++ [.lst []]) := by rw [eS]; simp
        rw [eS1] at e0
        have g2 := hr2.get 1 (v := .loc S.length)
        have g3 := hr2.get 2 (v := .loc (S.length + 1))
        have g4 := hr2.get 3 (v := tsv u)
        have g5 := hr2.get 4 (v := tsv (it (p.fx x) u k))
        have g6 := hr2.get 5 (v := .loc (S.length + 2 + T.length))
        have gX := gL.ext h hu nd
        have kU := gX.len h
        rw [ext_len] at kU
        obtain ⟨S2, hS2⟩ : ∃ S2, S2 = S ++ .lst (F.map rV) :: .dic (dL2 (ext (p.fx x) L u k)) (ep + k) :: (T ++ [.lst (vss (orb (p.fx x) u k))]) := ⟨_, rfl⟩
        rw [← hS2] at e1
        have b0 : S2[S.length]? = some (.lst (F.map rV)) := by rw [hS2]; exact c0_at _ _ _
        have b1 : S2[S.length + 1]? = some (.dic (dL2 (ext (p.fx x) L u k)) (ep + k)) := by rw [hS2]; exact c1_at _ _ _ _
        have b2 : S2[S.length + 2 + T.length]? = some (.lst (vss (orb (p.fx x) u k))) := by rw [hS2]; exact c2_at _ _ _ _ _
        have n0 := ne_loc_none b2
        have skip : (∀ (v : List Int), look (it (p.fx x) u k) (ext (p.fx x) L u k) = some v → ¬ (orb (p.fx x) u k ≠ [] ∧ v = u)) → ∀ rr : Env1, Has 6 [(0, p.ld x), (1, .loc S.length), (2, .loc (S.length + 1)), (3, tsv u), (4, tsv (it (p.fx x) u k)), (5, .loc (S.length + 2 + T.length))] rr → ∃ (F' : List (List (List Int))) (L' : List (List Int × List Int)) (ep' : Nat) (T' : Store), S2 = S ++ .lst (F'.map rV) :: .dic (dL2 L') ep' :: T' ∧ Has 6 [(0, p.ld x), (1, .loc S.length), (2, .loc (S.length + 1))] rr ∧ (∀ r ∈ F', p.GoodR x r) ∧ F'.length ≤ i + 1 ∧ GoodL p L' ∧ Scan (p.fx x) (p.U.take (i + 1)) F' L' := fun hno rr hh =>
          ⟨F, ext (p.fx x) L u k, ep + k, T ++ [.lst (vss (orb (p.fx x) u k))], hS2, hh.sub, hF, by omega, gX, by rw [tk]; exact sc.snoc ⟨k, nd, hk, rfl, .inr ⟨fun z => hno u z.2 ⟨z.1, rfl⟩, rfl⟩⟩⟩
        have lk : ∃ v, look (it (p.fx x) u k) (ext (p.fx x) L u k) = some v := by
          cases q : look (it (p.fx x) u k) (ext (p.fx x) L u k) with
          | none => exact absurd hk (look_none.mp q)
          | some v => exact ⟨v, rfl⟩
        obtain ⟨v, lk⟩ := lk
        have vx := vIxC_loc b1 (nkOf_tsv (it (p.fx x) u k)) (d := tsv v) (by rw [dL2_look, lk]; rfl)
        have ev := eq_ts v u S2
        have cond : bAnd (bVal (eBin vEq (eBin vIxC (eVar 2) (eVar 4)) (eVar 3))) (bVal (eBin vNe (eVar 5) (eLst lNil))) r2 S2 = .ok (decide (v = u) && decide (orb (p.fx x) u k ≠ [])) S2 := by
          have z0 : 0 ≤ sizeLine := Nat.zero_le _
          generalize tsv (it (p.fx x) u k) = T1 at *
          generalize tsv u = T2 at *
          generalize tsv v = T3 at *
          by_cases c1 : v = u
          · simp [g6, n0, c1, g3, g5, vx, g4, ev]
          · simp [g6, n0, c1, g3, g5, vx, g4, ev]
        by_cases c1 : orb (p.fx x) u k ≠ [] ∧ v = u
        · have k0 : 0 < k := by
            rcases Nat.eq_zero_or_pos k with z | z
            · subst z; exact absurd rfl c1.1
            · exact z
          have mk : it (p.fx x) u k ∈ orb (p.fx x) u k := by
            have m := look_mem lk
            unfold ext at m
            rcases List.mem_append.mp m with m | m
            · have := gL.val _ m
              rw [c1.2] at this
              rw [ext_keys, List.nodup_append] at nd
              exact absurd rfl (nd.2.2 u this u (orb_mem.mpr ⟨0, k0, rfl⟩))
            · obtain ⟨a, ha, e⟩ := List.mem_map.mp m
              injection e with e1 e2
              rw [← e1]; exact ha
          have nk : (orb (p.fx x) u k).Nodup := by rw [ext_keys, List.nodup_append] at nd; exact nd.2.1
          have st : Stop (p.fx x) u k := ⟨nk, mk⟩
          have ix := vIndexA_loc b2 mk
          have iT := isT_loc b2
          have iT0 := isT_loc b0
          have tu : ∀ xs : List PV, vTupleU [.lst xs] S2 = .ok (.tub xs) S2 := fun xs => rfl
          have sl := sl_loc_from b2 ((orb (p.fx x) u k).idxOf (it (p.fx x) u k)) (by rw [orb_len]; have := st.cyc.1; omega)
          have le := begun_least_ok (tail_ne st) (by have := tail_len (f := p.fx x) (s := u) (n := k); omega) S2
          obtain ⟨j, n, e5, g5r⟩ := tail_rg st
          have ap := app_at (d := rV (rotm (tail (p.fx x) u k))) b0 (by rw [List.length_map]; omega)
          rw [hS2, c0_set, ← hS2, ← List.map_singleton, ← List.map_append] at ap
          obtain ⟨W, hW⟩ : ∃ W, W = S ++ .lst ((F ++ [rotm (tail (p.fx x) u k)]).map rV) :: .dic (dL2 (ext (p.fx x) L u k)) (ep + k) :: (T ++ [.lst (vss (orb (p.fx x) u k))]) := ⟨_, rfl⟩
          rw [← hW] at ap
          replace ap : vAppend (.loc S.length) [.tup (vss (rotm (tail (p.fx x) u k)))] S2 = .ok .non W := ap
          refine ⟨_, r2, W, rfl, .inl ?_, F ++ [rotm (tail (p.fx x) u k)], ext (p.fx x) L u k, ep + k, T ++ [.lst (vss (orb (p.fx x) u k))], hW, hr2.sub, fun q hq => ?_, by rw [List.length_append]; simp; omega, gX, by rw [tk]; exact sc.snoc ⟨k, nd, hk, rfl, .inl ⟨c1.1, by rw [lk, c1.2], rfl⟩⟩⟩
          · unfold w_p_rings_in_2
            rw [seq_nx e0, seq_nx e1]
            have cond' : bAnd (bVal (eBin vEq (eBin vIxC (eVar 2) (eVar 4)) (eVar 3))) (bVal (eBin vNe (eVar 5) (eLst lNil))) r2 S2 = .ok true S2 := by
              rw [cond]; simp [c1.1, c1.2]
            rw [sIf_ap, cond', Res.bind_ok, if_pos rfl]
            unfold tail at le ap
            generalize vss (rotm ((orb (p.fx x) u k).drop ((orb (p.fx x) u k).idxOf (it (p.fx x) u k)))) = R at *
            generalize vss ((orb (p.fx x) u k).drop ((orb (p.fx x) u k).idxOf (it (p.fx x) u k))) = A at *
            generalize tsv (it (p.fx x) u k) = T1 at *
            simp [g2, g5, g6, iT, iT0, ix, sl, tu, le, ap]
          · rcases List.mem_append.mp hq with m | m
            · exact hF q m
            · simp at m; subst m
              exact ⟨it (p.fx x) u j, n, it_st h hu x j, g5r, e5⟩
        · refine ⟨_, r2, S2, rfl, .inl ?_, skip (fun v' hv' z => c1 ⟨z.1, by rw [lk] at hv'; cases hv'; exact z.2⟩) r2 hr2⟩
          unfold w_p_rings_in_2
          rw [seq_nx e0, seq_nx e1]
          have cond' : bAnd (bVal (eBin vEq (eBin vIxC (eVar 2) (eVar 4)) (eVar 3))) (bVal (eBin vNe (eVar 5) (eLst lNil))) r2 S2 = .ok false S2 := by
            rw [cond]
            by_cases z : v = u
            · have : ¬ orb (p.fx x) u k ≠ [] := fun y => c1 ⟨y, z⟩
              simp [this]
            · simp [z]
          rw [sIf_ap, cond', Res.bind_ok, if_neg (by simp)]; rfl)
  have g2 := hr.get 1 (v := .loc S.length)
  have b0 : S'[S.length]? = some (.lst (F.map rV)) := by rw [eS]; exact c0_at _ _ _
  have so := sortR_ok (fun r hr => rot_ne (hF r hr)) b0
  rw [vss_len, List.take_length] at sc
  refine ⟨F, L, sc, ?_⟩
  refine fn_own (d := .lst ((srt F).map rV)) (T := .lst (F.map rV) :: .dic (dL2 L) ep :: T) ?_ (allI_small hS _) ?_ (fun z => by cases z)
  · rw [← eS]
    unfold b_p_rings_in
    have e0 : sPar 1 2 (lCons (eCell (lDis lNil)) (lCons eCelD lNil)) (start1 6 [p.ld x]) S = .ok (.nx [some (p.ld x), some (.loc S.length), some (.loc (S.length + 1)), none, none, none]) (S ++ [.lst [], .dic [] 0]) := by
      generalize p.ld x = O
      simp [start1, List.replicate]
    have e' : l_p_rings_in_2 [some (p.ld x), some (.loc S.length), some (.loc (S.length + 1)), none, none, none] (S ++ [.lst [], .dic [] 0]) = .ok (.nx r') S' := e
    rw [seq_nx e0, seq_nx e', sRet_ap, eCB_ap, lCons_ap, eVar_ap, g2, varK_some, Res.bind_ok, lNil_ap, Res.bind_ok, Res.bind_ok, so]; rfl
  · unfold frz
    rw [if_pos (small_rV _ _)]
end Hl
namespace Hl
open PySem L2 Dn
def lim (n : Nat) (h : Int) : Prop := h ≤ 12 ∧ (n = 2 → h ≤ 5) ∧ (n = 3 → h ≤ 2)
theorem parts_lim {L k n : Nat} {S : Store} (h : Pn L k n S) (hn : n + 100 ≤ 1000000000000) : ∃ (p : Pt) (S' : Store), m_parts_k60 [.loc k] S = .ok p.pv S' ∧ p.Ok ∧ Pn L k (n + 20) S' ∧ lim p.ts.length p.h := by
  obtain ⟨v1, S1, e1, a1, b1, p1⟩ := draw_ok (m := 5) h (by omega) (by omega)
  obtain ⟨d1, i1, m1⟩ := atI_in (xs := [.int 1, .int 2, .int 2, .int 1, .int 3]) a1 (by simpa using b1)
  have hm : ∃ m : Nat, d1 = .int m ∧ 1 ≤ m ∧ m ≤ 3 := by
    simp at m1
    rcases m1 with rfl | rfl | rfl | rfl
    · exact ⟨1, rfl, by omega, by omega⟩
    · exact ⟨2, rfl, by omega, by omega⟩
    · exact ⟨1, rfl, by omega, by omega⟩
    · exact ⟨3, rfl, by omega, by omega⟩
  obtain ⟨m, rfl, hm1, hm2⟩ := hm
  have x1 : vIx (.lst [.int 1, .int 2, .int 2, .int 1, .int 3]) (.int v1) S1 = .ok (.int m) S1 := by
    show ofO (atI _ v1) S1 = _
    rw [i1]; rfl
  obtain ⟨v2, S2, e2, a2, b2, p2⟩ := draw_ok (m := 16) p1 (by omega) (by omega)
  obtain ⟨v3, S3, e3, a3, b3, p3⟩ := draw_ok (m := 3) p2 (by omega) (by omega)
  obtain ⟨d3, i3, m3⟩ := atI_in (xs := [.int (1 + v2), .int 32, .int (1 + v2 + 1)]) a3 (by simpa using b3)
  have hz : ∃ z : Int, d3 = .int z ∧ 1 ≤ z ∧ z ≤ 32 := by
    simp at m3
    rcases m3 with rfl | rfl | rfl <;> exact ⟨_, rfl, by omega, by omega⟩
  obtain ⟨z, rfl, hz1, hz2⟩ := hz
  have x3 : vIx (.lst [.int (1 + v2), .int 32, .int (1 + v2 + 1)]) (.int v3) S3 = .ok (.int z) S3 := by
    show ofO (atI _ v3) S3 = _
    rw [i3]; rfl
  obtain ⟨vs, S5, e5, p5, l5, r5⟩ := compM_inv (g := gNm 7) (t := bYes) (f := eBin vSub (eCallN 2 m_draw [] (lCons (eVar 0) (lCons (eBin vAdd (eBin vMul (eC (.int 2)) (eVar 3)) (eC (.int 1))) lNil))) (eVar 3)) (c := ⟨rng 0 m, none⟩) (r0 := [some (.loc k), some (.int m), some (.int (1 + v2)), some (.int z), none, none, none, none]) rfl
    (fun j S' => Pn L k (n + 1 + 1 + 1 + j) S') (fun _ v => ∃ t : Int, v = .int t ∧ (-32 ≤ t ∧ t ≤ 32)) (rng 0 m) 0 S3 (fun i d hd S' hj => by
      obtain ⟨hi, rfl⟩ := rng_get hd
      have m1 : vMul (.int 2) (.int z) S' = .ok (.int (2 * z)) S' := mul2 (by omega)
      obtain ⟨v, S6, e6, v0, v1, p6⟩ := draw_ok (m := 2 * z + 1) hj (by omega) (by omega)
      exact ⟨_, .int (v - z), S6, rfl, rfl, by simp [m1, e6], ⟨v - z, rfl, by omega⟩, p6.le (by omega)⟩) (p3.le (by omega))
  obtain ⟨ts, rfl, ht⟩ := ints_of r5
  rw [List.length_map, rng_len] at l5
  rw [rng_len] at p5
  have ir := iRange1_ok (a := eVar 1) (r := [some (.loc k), some (.int m), some (.int (1 + v2)), some (.int z), none, none, none, none]) (S := S3) (S1 := S3) (n := m) rfl (by omega)
  have c5 : c_parts_k60_1 [some (.loc k), some (.int m), some (.int (1 + v2)), some (.int z), none, none, none, none] S3 = .ok (ts.map PV.int) S5 := by
    unfold c_parts_k60_1
    simp [ir, rng_len, show m ≤ 16777216 by omega, e5]
  -- the greatest size
  have hf : ∃ f : Int, vIx (.lst [.int 12, .int 5, .int 2]) (.int ((m : Int) - 1)) S5 = .ok (.int f) S5 ∧ 1 ≤ f ∧ f ≤ 12 ∧ (2 * f + 1) ^ m ≤ 2500 ∧ lim m f := by
    have : m = 1 ∨ m = 2 ∨ m = 3 := by omega
    rcases this with rfl | rfl | rfl
    · exact ⟨12, rfl, by decide, by decide, by decide, by unfold lim; omega⟩
    · exact ⟨5, rfl, by decide, by decide, by decide, by unfold lim; omega⟩
    · exact ⟨2, rfl, by decide, by decide, by decide, by unfold lim; omega⟩
  obtain ⟨f, x5, f1, f2, f3, f4⟩ := hf
  obtain ⟨v6, S6, e6, a6, b6, p6⟩ := draw_ok (m := f) p5 (by omega) (by omega)
  obtain ⟨v7, S7, e7, a7, b7, p7⟩ := draw_ok (m := 4) p6 (by omega) (by omega)
  obtain ⟨d7, i7, m7⟩ := atI_in (xs := [.str "near", .str "cut", .str "down", .str "near"]) a7 (by simpa using b7)
  have hw : ∃ w : Str, d7 = .str w ∧ (w = "near" ∨ w = "cut" ∨ w = "down") := by
    simp at m7
    rcases m7 with rfl | rfl | rfl | rfl
    · exact ⟨_, rfl, .inl rfl⟩
    · exact ⟨_, rfl, .inr (.inl rfl)⟩
    · exact ⟨_, rfl, .inr (.inr rfl)⟩
    · exact ⟨_, rfl, .inl rfl⟩
  obtain ⟨w, rfl, hw⟩ := hw
  have x7 : vIx (.lst [.str "near", .str "cut", .str "down", .str "near"]) (.int v7) S7 = .ok (.str w) S7 := by
    show ofO (atI _ v7) S7 = _
    rw [i7]; rfl
  obtain ⟨v8, S8, e8, a8, b8, p8⟩ := draw_ok (m := 3) p7 (by omega) (by omega)
  obtain ⟨v9, S9, e9, a9, b9, p9⟩ := draw_ok (m := 3) p8 (by omega) (by omega)
  have hst : (2 * (1 + v6) + 1) ^ m ≤ 2500 := by
    have : (2 * (1 + v6) + 1) ^ m ≤ (2 * f + 1) ^ m := ipow_mono (by omega) (by omega) m
    omega
  refine ⟨⟨ts, 1 + v2, w, 1 + v6, decide (0 < v8), decide (v9 = 0)⟩, S9, fn_pn h p9 ?_, ⟨by show 1 ≤ ts.length ∧ ts.length ≤ 3; omega, ht, by show 1 ≤ 1 + v2 ∧ 1 + v2 ≤ 16; omega, hw, by show 1 ≤ 1 + v6 ∧ 1 + v6 ≤ 60; omega, by show (2 * (1 + v6) + 1) ^ ts.length ≤ 2500; rw [l5]; exact hst⟩, p9.le (by omega), by
    show lim ts.length (1 + v6)
    rw [l5]; unfold lim at f4 ⊢; omega⟩
  unfold b_parts_k60
  simp [start1, List.replicate, e1, x1, e2, e3, x3, c5, x5, e6, e7, x7, e8, e9, tsv, Pt.pv]
end Hl
namespace Hl
open PySem L2 Dn PySem.W PyProof.Rows
theorem orb_cons {f : List Int → List Int} {m : List Int} {n : Nat} (h : 0 < n) : ∃ t, orb f m n = m :: t := by
  cases n with
  | zero => omega
  | succ n => exact ⟨_, by unfold orb; rw [List.range_succ_eq_map]; rfl⟩
theorem lim_U {p : Pt} (h : p.Ok) (l : lim p.ts.length p.h) : p.U.length ≤ 125 := by
  have hh := h.h
  have hl := h.len
  have u := spn_len (h := p.h) (by omega) p.ts.length
  obtain ⟨l1, l2, l3⟩ := l
  have : (2 * p.h + 1) ^ p.ts.length ≤ 125 := by
    have c : p.ts.length = 1 ∨ p.ts.length = 2 ∨ p.ts.length = 3 := by omega
    rcases c with c | c | c <;> rw [c]
    · have := ipow_mono (a := 2 * p.h + 1) (b := 25) (by omega) (by omega) 1
      have e : (25 : Int) ^ 1 = 25 := by decide
      omega
    · have := ipow_mono (a := 2 * p.h + 1) (b := 11) (by omega) (by omega) 2
      have e : (11 : Int) ^ 2 = 121 := by decide
      omega
    · have := ipow_mono (a := 2 * p.h + 1) (b := 5) (by omega) (by omega) 3
      have e : (5 : Int) ^ 3 = 125 := by decide
      omega
  unfold Pt.U; omega
theorem Dts.vss {p : Pt} (h : p.Ok) : ∀ {r : List (List Int)}, (∀ s ∈ r, p.St s) → Dts (Hl.vss r) (r.map pdts) (5774 * r.length) 2
  | [], _ => .nil _ _
  | s :: r, hr => by
    have ih := Dts.vss h (r := r) fun q hq => hr q (List.mem_cons_of_mem _ hq)
    have hs := hr s List.mem_cons_self
    have d := (Dt.tsv (st_smallI h hs)).le (c' := 5772) (e' := 2) (by have := hs.len; have := h.len; omega) (Nat.le_refl _)
    exact Dts.cons d ih (by rw [List.length_cons]; omega)
end Hl
namespace Hl
open PySem L2 Dn PySem.W PyProof.Rows
end Hl
namespace Hl
open PySem L2 Dn PySem.W PyProof.Rows
theorem G_len {p : Pt} (h : p.Ok) {x : Int} {G : List (List (List Int))} (nd : G.Nodup) (hG : ∀ r ∈ G, p.GoodR x r) : G.length ≤ p.U.length := by
  have hd : ∀ r ∈ G, ∃ m n, p.St m ∧ Rg (p.fx x) m n ∧ r = orb (p.fx x) m n ∧ r.headD [] = m := fun r hr => by
    obtain ⟨m, n, hm, g, e⟩ := hG r hr
    obtain ⟨t, et⟩ := orb_cons (f := p.fx x) (m := m) g.cyc.pos
    exact ⟨m, n, hm, g, e, by rw [e, et]; rfl⟩
  have := nodup_sub (xs := G.map fun r => r.headD []) (ys := p.U) (by
    rw [List.Nodup, List.pairwise_map]
    refine nd.imp_of_mem fun {a b} ha hb ne e => ne ?_
    obtain ⟨m, n, _, g, ea, e1⟩ := hd a ha
    obtain ⟨m', n', _, g', eb, e2⟩ := hd b hb
    rw [e1, e2] at e
    subst e
    have := stop_one g.cyc.stop g'.cyc.stop
    subst this
    rw [ea, eb]) fun s hs => by
    obtain ⟨r, hr, rfl⟩ := List.mem_map.mp hs
    obtain ⟨m, n, hm, _, _, e1⟩ := hd r hr
    rw [e1]; exact (U_mem h).mpr hm
  rwa [List.length_map] at this
end Hl
namespace Hl
open PySem L2 Dn PySem.W PyProof.Rows
theorem kS_app : ∀ {a b : List Int} {u v : List (Int ⊕ List Nat)}, kS a ++ u = kS b ++ v → a = b ∧ u = v
  | [], [], u, v, h => by
    simp [kS, keyToksAll] at h
    exact ⟨rfl, h⟩
  | [], y :: ys, u, v, h => by simp [kS, keyToksAll] at h
  | x :: xs, [], u, v, h => by simp [kS, keyToksAll] at h
  | x :: xs, y :: ys, u, v, h => by
    simp only [kS, keyToksAll, keyToks, List.map_cons, List.cons_append, List.nil_append, List.cons.injEq, Sum.inl.injEq] at h
    obtain ⟨e, e2⟩ := kS_app (a := xs) (b := ys) h.2.2
    exact ⟨by rw [h.2.1, e], e2⟩
def kR (r : List (List Int)) : List (Int ⊕ List Nat) := keyToksAll (r.map pdts)
theorem kR_inj : ∀ {a b : List (List Int)}, kR a = kR b → a = b
  | [], [], _ => rfl
  | [], y :: ys, h => by simp [kR, keyToksAll] at h
  | x :: xs, [], h => by simp [kR, keyToksAll] at h
  | x :: xs, y :: ys, h => by
    have tk : ∀ s, keyToks (pdts s) = kS s := fun s => by unfold pdts kS; simp only [keyToks]
    simp only [kR, keyToksAll, List.map_cons, tk, List.cons.injEq, true_and] at h
    obtain ⟨e, e2⟩ := kS_app h
    rw [e, kR_inj (a := xs) (b := ys) e2]
theorem dlt_rV (a b : List (List Int)) : dataLt (dat (rV a)) (dat (rV b)) = PyProof.Rows.lexLt itemOrd (kR a) (kR b) := by
  rw [dat_rV, dat_rV]
  unfold dataLt kR
  simp only [keyToks]
theorem le_trans_d (a b c : PV) (h1 : PySem.W.dataLe false dat a b = true) (h2 : PySem.W.dataLe false dat b c = true) : PySem.W.dataLe false dat a c = true := by
  simp only [dataLe_eq, cond_false, Bool.not_eq_true'] at h1 h2 ⊢
  cases q : dataLt (dat c) (dat a) with
  | false => rfl
  | true =>
    unfold dataLt at q h1 h2
    rcases lex_negTrans (O := itemOrd) _ (keyToks (dat b)) _ q with k | k
    · rw [h2] at k; cases k
    · rw [h1] at k; cases k
theorem le_total_d (a b : PV) : (PySem.W.dataLe false dat a b || PySem.W.dataLe false dat b a) = true := by
  simp only [dataLe_eq, cond_false]
  cases q : dataLt (dat b) (dat a) with
  | false => rfl
  | true =>
    cases q2 : dataLt (dat a) (dat b) with
    | false => rfl
    | true =>
      unfold dataLt at q q2
      have := lex_trans (O := itemOrd) _ _ _ q q2
      rw [lex_irrefl] at this; cases this
def ltR (a b : List (List Int)) : Prop := PyProof.Rows.lexLt itemOrd (kR a) (kR b) = true
theorem srt_pair (F : List (List (List Int))) : (srt F).Pairwise fun a b => ¬ ltR b a := by
  have h := List.pairwise_mergeSort (le := PySem.W.dataLe false dat) le_trans_d le_total_d (F.map rV)
  have e : (srt F).map rV = (F.map rV).mergeSort (PySem.W.dataLe false dat) := srt_map F
  rw [← e, List.pairwise_map] at h
  refine h.imp fun {a b} q => ?_
  simp only [dataLe_eq, cond_false, Bool.not_eq_true', dlt_rV] at q
  unfold ltR; rw [q]; simp
theorem ltR_total {a b : List (List Int)} (h1 : ¬ ltR a b) (h2 : ¬ ltR b a) : a = b := by
  unfold ltR at h1 h2
  exact kR_inj (lex_total (O := itemOrd) _ _ (by simpa using h1) (by simpa using h2))
theorem sorted_one {G G' : List (List (List Int))} (p : G.Perm G') (h : G.Pairwise fun a b => ¬ ltR b a) (h' : G'.Pairwise fun a b => ¬ ltR b a) : G = G' :=
  List.Perm.eq_of_pairwise (fun a b _ _ h1 h2 => ltR_total h2 h1) h h' p
structure Rgs (p : Pt) (x : Int) (G : List (List (List Int))) : Prop where
  nd : G.Nodup
  good : ∀ r ∈ G, p.GoodR x r
  all : ∀ m n, p.St m → Rg (p.fx x) m n → orb (p.fx x) m n ∈ G
  asc : G.Pairwise fun a b => ¬ ltR b a
theorem Rgs.one {p q : Pt} {x y : Int} {G G' : List (List (List Int))} (h : Rgs p x G) (h' : Rgs q y G') (e : ∀ r, r ∈ G ↔ r ∈ G') : G = G' :=
  sorted_one ((List.perm_ext_iff_of_nodup h.nd h'.nd).mpr e) h.asc h'.asc
theorem Rgs.mem {p : Pt} {x : Int} {G : List (List (List Int))} (h : Rgs p x G) {r : List (List Int)} : r ∈ G ↔ p.GoodR x r := ⟨h.good r, fun ⟨m, n, hm, g, e⟩ => by rw [e]; exact h.all m n hm g⟩
theorem Rgs.len {p : Pt} (hp : p.Ok) {x : Int} {G : List (List (List Int))} (h : Rgs p x G) : G.length ≤ p.U.length := G_len hp h.nd h.good
theorem Rgs.uniq {p : Pt} {x : Int} {G G' : List (List (List Int))} (h : Rgs p x G) (h' : Rgs p x G') : G = G' := h.one h' fun r => h.mem.trans h'.mem.symm
theorem rings2 {p : Pt} (h : p.Ok) {x : Int} (hx : -1000 ≤ x ∧ x ≤ 1000) : ∃ G : List (List (List Int)), Rgs p x G ∧
    (∀ S, AllI S → m_rings [p.pv, .int x] S = .ok (.lst (G.map rV)) S) ∧ (∀ S, AllI S → m_p_rings [p.obj, .int x] S = .ok (.tub (G.map rV)) S) := by
  obtain ⟨F, L, sc, hF, gL, _⟩ := rings_scan h x AllI.nil
  obtain ⟨nd, al⟩ := rings_all h x sc
  refine ⟨srt F, ⟨(srt_perm F).nodup_iff.mpr nd, fun r hr => hF r ((srt_perm F).mem_iff.mp hr), fun m n hm g => (srt_perm F).mem_iff.mpr (al m n hm g), srt_pair F⟩, fun S hS => ?_, fun S hS => ?_⟩
  · obtain ⟨F', L', sc', _, _, e⟩ := rings_scan h x hS
    rw [(scan_one sc sc').1]; exact e
  · obtain ⟨F', L', sc', e⟩ := prings_scan h x hS
    have ns := need_source_ok p S
    have ni := need_input_ok hx S
    have so := steps_of_ok h x hS
    rw [(scan_one sc sc').1]
    have tu : vTupleU [.lst ((srt F').map rV)] S = .ok (.tub ((srt F').map rV)) S := rfl
    replace so : m_p_steps_of [p.obj, .int x] S = .ok (p.ld x) S := so
    refine run_fn ?_
    unfold b_p_rings
    generalize (srt F').map rV = R at *
    generalize p.ld x = D at *
    generalize p.obj = O at *
    simp [start1, List.replicate, ns, ni, so, e, tu]
theorem Rgs.prog {p : Pt} (h : p.Ok) {x : Int} (hx : -1000 ≤ x ∧ x ≤ 1000) {G : List (List (List Int))} (g : Rgs p x G) {S : Store} (hS : AllI S) : m_p_rings [p.obj, .int x] S = .ok (.tub (G.map rV)) S := by
  obtain ⟨G', g', _, e⟩ := rings2 h hx
  rw [g.uniq g']; exact e S hS
theorem Rgs.law {p : Pt} (h : p.Ok) {x : Int} (hx : -1000 ≤ x ∧ x ≤ 1000) {G : List (List (List Int))} (g : Rgs p x G) {S : Store} (hS : AllI S) : m_rings [p.pv, .int x] S = .ok (.lst (G.map rV)) S := by
  obtain ⟨G', g', e, _⟩ := rings2 h hx
  rw [g.uniq g']; exact e S hS
theorem Rgs.from {p : Pt} (h : p.Ok) {x : Int} {G : List (List (List Int))} (g : Rgs p x G) {s : List Int} (hs : p.St s) : ∃ n, Stop (p.fx x) s n ∧ rotm (tail (p.fx x) s n) ∈ G := by
  obtain ⟨n, st⟩ := stop_ex h x hs
  obtain ⟨j, m, e, rg⟩ := tail_rg st
  exact ⟨n, st, by rw [e]; exact g.all _ _ (it_st h hs x j) rg⟩
def Pt.zs (p : Pt) : List Int := List.replicate p.ts.length 0
theorem zs_st {p : Pt} (h : p.Ok) : p.St p.zs := ⟨by unfold Pt.zs; simp, fun x hx => by
  unfold Pt.zs at hx
  rw [List.mem_replicate] at hx
  have := h.h
  omega⟩
theorem Rgs.ne {p : Pt} (h : p.Ok) {x : Int} {G : List (List (List Int))} (g : Rgs p x G) : G ≠ [] := fun e => by
  obtain ⟨n, _, m⟩ := g.from h (zs_st h)
  rw [e] at m; cases m
@[simp] theorem ePropT_ap (tb : List (Str × Fn)) (o : EM) (r : Env1) (S : Store) : ePropT tb o r S = (o r S).bind fun d S1 => propT tb d S1 := rfl
end Hl
namespace Hl
open PySem L2 Dn
end Hl
namespace Hl
open PySem L2 Dn PySem.W PyProof.Rows
def az (s : List Int) : List Int := s.map fun t => (t.natAbs : Int)
end Hl
namespace Hl
open PySem L2 Dn PySem.W PyProof.Rows
end Hl
namespace Hl
open PySem L2 Dn PySem.W PyProof.Rows
section
variable {f : List Int → List Int}
def Per (f : List Int → List Int) (s : List Int) : Prop := ∃ n, 0 < n ∧ it f s n = s
theorem Per.it {s : List Int} (h : Per f s) (k : Nat) : Per f (it f s k) := by
  obtain ⟨n, h0, e⟩ := h
  exact ⟨n, h0, by rw [← it_add, Nat.add_comm, it_add, e]⟩
open Classical in
noncomputable def ah (f : List Int → List Int) (s : List Int) : Nat := if h : ∃ n, Stop f s n then (orb f s h.choose).idxOf (it f s h.choose) else 0
end
end Hl
namespace Hl
open PySem L2 Dn
end Hl
namespace Hl
open PySem L2 Dn PySem.W PyProof.Rows
@[simp] theorem eTupU_ap (a : LM) (r : Env1) (S : Store) : eTupU a r S = (a r S).bind fun ds S1 => if ds.length ≤ sizeLine then .ok (.tub ds) S1 else .bad := rfl
@[simp] theorem eMaxV_ap (a : EM) (r : Env1) (S : Store) : eMaxV a r S = (a r S).bind maxVs := rfl
@[simp] theorem eRevL_ap (a : EM) (r : Env1) (S : Store) : eRevL a r S = (a r S).bind vRevL := rfl
structure Far (p : Pt) (x : Int) (M : Nat) (m : List Int) : Prop where
  st : p.St m
  at_ : ah (p.fx x) m = M
  top : ∀ s, p.St s → ah (p.fx x) s ≤ M
  low : ∀ s, p.St s → ah (p.fx x) s = M → ltS s m = false
end Hl
namespace Hl
open PySem L2 Dn PySem.W PyProof.Rows
def hd0 (s : List Int) : Int := s.headD 0
theorem ix0_ts {s : List Int} (h : 0 < s.length) (S : Store) : vIx (tsv s) (.int 0) S = .ok (.int (hd0 s)) S := by
  cases s with
  | nil => simp at h
  | cons a t => exact ix_ts (ts := a :: t) (n := 0) rfl S
end Hl
namespace Hl
open PySem L2 Dn PySem.W PyProof.Rows
def amax (s : List Int) : Int := maxI (az s)
theorem amax_le {s : List Int} (hs : s ≠ []) {z : Int} : amax s ≤ z ↔ ∀ t ∈ s, (t.natAbs : Int) ≤ z := by
  have ne : az s ≠ [] := by unfold az; simpa using hs
  obtain ⟨m1, m2⟩ := maxI_mem ne
  unfold amax
  constructor
  · intro h t ht
    exact Int.le_trans (m2 _ (List.mem_map.mpr ⟨t, ht, rfl⟩)) h
  · intro h
    obtain ⟨t, ht, e⟩ := List.mem_map.mp m1
    rw [← e]; exact h t ht
def ab0 (s : List Int) : Int := ((hd0 s).natAbs : Int)
structure Peak (p : Pt) (z M : Int) : Prop where
  top : ∀ w, p.St w → amax w ≤ z → ∀ n, 1 ≤ n → ab0 (it (p.fx 0) w n) ≤ M
  hit : ∃ w, p.St w ∧ amax w ≤ z ∧ ∃ n, 1 ≤ n ∧ ab0 (it (p.fx 0) w n) = M
theorem Peak.one {p : Pt} {z M M' : Int} (a : Peak p z M) (b : Peak p z M') : M = M' := by
  obtain ⟨w, h1, h2, n, h3, h4⟩ := a.hit
  obtain ⟨w', h1', h2', n', h3', h4'⟩ := b.hit
  have x := b.top w h1 h2 n h3
  have y := a.top w' h1' h2' n' h3'
  omega
theorem st_ne {p : Pt} (h : p.Ok) {s : List Int} (hs : p.St s) : s ≠ [] := fun e => by
  have := hs.len
  have := h.len
  rw [e] at *
  simp at *; omega
structure PkI (p : Pt) (z : Int) (Wt ks : List (List Int)) (most : Int) : Prop where
  nd : ks.Nodup
  sk : ∀ k ∈ ks, p.St k
  sw : ∀ w ∈ Wt, p.St w
  got : ∀ k ∈ ks, (∃ w, p.St w ∧ amax w ≤ z ∧ ∃ n, 1 ≤ n ∧ it (p.fx 0) w n = k) ∧ ab0 k ≤ most
  wait : ∀ w ∈ Wt, amax w ≤ z ∨ w ∈ ks
  cl0 : ∀ w, p.St w → amax w ≤ z → w ∈ Wt ∨ p.fx 0 w ∈ ks
  clk : ∀ k ∈ ks, k ∈ Wt ∨ p.fx 0 k ∈ ks
  att : most = 0 ∨ ∃ k ∈ ks, ab0 k = most
  nn : 0 ≤ most
theorem PkI.start {p : Pt} (h : p.Ok) (z : Int) : PkI p z (p.U.filter fun s => decide (amax s ≤ z)) [] 0 := by
  refine ⟨List.nodup_nil, nofun, fun w hw => (U_mem h).mp (List.mem_filter.mp hw).1, nofun, fun w hw => .inl (by simpa using (List.mem_filter.mp hw).2), fun w hs hz => .inl (List.mem_filter.mpr ⟨(U_mem h).mpr hs, by simpa using hz⟩), nofun, .inl rfl, Int.le_refl _⟩
theorem PkI.rch {p : Pt} {z : Int} {Wt ks : List (List Int)} {most : Int} (I : PkI p z Wt ks most) {w : List Int} (hw : w ∈ Wt) : ∃ v, p.St v ∧ amax v ≤ z ∧ ∃ n, 1 ≤ n ∧ it (p.fx 0) v n = p.fx 0 w := by
  rcases I.wait w hw with q | q
  · exact ⟨w, I.sw w hw, q, 1, Nat.le_refl _, rfl⟩
  · obtain ⟨v, h1, h2, n, h3, e⟩ := (I.got w q).1
    exact ⟨v, h1, h2, n + 1, by omega, by show p.fx 0 (it (p.fx 0) v n) = _; rw [e]⟩
theorem PkI.old {p : Pt} {z : Int} {Wt ks : List (List Int)} {most : Int} {w : List Int} (I : PkI p z (Wt ++ [w]) ks most) (hin : p.fx 0 w ∈ ks) : PkI p z Wt ks (max most (ab0 (p.fx 0 w))) := by
  have e : max most (ab0 (p.fx 0 w)) = most := by have := (I.got _ hin).2; omega
  rw [e]
  refine ⟨I.nd, I.sk, fun v hv => I.sw v (List.mem_append_left _ hv), I.got, fun v hv => I.wait v (List.mem_append_left _ hv), fun v hs hz => ?_, fun k hk => ?_, I.att, I.nn⟩
  · rcases I.cl0 v hs hz with q | q
    · rcases List.mem_append.mp q with q | q
      · exact .inl q
      · simp at q; subst q; exact .inr hin
    · exact .inr q
  · rcases I.clk k hk with q | q
    · rcases List.mem_append.mp q with q | q
      · exact .inl q
      · simp at q; subst q; exact .inr hin
    · exact .inr q
theorem PkI.new {p : Pt} (h : p.Ok) {z : Int} {Wt ks : List (List Int)} {most : Int} {w : List Int} (I : PkI p z (Wt ++ [w]) ks most) (out : p.fx 0 w ∉ ks) : PkI p z (Wt ++ [p.fx 0 w]) (ks ++ [p.fx 0 w]) (max most (ab0 (p.fx 0 w))) := by
  have sw := I.sw w (by simp)
  have sf : p.St (p.fx 0 w) := step_st h sw 0
  have ew : w ∈ Wt ++ [w] := by simp
  have up : ∀ v, v ∈ Wt ++ [w] ∨ p.fx 0 v ∈ ks → v ∈ Wt ++ [p.fx 0 w] ∨ p.fx 0 v ∈ ks ++ [p.fx 0 w] := fun v q => by
    rcases q with q | q
    · rcases List.mem_append.mp q with q | q
      · exact .inl (List.mem_append_left _ q)
      · simp at q; subst q; exact .inr (by simp)
    · exact .inr (List.mem_append_left _ q)
  refine ⟨nodup_snoc I.nd out, fun k hk => ?_, fun v hv => ?_, fun k hk => ?_, fun v hv => ?_, fun v hs hz => up v (I.cl0 v hs hz), fun k hk => ?_, ?_, by have := I.nn; omega⟩
  · rcases List.mem_append.mp hk with q | q
    · exact I.sk k q
    · simp at q; subst q; exact sf
  · rcases List.mem_append.mp hv with q | q
    · exact I.sw v (List.mem_append_left _ q)
    · simp at q; subst q; exact sf
  · rcases List.mem_append.mp hk with q | q
    · exact ⟨(I.got k q).1, by have := (I.got k q).2; omega⟩
    · simp at q; subst q; exact ⟨I.rch ew, by omega⟩
  · rcases List.mem_append.mp hv with q | q
    · exact (I.wait v (List.mem_append_left _ q)).imp id fun z => List.mem_append_left _ z
    · simp at q; subst q; exact .inr (by simp)
  · rcases List.mem_append.mp hk with q | q
    · exact up k (I.clk k q)
    · simp at q; subst q; exact .inl (by simp)
  · by_cases c : most ≤ ab0 (p.fx 0 w)
    · exact .inr ⟨p.fx 0 w, by simp, by omega⟩
    · rw [show max most (ab0 (p.fx 0 w)) = most by omega]
      exact I.att.imp id fun ⟨k, hk, e⟩ => ⟨k, List.mem_append_left _ hk, e⟩
theorem zs_amax {p : Pt} (h : p.Ok) {z : Int} (hz : 0 ≤ z) : amax p.zs ≤ z := by
  rw [amax_le (st_ne h (zs_st h))]
  intro t ht
  unfold Pt.zs at ht
  rw [(List.mem_replicate.mp ht).2]
  exact hz
theorem PkI.done {p : Pt} (h : p.Ok) {z : Int} (hz : 0 ≤ z) {ks : List (List Int)} {most : Int} (I : PkI p z [] ks most) : Peak p z most := by
  have c0 : ∀ w, p.St w → amax w ≤ z → p.fx 0 w ∈ ks := fun w hs hw => (I.cl0 w hs hw).resolve_left nofun
  have ck : ∀ k ∈ ks, p.fx 0 k ∈ ks := fun k hk => (I.clk k hk).resolve_left nofun
  have all : ∀ w, p.St w → amax w ≤ z → ∀ n, it (p.fx 0) w (n + 1) ∈ ks := fun w hs hw n => by
    induction n with
    | zero => exact c0 w hs hw
    | succ n ih => exact ck _ ih
  refine ⟨fun w hs hw n hn => ?_, ?_⟩
  · obtain ⟨n, rfl⟩ : ∃ m, n = m + 1 := ⟨n - 1, by omega⟩
    exact (I.got _ (all w hs hw n)).2
  · rcases I.att with e | ⟨k, hk, e⟩
    · have q := all p.zs (zs_st h) (zs_amax h hz) 0
      have g : ab0 (it (p.fx 0) p.zs 1) ≤ most := (I.got _ q).2
      refine ⟨p.zs, zs_st h, zs_amax h hz, 1, Nat.le_refl _, ?_⟩
      have nn : 0 ≤ ab0 (it (p.fx 0) p.zs 1) := by unfold ab0; omega
      omega
    · obtain ⟨w, h1, h2, n, h3, e2⟩ := (I.got k hk).1
      exact ⟨w, h1, h2, n, h3, by rw [e2]; exact e⟩
theorem pop_at {S : Store} {k : Nat} {xs : List PV} {d : PV} (e : S[k]? = some (.lst (xs ++ [d]))) : vPop (.loc k) [] S = .ok d (S.set k (.lst xs)) := by
  unfold vPop
  simp [e]
theorem sadd_at {S : Store} {k : Nat} {ks : List (List Int)} {s : List Int} (e : S[k]? = some (.set ks)) (hl : ks.length < 300) (hs : s ∉ ks) : vSAdd (.loc k) [tsv s] S = .ok .non (S.set k (.set (ks ++ [s]))) := by
  have r : rowOf (tsv s) = some s := ints_map s
  unfold vSAdd
  simp only [e, r, if_pos hl, if_neg hs]
theorem inS_at {S : Store} {k : Nat} {ks : List (List Int)} (s : List Int) (e : S[k]? = some (.set ks)) : vInS true (tsv s) (.loc k) S = .ok (.bl (!decide (s ∈ ks))) S := by
  have r : rowOf (tsv s) = some s := ints_map s
  unfold vInS
  simp only [r, e, if_true]
theorem isSet_at {S : Store} {k : Nat} {ks : List (List Int)} (e : S[k]? = some (.set ks)) : isSet S (.loc k) = true := by simp [isSet, e]
theorem two_at0 (S : Store) (a b : Cell) : (S ++ [a, b])[S.length]? = some a := by simp
theorem two_at1 (S : Store) (a b : Cell) : (S ++ [a, b])[S.length + 1]? = some b := by
  rw [List.getElem?_append_right (by omega), show S.length + 1 - S.length = 1 by omega]; rfl
theorem two_set0 (S : Store) (a b c : Cell) : (S ++ [a, b]).set S.length c = S ++ [c, b] := by
  rw [List.set_append_right _ _ (Nat.le_refl _), Nat.sub_self]; rfl
theorem two_set1 (S : Store) (a b c : Cell) : (S ++ [a, b]).set (S.length + 1) c = S ++ [a, c] := by
  rw [List.set_append_right _ _ (by omega), show S.length + 1 - S.length = 1 by omega]; rfl
theorem peak_c {p : Pt} (h : p.Ok) {z : Int} {r : Env1} (hr : Has 8 [(0, p.obj), (1, .int z)] r) {S : Store} (hS : AllI S) : c_p_peak_2 r S = .ok (vss (p.U.filter fun s => decide (amax s ≤ z))) S := by
  have ul := U_len h
  have a0 := hr.get 0 (v := p.obj)
  have so := pstates_ok h hS
  have sz : (vss p.U).length ≤ sizeLine := seq_le (by rw [vss_len]; omega)
  have iv : iVal (eCallN 1 m_p_states_of [] (lCons (eVar 0) lNil)) r S = .ok ⟨vss p.U, none⟩ S := by
    have so2 : srcOf (.lst (vss p.U)) S = .ok ⟨vss p.U, none⟩ S := rfl
    generalize p.obj = O at *
    generalize vss p.U = V at *
    simp [a0, so, so2]
  unfold c_p_peak_2
  rw [lComp_ap, iv]
  simp only [Res.bind_ok, sz, if_true]
  refine compM_fm (.inl rfl) tsv tsv (fun s => decide (amax s ≤ z)) p.U fun s hs => ?_
  have ss := (U_mem h).mp hs
  have w0 : Has 8 [(0, p.obj), (1, .int z)] (wipeE r [6]) := by
    show Has 8 _ (r.set 6 none)
    exact hr.set 6 none
  have w6 := w0.put 6 (tsv s)
  have g1 := w6.get 1 (v := .int z)
  have g6 := w6.get 6 (v := tsv s)
  have sl : s.length ≤ 3 := by have := ss.len; have := h.len; omega
  have c1 : c_p_peak_1 ((wipeE r [6]).set 6 (some (tsv s))) S = .ok ((az s).map PV.int) S := by
    have iv2 : iVal (eVar 6) ((wipeE r [6]).set 6 (some (tsv s))) S = .ok ⟨s.map PV.int, none⟩ S := by rw [iVal_ap, eVar_ap, g6]; rfl
    have sz2 : (s.map PV.int).length ≤ sizeLine := seq_le (by rw [List.length_map]; omega)
    unfold c_p_peak_1
    rw [lComp_ap, iv2]
    simp only [Res.bind_ok, sz2, if_true]
    unfold az
    rw [List.map_map]
    refine compM_map2 (.inl rfl) PV.int (fun t : Int => PV.int ((t.natAbs : Nat) : Int)) s fun t ht => ?_
    have w7 : Has 8 [] (wipeE ((wipeE r [6]).set 6 (some (tsv s))) [7]) := by
      show Has 8 _ (((wipeE r [6]).set 6 (some (tsv s))).set 7 none)
      exact (w6.sub (l' := [])).set 7 none
    have g7 := (w7.put 7 (.int t)).get 7 (v := .int t)
    refine ⟨_, rfl, rfl, ?_⟩
    generalize (wipeE ((wipeE r [6]).set 6 (some (tsv s))) [7]).set 7 (some (PV.int t)) = R at *
    simp [g7]
  have vm : vMax [.lst ((az s).map PV.int)] S = .ok (.int (amax s)) S := by
    have ne : az s ≠ [] := by unfold az; simpa using st_ne h ss
    have l : intsOf S (.lst ((az s).map PV.int)) = some (az s) := by
      unfold intsOf
      rw [show lstOf S (.lst ((az s).map PV.int)) = some ((az s).map PV.int) from rfl]
      exact ints_map _
    show (match intsOf S (.lst ((az s).map PV.int)) with
      | some (n :: ns) => Res.ok (PV.int (maxI (n :: ns))) S
      | _ => .bad) = _
    rw [l]
    unfold amax
    cases q : az s with
    | nil => exact absurd q ne
    | cons a as => rfl
  refine ⟨_, rfl, ?_, fun _ => by rw [eVar_ap, g6]; rfl⟩
  generalize (az s).map PV.int = A at *
  generalize (wipeE r [6]).set 6 (some (tsv s)) = R at *
  simp [c1, vm, g1]
theorem peak_ok {p : Pt} (h : p.Ok) (hu : p.U.length ≤ 300) {z : Int} (hz : 0 ≤ z ∧ z ≤ p.h) {S : Store} (hS : AllI S) : ∃ M, Peak p z M ∧ m_p_peak [p.obj, .int z] S = .ok (.int M) S := by
  have hl := h.len
  have nf := need_filter_ok p S
  have bt := between_ok z 0 p.h S
  have b1 : (decide ((0 : Int) ≤ z) && decide (z ≤ p.h)) = true := by simp; omega
  rw [b1] at bt
  have oc := ofC_ok p
  have hi := high_ok p S
  obtain ⟨r0, er0⟩ : ∃ r0, r0 = start1 8 [p.obj, .int z] := ⟨_, rfl⟩
  have h0 : Has 8 [(0, p.obj), (1, .int z)] r0 := by rw [er0]; exact ⟨rfl, by simp [start1, List.replicate]⟩
  have c2 := peak_c h h0 hS
  obtain ⟨W0, hW⟩ : ∃ W0, W0 = p.U.filter fun s => decide (amax s ≤ z) := ⟨_, rfl⟩
  rw [← hW] at c2
  have st0 := PkI.start h z
  rw [← hW] at st0
  have wl : W0.length ≤ p.U.length := by rw [hW]; exact List.length_filter_le _ _
  obtain ⟨r3, er3⟩ : ∃ r3, r3 = ((r0.set 2 (some (.loc S.length))).set 3 (some (.loc (S.length + 1)))).set 4 (some (.int 0)) := ⟨_, rfl⟩
  have h3 : Has 8 [(0, p.obj), (2, .loc S.length), (3, .loc (S.length + 1)), (4, .int 0)] r3 := by
    rw [er3]; exact (((h0.put 2 (.loc S.length)).put 3 (.loc (S.length + 1))).put 4 (.int 0)).sub
  have head : ∀ X : SM, sSeq (sExpr (eCallN 1 m_p_need_filter [] (lCons (eVar 0) lNil))) (sSeq (sIf (bNot (bVal (eCallN 3 m_p_is_between [] (lCons (eVar 1) (lCons (eC (.int 0)) (lCons (eProp "Filter" m_p_Filter_high (eVar 0)) lNil)))))) (sRaise "NoSize") sNil)
    (sSeq (sSet 2 (eCell c_p_peak_2)) (sSeq (sSet 3 eSet0) (sSeq (sSet 4 (eC (.int 0))) X)))) r0 S = X r3 (S ++ [.lst (vss W0), .set []]) := fun X => by
    have a0 := h0.get 0 (v := p.obj)
    have a1 := h0.get 1 (v := .int z)
    rw [er3]
    generalize p.obj = O at *
    generalize vss W0 = V at *
    simp [-List.getElem?_set_ne, -List.getElem?_set_self, -List.set_set, a0, a1, nf, bt, oc, hi, c2]
  obtain ⟨r', S', e, ks, most, eS, hh, I⟩ := sWhile_R (t := t_p_peak_1) (b := w_p_peak_1)
    (fun m r S' => ∃ Wt ks most, m = Wt.length + (p.U.length - ks.length) ∧ S' = S ++ [.lst (vss Wt), .set ks] ∧ Has 8 [(0, p.obj), (2, .loc S.length), (3, .loc (S.length + 1)), (4, .int most)] r ∧ PkI p z Wt ks most ∧ Wt.length ≤ 1000)
    (fun r S' => ∃ ks most, S' = S ++ [.lst [], .set ks] ∧ Has 8 [(0, p.obj), (2, .loc S.length), (3, .loc (S.length + 1)), (4, .int most)] r ∧ PkI p z [] ks most)
    (fun m r S' ⟨Wt, ks, most, hm, eS, hr, I, wb⟩ => by
      have kl : ks.length ≤ p.U.length := nodup_sub I.nd fun s hs => (U_mem h).mpr (I.sk s hs)
      have q0 : S'[S.length]? = some (.lst (vss Wt)) := by rw [eS]; exact two_at0 _ _ _
      have q1 : S'[S.length + 1]? = some (.set ks) := by rw [eS]; exact two_at1 _ _ _
      have g0 := hr.get 0 (v := p.obj)
      have g2 := hr.get 2 (v := .loc S.length)
      have g3 := hr.get 3 (v := .loc (S.length + 1))
      have g4 := hr.get 4 (v := .int most)
      have nn := ne_loc_none q0
      refine ⟨decide (Wt ≠ []), S', ?_, fun ht => ?_, fun hf => ?_⟩
      · unfold t_p_peak_1
        have z0 : 0 ≤ sizeLine := Nat.zero_le _
        simp [g2, nn]
      · have ne : Wt ≠ [] := by simpa using ht
        obtain ⟨Wt', w, rfl⟩ : ∃ Wt' w, Wt = Wt' ++ [w] := ⟨Wt.dropLast, Wt.getLast ne, (List.dropLast_concat_getLast ne).symm⟩
        have sw := I.sw w (by simp)
        have iT := isT_loc q0
        have e0 : vss (Wt' ++ [w]) = vss Wt' ++ [tsv w] := by unfold vss; rw [List.map_append]; rfl
        have pp := pop_at (S := S') (k := S.length) (xs := vss Wt') (d := tsv w) (by rw [← e0]; exact q0)
        rw [eS, two_set0, ← eS] at pp
        obtain ⟨S1, hS1⟩ : ∃ S1, S1 = S ++ [.lst (vss Wt'), .set ks] := ⟨_, rfl⟩
        rw [← hS1] at pp
        have u0 : S1[S.length]? = some (.lst (vss Wt')) := by rw [hS1]; exact two_at0 _ _ _
        have u1 : S1[S.length + 1]? = some (.set ks) := by rw [hS1]; exact two_at1 _ _ _
        have sp := stepped_ok h sw 0 S1
        have ix : vIx (tsv (p.fx 0 w)) (.int 0) S1 = .ok (.int (hd0 (p.fx 0 w))) S1 := ix0_ts (by have := (step_st h sw 0).len; show 0 < (p.step w 0).length; omega) S1
        have is1 := inS_at (p.fx 0 w) u1
        replace sp : m_p_stepped [p.obj, tsv w, .int 0] S1 = .ok (tsv (p.fx 0 w)) S1 := sp
        rw [List.length_append] at hm wb
        have hm : m = Wt'.length + 1 + (p.U.length - ks.length) := hm
        have wb : Wt'.length + 1 ≤ 1000 := wb
        have h5 := (hr.put 5 (tsv (p.fx 0 w)))
        have h4 := ((h5.sub (l' := [(5, tsv (p.fx 0 w)), (0, p.obj), (2, .loc S.length), (3, .loc (S.length + 1))])).put 4 (.int (max most (ab0 (p.fx 0 w)))))
        obtain ⟨r5, er5⟩ : ∃ r5, r5 = r.set 5 (some (tsv (p.fx 0 w))) := ⟨_, rfl⟩
        obtain ⟨r4, er4⟩ : ∃ r4, r4 = r5.set 4 (some (.int (max most (ab0 (p.fx 0 w))))) := ⟨_, rfl⟩
        rw [← er5] at h5 h4
        rw [← er4] at h4
        have s5 : sSet 5 (eCallN 3 m_p_stepped [] (lCons (eVar 0) (lCons (eMt "list" vPop (eVar 2) lNil) (lCons (eC (.int 0)) lNil)))) r S' = .ok (.nx r5) S1 := by
          rw [er5]
          generalize tsv (p.fx 0 w) = T1 at *
          generalize tsv w = T2 at *
          generalize p.obj = O at *
          simp [-List.getElem?_set_ne, -List.getElem?_set_self, -List.set_set, g0, g2, iT, pp, sp]
        have k4 := h5.get 4 (v := .int most)
        have k5 := h5.get 5 (v := tsv (p.fx 0 w))
        have s4 : sSet 4 (eCB vMax (lCons (eVar 4) (lCons (eCB vAbs (lCons (eBin vIx (eVar 5) (eC (.int 0))) lNil)) lNil))) r5 S1 = .ok (.nx r4) S1 := by
          rw [er4]
          unfold ab0
          generalize tsv (p.fx 0 w) = T1 at *
          generalize hd0 (p.fx 0 w) = H0 at *
          simp [-List.getElem?_set_ne, -List.getElem?_set_self, -List.set_set, k4, k5, ix]
        have l2 := h4.get 2 (v := .loc S.length)
        have l3 := h4.get 3 (v := .loc (S.length + 1))
        have l5 := h4.get 5 (v := tsv (p.fx 0 w))
        by_cases hin : p.fx 0 w ∈ ks
        · rw [decide_eq_true hin] at is1
          refine ⟨Wt'.length + (p.U.length - ks.length), r4, S1, by omega, .inl ?_, Wt', ks, _, rfl, hS1, h4.sub, I.old hin, by omega⟩
          unfold w_p_peak_1
          rw [seq_nx s5, seq_nx s4]
          generalize tsv (p.fx 0 w) = T1 at *
          simp [l3, l5, is1]
        · rw [decide_eq_false hin] at is1
          have In := I.new h hin
          have kl2 : (ks ++ [p.fx 0 w]).length ≤ p.U.length := nodup_sub In.nd fun s hs => (U_mem h).mpr (In.sk s hs)
          have kl3 : ks.length + 1 ≤ p.U.length := by simpa using kl2
          have ad := sadd_at u1 (by omega) hin
          rw [hS1, two_set1, ← hS1] at ad
          have st := isSet_at u1
          obtain ⟨S2, hS2⟩ : ∃ S2, S2 = S ++ [.lst (vss Wt'), .set (ks ++ [p.fx 0 w])] := ⟨_, rfl⟩
          rw [← hS2] at ad
          have v0 : S2[S.length]? = some (.lst (vss Wt')) := by rw [hS2]; exact two_at0 _ _ _
          have iT2 := isT_loc v0
          have ap := app_at (d := tsv (p.fx 0 w)) v0 (by rw [vss_len]; omega)
          have e1 : vss Wt' ++ [tsv (p.fx 0 w)] = vss (Wt' ++ [p.fx 0 w]) := by unfold vss; rw [List.map_append]; rfl
          rw [hS2, two_set0, e1, ← hS2] at ap
          refine ⟨(Wt' ++ [p.fx 0 w]).length + (p.U.length - (ks ++ [p.fx 0 w]).length), r4, S ++ [.lst (vss (Wt' ++ [p.fx 0 w])), .set (ks ++ [p.fx 0 w])], by simp; omega, .inl ?_, _, _, _, rfl, rfl, h4.sub, In, by simp; omega⟩
          unfold w_p_peak_1
          rw [seq_nx s5, seq_nx s4]
          generalize (S ++ [Cell.lst (vss (Wt' ++ [p.fx 0 w])), Cell.set (ks ++ [p.fx 0 w])]) = S3 at *
          generalize tsv (p.fx 0 w) = T1 at *
          simp [l2, l3, l5, is1, st, ad, iT2, ap]
      · have e0 : Wt = [] := by simpa using hf
        subst e0
        exact ⟨ks, most, eS, hr, I⟩) (W0.length + (p.U.length - 0)) r3 (S ++ [.lst (vss W0), .set []]) ⟨W0, [], 0, rfl, rfl, h3, st0, by omega⟩
  refine ⟨most, I.done h hz.1, ?_⟩
  have g4 := hh.get 4 (v := .int most)
  have e' : l_p_peak_1 r3 (S ++ [.lst (vss W0), .set []]) = .ok (.nx r') S' := e
  refine fn_own (d := .int most) (T := [.lst [], .set ks]) ?_ (allI_small hS _) rfl (fun z => by cases z)
  rw [← er0]
  unfold b_p_peak
  rw [head, seq_nx e', eS, sRet_ap, eVar_ap, g4]; rfl
end Hl
namespace Hl
open PySem L2 Dn PySem.W PyProof.Rows
open Classical in
noncomputable def pk (p : Pt) (z : Int) : Int := if h : ∃ M, Peak p z M then h.choose else 0
theorem pk_eq {p : Pt} {z M : Int} (h : Peak p z M) : pk p z = M := by
  unfold pk
  rw [dif_pos ⟨M, h⟩]
  exact (⟨M, h⟩ : ∃ M, Peak p z M).choose_spec.one h
theorem pk_ok {p : Pt} (h : p.Ok) (hu : p.U.length ≤ 300) {z : Int} (hz : 0 ≤ z ∧ z ≤ p.h) : Peak p z (pk p z) ∧ ∀ S, AllI S → m_p_peak [p.obj, .int z] S = .ok (.int (pk p z)) S := by
  have one : ∀ S, AllI S → Peak p z (pk p z) ∧ m_p_peak [p.obj, .int z] S = .ok (.int (pk p z)) S := fun S hS => by
    obtain ⟨M, q, e⟩ := peak_ok h hu hz hS
    rw [pk_eq q]; exact ⟨q, e⟩
  exact ⟨(one [] AllI.nil).1, fun S hS => (one S hS).2⟩
theorem Peak.high {p : Pt} (h : p.Ok) {z M : Int} (a : Peak p z M) : 0 ≤ M ∧ M ≤ p.h := by
  obtain ⟨w, h1, _, n, _, e⟩ := a.hit
  have s := it_st h h1 0 n
  have ne := st_ne h s
  have hm : hd0 (it (p.fx 0) w n) ∈ it (p.fx 0) w n := by
    unfold hd0
    cases q : it (p.fx 0) w n with
    | nil => exact absurd q ne
    | cons a t => exact List.mem_cons_self
  have := s.le _ hm
  rw [← e]; unfold ab0; omega
end Hl
namespace K74
open PySem L2 Dn Hl
inductive Dd where
  | feed (x : Int) | run (xs : List Int) | undo
def okDd : Dd → Prop
  | .feed x => -1000 ≤ x ∧ x ≤ 1000
  | .run xs => (∀ x ∈ xs, -1000 ≤ x ∧ x ≤ 1000) ∧ xs.length ≤ 4
  | .undo => True
def headOk (w : Str) : Bool := match w.cps.toList.head? with
  | some c => c != 33
  | none => false
structure Gd (p : Pt) (q : HQ) : Prop where
  st : p.St q.1
  told : ∀ t ∈ q.2, -60 ≤ t ∧ t ≤ 60
structure Dn20 (ds : List Dd) (i : Nat) : Prop where
  ok : ∀ d ∈ ds, okDd d
  no : ∀ d ∈ ds, d ≠ .undo
  len : ds.length ≤ i
structure Ans (v : PV) (w : Str) : Prop where
  dt : ∃ pd c, Dt v pd c 2 ∧ c ≤ 16777216 ∧ pd.shown = w
  hd : headOk w = true
  len : w.length ≤ 16777216
  da : ∀ S, Dn.dataOf S v = data0 v
structure Cx1 (p : Pt) (q0 : HQ) (ds : List Dd) : Prop where
  ok : p.Ok
  gd : Gd p q0
  nil : q0.2 = []
  ds : Dn20 ds 20
section
variable {p : Pt} {q0 : HQ} {ds : List Dd} {L k n : Nat}
end
section
variable {p : Pt} {q0 : HQ} {ds : List Dd} {L k n : Nat}
end
section
variable {p : Pt} {q0 : HQ} {ds : List Dd} {L k n : Nat}
end
end K74
namespace K61
open PySem L2 Dn Hl PySem.W PyProof.Rows
theorem dlt_int (a b : Int) : dataLt (dat (.int a)) (dat (.int b)) = decide (a < b) := by
  have e : ∀ n : Int, dat (.int n) = .int n := fun n => rfl
  rw [e, e]
  unfold dataLt
  simp only [keyToks]
  simp [PyProof.Rows.lexLt, itemLt]
theorem pMax_int : ∀ (xs : List Int) (x : Int), ∃ m, pMax (.int x) (xs.map PV.int) = .int m ∧ m ∈ x :: xs ∧ ∀ y ∈ x :: xs, y ≤ m
  | [], x => ⟨x, rfl, by simp, by simp⟩
  | y :: ys, x => by
    have e : pMax (.int x) ((y :: ys).map PV.int) = pMax (if dataLt (dat (.int x)) (dat (.int y)) then .int y else .int x) (ys.map PV.int) := rfl
    rw [e, dlt_int]
    by_cases c : x < y
    · rw [if_pos (by simpa using c)]
      obtain ⟨m, e1, e2, e3⟩ := pMax_int ys y
      refine ⟨m, e1, List.mem_cons_of_mem _ e2, fun z hz => ?_⟩
      rcases List.mem_cons.mp hz with rfl | hz
      · have := e3 y List.mem_cons_self; omega
      · exact e3 z hz
    · rw [if_neg (by simpa using c)]
      obtain ⟨m, e1, e2, e3⟩ := pMax_int ys x
      refine ⟨m, e1, ?_, fun z hz => ?_⟩
      · rcases List.mem_cons.mp e2 with rfl | q
        · exact List.mem_cons_self
        · exact List.mem_cons_of_mem _ (List.mem_cons_of_mem _ q)
      · have := e3 x List.mem_cons_self
        rcases List.mem_cons.mp hz with rfl | hz
        · exact this
        · rcases List.mem_cons.mp hz with rfl | hz
          · omega
          · exact e3 z (List.mem_cons_of_mem _ hz)
theorem pMin_int : ∀ (xs : List Int) (x : Int), ∃ m, pMin (.int x) (xs.map PV.int) = .int m ∧ m ∈ x :: xs ∧ ∀ y ∈ x :: xs, m ≤ y
  | [], x => ⟨x, rfl, by simp, by simp⟩
  | y :: ys, x => by
    have e : pMin (.int x) ((y :: ys).map PV.int) = pMin (if dataLt (dat (.int y)) (dat (.int x)) then .int y else .int x) (ys.map PV.int) := rfl
    rw [e, dlt_int]
    by_cases c : y < x
    · rw [if_pos (by simpa using c)]
      obtain ⟨m, e1, e2, e3⟩ := pMin_int ys y
      refine ⟨m, e1, List.mem_cons_of_mem _ e2, fun z hz => ?_⟩
      rcases List.mem_cons.mp hz with rfl | hz
      · have := e3 y List.mem_cons_self; omega
      · exact e3 z hz
    · rw [if_neg (by simpa using c)]
      obtain ⟨m, e1, e2, e3⟩ := pMin_int ys x
      refine ⟨m, e1, ?_, fun z hz => ?_⟩
      · rcases List.mem_cons.mp e2 with rfl | q
        · exact List.mem_cons_self
        · exact List.mem_cons_of_mem _ (List.mem_cons_of_mem _ q)
      · have := e3 x List.mem_cons_self
        rcases List.mem_cons.mp hz with rfl | hz
        · exact this
        · rcases List.mem_cons.mp hz with rfl | hz
          · omega
          · exact e3 z (List.mem_cons_of_mem _ hz)
theorem tk_ints (s : List Int) : tkds (s.map PV.int) = true := List.all_eq_true.mpr fun d hd => by
  obtain ⟨n, _, rfl⟩ := List.mem_map.mp hd
  rfl
theorem al_ints (s : List Int) : alikes (s.map PV.int) = true := List.all_eq_true.mpr fun a ha => List.all_eq_true.mpr fun b hb => by
  obtain ⟨n, _, rfl⟩ := List.mem_map.mp ha
  obtain ⟨m, _, rfl⟩ := List.mem_map.mp hb
  rfl
theorem mxmn {s : List Int} (h : s ≠ []) (S : Store) : ∃ a b : Int, vMaxA [tsv s] S = .ok (.int a) S ∧ vMinA [tsv s] S = .ok (.int b) S ∧ (a ∈ s ∧ ∀ y ∈ s, y ≤ a) ∧ (b ∈ s ∧ ∀ y ∈ s, b ≤ y) := by
  cases s with
  | nil => exact absurd rfl h
  | cons x xs =>
    obtain ⟨a, e1, a1, a2⟩ := pMax_int xs x
    obtain ⟨b, e2, b1, b2⟩ := pMin_int xs x
    have t := tk_ints (x :: xs)
    have al := al_ints (x :: xs)
    refine ⟨a, b, ?_, ?_, ⟨a1, a2⟩, b1, b2⟩
    · show (if tkds ((x :: xs).map PV.int) = true ∧ alikes ((x :: xs).map PV.int) = true then Res.ok (pMax (.int x) (xs.map PV.int)) S else .bad) = _
      rw [if_pos ⟨t, al⟩, e1]
    · show (if tkds ((x :: xs).map PV.int) = true ∧ alikes ((x :: xs).map PV.int) = true then Res.ok (pMin (.int x) (xs.map PV.int)) S else .bad) = _
      rw [if_pos ⟨t, al⟩, e2]
def dB (K : List (List Int)) : List (PV × PV) := K.map fun s => (tsv s, PV.int (ab0 s))
theorem dB_look (K : List (List Int)) (a : List Int) : dLook (dB K) (nkS a) = if a ∈ K then some (PV.int (ab0 a)) else none := by
  have e : dB K = (K.map fun s => (s, ab0 s)).map fun q => (tsv q.1, PV.int q.2) := by unfold dB; rw [List.map_map]; rfl
  have ks : (K.map fun s => (s, ab0 s)).map (·.1) = K := by rw [List.map_map]; exact List.map_id _
  rw [e, dLook_tsv PV.int]
  by_cases m : a ∈ K
  · rw [if_pos m]
    cases q : look a (K.map fun s => (s, ab0 s)) with
    | none =>
      have := look_none.mp q
      rw [ks] at this; exact absurd m this
    | some v =>
      obtain ⟨s, _, e2⟩ := List.mem_map.mp (look_mem q)
      injection e2 with e3 e4
      subst e3
      rw [← e4]; rfl
  · rw [if_neg m, look_none.mpr (by rw [ks]; exact m)]; rfl
theorem dB_snoc (K : List (List Int)) (s : List Int) : dB K ++ [(tsv s, PV.int (ab0 s))] = dB (K ++ [s]) := by unfold dB; rw [List.map_append]; rfl
theorem dB_len (K : List (List Int)) : (dB K).length = K.length := List.length_map _
theorem first_c {p : Pt} (h : p.Ok) {z : Int} {r : Env1} (hr : Has 6 [(0, p.pv), (1, .int z)] r) (S : Store) : c_peak_3 r S = .ok (vss (p.U.filter fun s => decide (amax s ≤ z))) S := by
  have ul := U_len h
  have a0 := hr.get 0 (v := p.pv)
  have so : m_states [p.pv] S = .ok (.lst (vss p.U)) S := allst_ok h S
  have sz : (vss p.U).length ≤ sizeLine := seq_le (by rw [vss_len]; omega)
  have iv : iVal (eCallN 1 m_states [] (lCons (eVar 0) lNil)) r S = .ok ⟨vss p.U, none⟩ S := by
    have so2 : srcOf (.lst (vss p.U)) S = .ok ⟨vss p.U, none⟩ S := rfl
    generalize p.pv = O at *
    generalize vss p.U = V at *
    simp [a0, so, so2]
  unfold c_peak_3
  rw [lComp_ap, iv]
  simp only [Res.bind_ok, sz, if_true]
  refine compM_fm (.inl rfl) tsv tsv (fun s => decide (amax s ≤ z)) p.U fun s hs => ?_
  have ss := (U_mem h).mp hs
  have w0 : Has 6 [(0, p.pv), (1, .int z)] (wipeE r [5]) := by
    show Has 6 _ (r.set 5 none)
    exact hr.set 5 none
  have w5 := w0.put 5 (tsv s)
  have g1 := w5.get 1 (v := .int z)
  have g5 := w5.get 5 (v := tsv s)
  obtain ⟨a, b, e1, e2, ⟨a1, a2⟩, b1, b2⟩ := mxmn (st_ne h ss) S
  have iff1 := amax_le (st_ne h ss) (z := z)
  refine ⟨_, rfl, ?_, fun _ => by rw [eVar_ap, g5]; rfl⟩
  generalize (wipeE r [5]).set 5 (some (tsv s)) = R at *
  have key : (decide (a ≤ z) && decide (-z ≤ b)) = decide (amax s ≤ z) := by
    rw [Bool.eq_iff_iff, Bool.and_eq_true, decide_eq_true_eq, decide_eq_true_eq, decide_eq_true_eq, iff1]
    constructor
    · rintro ⟨q1, q2⟩ t ht
      have := a2 t ht
      have := b2 t ht
      omega
    · intro q
      have := q a a1
      have := q b b1
      omega
  rw [← key]
  generalize tsv s = T at *
  by_cases c : a ≤ z
  · by_cases c2 : -z ≤ b <;> simp [g1, g5, e1, e2, c, c2]
  · simp [g1, g5, e1, e2, c]
theorem later_c {p : Pt} (h : p.Ok) {Wt : List (List Int)} (hW : ∀ w ∈ Wt, p.St w) (hl : Wt.length ≤ 1771561) {r : Env1} {S : Store} {j : Nat} (hr : Has 6 [(0, p.pv), (2, .loc j)] r) (hj : S[j]? = some (.lst (vss Wt))) : c_peak_4 r S = .ok (vss (Wt.map (p.fx 0))) S := by
  have a2 := hr.get 2 (v := .loc j)
  have iv : iVal (eVar 2) r S = .ok ⟨vss Wt, some (.l j)⟩ S := by
    rw [iVal_ap, eVar_ap, a2, varK_some, Res.bind_ok]
    exact src_loc hj
  have sz : (vss Wt).length ≤ sizeLine := seq_le (by rw [vss_len]; omega)
  unfold c_peak_4
  rw [lComp_ap, iv]
  simp only [Res.bind_ok, sz, if_true]
  unfold vss
  rw [List.map_map]
  refine compM_map2 (.inr (by show S[j]? = some (.lst (vss Wt)); exact hj)) tsv (fun s => tsv (p.fx 0 s)) Wt fun s hs => ?_
  have w0 : Has 6 [(0, p.pv)] (wipeE r [5]) := by
    show Has 6 _ (r.set 5 none)
    exact (hr.sub (l' := [(0, p.pv)])).set 5 none
  have w5 := w0.put 5 (tsv s)
  have g0 := w5.get 0 (v := p.pv)
  have g5 := w5.get 5 (v := tsv s)
  have st := step3_ok h (hW s hs) 0 S
  replace st : m_step_k74 [p.pv, tsv s, .int 0] S = .ok (tsv (p.fx 0 s)) S := st
  refine ⟨_, rfl, rfl, ?_⟩
  generalize (wipeE r [5]).set 5 (some (tsv s)) = R at *
  generalize tsv (p.fx 0 s) = T1 at *
  generalize tsv s = T2 at *
  generalize p.pv = P at *
  simp [g0, g5, st]
structure Ly (p : Pt) (z : Int) (Wt ks : List (List Int)) : Prop where
  nd : ks.Nodup
  sk : ∀ k ∈ ks, p.St k
  sw : ∀ w ∈ Wt, p.St w
  got : ∀ k ∈ ks, ∃ w, p.St w ∧ amax w ≤ z ∧ ∃ n, 1 ≤ n ∧ it (p.fx 0) w n = k
  wait : ∀ w ∈ Wt, amax w ≤ z ∨ w ∈ ks
  cl0 : ∀ w, p.St w → amax w ≤ z → w ∈ Wt ∨ p.fx 0 w ∈ ks
  clk : ∀ k ∈ ks, k ∈ Wt ∨ p.fx 0 k ∈ ks
theorem Ly.start {p : Pt} (h : p.Ok) (z : Int) : Ly p z (p.U.filter fun s => decide (amax s ≤ z)) [] :=
  ⟨List.nodup_nil, nofun, fun w hw => (U_mem h).mp (List.mem_filter.mp hw).1, nofun, fun w hw => .inl (by simpa using (List.mem_filter.mp hw).2), fun w hs hz => .inl (List.mem_filter.mpr ⟨(U_mem h).mpr hs, by simpa using hz⟩), nofun⟩
theorem Ly.next {p : Pt} (h : p.Ok) {z : Int} {Wt ks N : List (List Int)} (I : Ly p z Wt ks) (nd : (ks ++ N).Nodup) (from_ : ∀ x ∈ N, ∃ w ∈ Wt, p.fx 0 w = x) (all : ∀ w ∈ Wt, p.fx 0 w ∈ ks ++ N) : Ly p z N (ks ++ N) := by
  have sN : ∀ x ∈ N, p.St x := fun x hx => by
    obtain ⟨w, hw, rfl⟩ := from_ x hx
    exact step_st h (I.sw w hw) 0
  refine ⟨nd, fun k hk => ?_, sN, fun k hk => ?_, fun w hw => .inr (List.mem_append_right _ hw), fun w hs hz => .inr ?_, fun k hk => ?_⟩
  · rcases List.mem_append.mp hk with q | q
    · exact I.sk k q
    · exact sN k q
  · rcases List.mem_append.mp hk with q | q
    · exact I.got k q
    · obtain ⟨w, hw, rfl⟩ := from_ k q
      rcases I.wait w hw with c | c
      · exact ⟨w, I.sw w hw, c, 1, Nat.le_refl _, rfl⟩
      · obtain ⟨v, h1, h2, n, h3, e⟩ := I.got w c
        exact ⟨v, h1, h2, n + 1, by omega, by show p.fx 0 (it (p.fx 0) v n) = _; rw [e]⟩
  · rcases I.cl0 w hs hz with q | q
    · exact all w q
    · exact List.mem_append_left _ q
  · rcases List.mem_append.mp hk with q | q
    · rcases I.clk k q with c | c
      · exact .inr (all k c)
      · exact .inr (List.mem_append_left _ c)
    · exact .inl q
theorem Ly.done {p : Pt} (h : p.Ok) {z : Int} (hz : 0 ≤ z) {ks : List (List Int)} (I : Ly p z [] ks) : ks ≠ [] ∧ Peak p z (maxI (ks.map ab0)) := by
  have c0 : ∀ w, p.St w → amax w ≤ z → p.fx 0 w ∈ ks := fun w hs hw => (I.cl0 w hs hw).resolve_left nofun
  have ck : ∀ k ∈ ks, p.fx 0 k ∈ ks := fun k hk => (I.clk k hk).resolve_left nofun
  have all : ∀ w, p.St w → amax w ≤ z → ∀ n, it (p.fx 0) w (n + 1) ∈ ks := fun w hs hw n => by
    induction n with
    | zero => exact c0 w hs hw
    | succ n ih => exact ck _ ih
  have ne : ks ≠ [] := fun e => by
    have := c0 p.zs (zs_st h) (zs_amax h hz)
    rw [e] at this; cases this
  obtain ⟨m1, m2⟩ := maxI_mem (ns := ks.map ab0) (by simpa using ne)
  refine ⟨ne, fun w hs hw n hn => ?_, ?_⟩
  · obtain ⟨n, rfl⟩ : ∃ m, n = m + 1 := ⟨n - 1, by omega⟩
    exact m2 _ (List.mem_map.mpr ⟨_, all w hs hw n, rfl⟩)
  · obtain ⟨k, hk, e⟩ := List.mem_map.mp m1
    obtain ⟨w, h1, h2, n, h3, e2⟩ := I.got k hk
    exact ⟨w, h1, h2, n, h3, by rw [e2]; exact e⟩
theorem layer_ok {p : Pt} (h : p.Ok) {Wt ks : List (List Int)} (hW : ∀ w ∈ Wt, p.St w) (hks : ∀ k ∈ ks, p.St k) (nd : ks.Nodup) (hwl : Wt.length ≤ p.U.length) (S T : Store) (a : Cell) {r : Env1}
    (hr : Has 6 [(0, p.pv), (1, .int 0), (2, .loc (S.length + 2 + T.length)), (3, .loc (S.length + 1)), (4, .lst (vss (Wt.map (p.fx 0))))] (r.set 1 (some (.int 0)))) (hr' : Has 6 [(0, p.pv), (2, .loc (S.length + 2 + T.length)), (3, .loc (S.length + 1)), (4, .lst (vss (Wt.map (p.fx 0))))] r) :
    ∃ N r', l_peak_1 r (S ++ a :: .dic (dB ks) ks.length :: (T ++ [.lst []])) = .ok (.nx r') (S ++ a :: .dic (dB (ks ++ N)) (ks ++ N).length :: (T ++ [.lst (vss N)])) ∧ (ks ++ N).Nodup ∧ (∀ x ∈ N, ∃ w ∈ Wt, p.fx 0 w = x) ∧ (∀ w ∈ Wt, p.fx 0 w ∈ ks ++ N) ∧ Has 6 [(0, p.pv), (2, .loc (S.length + 2 + T.length)), (3, .loc (S.length + 1))] r' := by
  have ul := U_len h
  have g4 := hr'.get 4 (v := .lst (vss (Wt.map (p.fx 0))))
  obtain ⟨r2, S2, e, N, eS, nd2, from_, all, hr2⟩ := sFor_inv (g := gNm 5) (b := w_peak_1) (it := iVal (eVar 4)) (r := r) (S := S ++ a :: .dic (dB ks) ks.length :: (T ++ [.lst []])) (S1 := S ++ a :: .dic (dB ks) ks.length :: (T ++ [.lst []])) (ds := vss (Wt.map (p.fx 0)))
    (by rw [iVal_ap, eVar_ap, g4]; rfl)
    (fun i r S' => ∃ N, S' = S ++ a :: .dic (dB (ks ++ N)) (ks ++ N).length :: (T ++ [.lst (vss N)]) ∧ (ks ++ N).Nodup ∧ (∀ x ∈ N, ∃ w ∈ Wt, p.fx 0 w = x) ∧ (∀ w ∈ Wt.take i, p.fx 0 w ∈ ks ++ N) ∧ Has 6 [(0, p.pv), (2, .loc (S.length + 2 + T.length)), (3, .loc (S.length + 1))] r)
    ⟨[], by simp [vss], by simpa using nd, nofun, by simp, hr'.sub⟩ (fun i d hd r S' ⟨N, eS, nd2, from_, all, hr⟩ => by
      unfold vss at hd
      rw [List.map_map, List.getElem?_map] at hd
      cases hy : Wt[i]? with
      | none => rw [hy] at hd; cases hd
      | some w =>
        rw [hy] at hd; cases hd
        have mw := List.mem_of_getElem? hy
        have tk : Wt.take (i + 1) = Wt.take i ++ [w] := by rw [List.take_succ, hy]; rfl
        obtain ⟨y, ey⟩ : ∃ y, y = p.fx 0 w := ⟨_, rfl⟩
        have sy : p.St y := by rw [ey]; exact step_st h (hW w mw) 0
        have h5 := hr.put 5 (tsv y)
        obtain ⟨r5, er5⟩ : ∃ r5, r5 = r.set 5 (some (tsv y)) := ⟨_, rfl⟩
        rw [← er5] at h5
        have a1 : S'[S.length + 1]? = some (.dic (dB (ks ++ N)) (ks ++ N).length) := by rw [eS]; exact c1_at _ _ _ _
        have a2 : S'[S.length + 2 + T.length]? = some (.lst (vss N)) := by rw [eS]; exact c2_at _ _ _ _ _
        have b2 := h5.get 2 (v := .loc (S.length + 2 + T.length))
        have b3 := h5.get 3 (v := .loc (S.length + 1))
        have b5 := h5.get 5 (v := tsv y)
        have iN := vInD_loc a1 (nkOf_tsv y)
        rw [dB_look] at iN
        have gd : gNm 5 (((fun s => tsv s) ∘ p.fx 0) w) r = some r5 := by rw [er5, ey]; rfl
        have step : ∀ N', p.fx 0 w ∈ ks ++ N' → (∀ x, x ∈ ks ++ N → x ∈ ks ++ N') → ∀ v ∈ Wt.take (i + 1), p.fx 0 v ∈ ks ++ N' := fun N' q up v hv => by
          rw [tk] at hv
          rcases List.mem_append.mp hv with z | z
          · exact up _ (all v z)
          · simp at z; subst z; exact q
        by_cases hin : y ∈ ks ++ N
        · rw [if_pos hin] at iN
          refine ⟨r5, r5, S', gd, .inl ?_, N, eS, nd2, from_, step N (by rw [← ey]; exact hin) (fun x hx => hx), h5.sub⟩
          unfold w_peak_1
          generalize tsv y = Y at *
          simp [b3, b5, iN]
        · rw [if_neg hin] at iN
          have nd3 : (ks ++ (N ++ [y])).Nodup := by rw [← List.append_assoc]; exact nodup_snoc nd2 hin
          have sAll : ∀ k ∈ ks ++ (N ++ [y]), p.St k := fun k hk => by
            rcases List.mem_append.mp hk with q | q
            · exact hks k q
            · rcases List.mem_append.mp q with q | q
              · obtain ⟨v, hv, rfl⟩ := from_ k q
                exact step_st h (hW v hv) 0
              · simp at q; subst q; exact sy
          have l3 : (ks ++ (N ++ [y])).length ≤ p.U.length := nodup_sub nd3 fun k hk => (U_mem h).mpr (sAll k hk)
          have l4 : ks.length + N.length + 1 ≤ p.U.length := by simpa [Nat.add_assoc] using l3
          have pt := put_new (d := .int (ab0 y)) (r := r5) a1 (nkOf_tsv y) (by rw [dB_look, if_neg hin]) (by rw [dB_len, List.length_append]; omega)
          rw [eS, c1_set, dB_snoc, ← eS] at pt
          obtain ⟨S3, hS3⟩ : ∃ S3, S3 = S ++ a :: .dic (dB (ks ++ N ++ [y])) ((ks ++ N).length + 1) :: (T ++ [.lst (vss N)]) := ⟨_, rfl⟩
          rw [← hS3] at pt
          have a2' : S3[S.length + 2 + T.length]? = some (.lst (vss N)) := by rw [hS3]; exact c2_at _ _ _ _ _
          have iT := isT_loc a2'
          have ap := app_at (d := tsv y) a2' (by rw [vss_len]; omega)
          have e1 : vss N ++ [tsv y] = vss (N ++ [y]) := by unfold vss; rw [List.map_append]; rfl
          rw [hS3, c2_set, e1, ← hS3] at ap
          have ix : vIx (tsv y) (.int 0) S' = .ok (.int (hd0 y)) S' := ix0_ts (by have := sy.len; have := h.len; omega) S'
          have eL : (ks ++ (N ++ [y])).length = (ks ++ N).length + 1 := by simp; omega
          refine ⟨r5, r5, S ++ a :: .dic (dB (ks ++ (N ++ [y]))) (ks ++ (N ++ [y])).length :: (T ++ [.lst (vss (N ++ [y]))]), gd, .inl ?_, N ++ [y], rfl, nd3, fun x hx => ?_, step (N ++ [y]) (by rw [← ey]; simp) (fun x hx => by rw [← List.append_assoc]; exact List.mem_append_left _ hx), h5.sub⟩
          · rw [eL, ← List.append_assoc ks N [y]]
            unfold w_peak_1
            unfold ab0 at pt
            generalize (S ++ a :: Cell.dic (dB (ks ++ N ++ [y])) ((ks ++ N).length + 1) :: (T ++ [.lst (vss (N ++ [y]))])) = S4 at *
            generalize tsv y = Y at *
            generalize hd0 y = H0 at *
            simp [b2, b3, b5, iN, ix, pt, iT, ap]
          · rcases List.mem_append.mp hx with q | q
            · exact from_ x q
            · simp at q; subst q; exact ⟨w, mw, ey.symm⟩)
  rw [vss_len, List.length_map, List.take_length] at all
  exact ⟨N, r2, by rw [← eS]; exact e, nd2, from_, all, hr2⟩
theorem lpeak_ok {p : Pt} (h : p.Ok) {z : Int} (hz : 0 ≤ z) {S : Store} (hS : AllI S) : ∃ M, Peak p z M ∧ m_peak [p.pv, .int z] S = .ok (.int M) S := by
  have ul := U_len h
  obtain ⟨W0, hW⟩ : ∃ W0, W0 = p.U.filter fun s => decide (amax s ≤ z) := ⟨_, rfl⟩
  have st0 := Ly.start h z
  rw [← hW] at st0
  have wl : W0.length ≤ p.U.length := by rw [hW]; exact List.length_filter_le _ _
  have hr0 : Has 6 [(0, p.pv), (1, .int z)] (start1 6 [p.pv, .int z]) := ⟨rfl, by simp [start1, List.replicate]⟩
  have fc := first_c h hr0 S
  rw [← hW] at fc
  have z2 : 2 ≤ sizeLine := seq_le (by decide)
  obtain ⟨r1, er1⟩ : ∃ r1 : Env1, r1 = [some p.pv, some (.int z), some (.loc S.length), some (.loc (S.length + 1)), none, none] := ⟨_, rfl⟩
  have s1 : sAsg (gTp 2 (gsCons (gNm 2) (gsCons (gNm 3) gsNil))) (eTup (lCons (eCell c_peak_3) (lCons eCelD lNil))) (start1 6 [p.pv, .int z]) S = .ok (.nx r1) (S ++ [.lst (vss W0), .dic [] 0]) := by
    have e0 : start1 6 [p.pv, .int z] = [some p.pv, some (.int z), none, none, none, none] := rfl
    rw [er1]
    rw [e0] at fc ⊢
    generalize p.pv = P at *
    generalize vss W0 = V at *
    simp [fc, z2]
  have h1 : Has 6 [(0, p.pv), (2, .loc S.length), (3, .loc (S.length + 1))] r1 := by rw [er1]; exact ⟨rfl, by simp⟩
  obtain ⟨r', S', e, ks, T, a, eS, hh, I⟩ := sWhile_R (t := t_peak_1) (b := w_peak_2)
    (fun m r S' => ∃ Wt ks T a j, S' = S ++ a :: .dic (dB ks) ks.length :: T ∧ S'[j]? = some (.lst (vss Wt)) ∧ Has 6 [(0, p.pv), (2, .loc j), (3, .loc (S.length + 1))] r ∧ Ly p z Wt ks ∧ Wt.length ≤ p.U.length ∧ m = 2 * (p.U.length - ks.length) + (if Wt = [] then 0 else 1))
    (fun r S' => ∃ ks T a, S' = S ++ a :: .dic (dB ks) ks.length :: T ∧ Has 6 [(0, p.pv), (3, .loc (S.length + 1))] r ∧ Ly p z [] ks)
    (fun m r S' ⟨Wt, ks, T, a, j, eS, hj, hr, I, wb, hm⟩ => by
      have g0 := hr.get 0 (v := p.pv)
      have g2 := hr.get 2 (v := .loc j)
      have nn := ne_loc_none hj
      refine ⟨decide (Wt ≠ []), S', ?_, fun ht => ?_, fun hf => ?_⟩
      · unfold t_peak_1
        have z0 : 0 ≤ sizeLine := Nat.zero_le _
        simp [g2, nn]
      · have ne : Wt ≠ [] := by simpa using ht
        rw [if_neg ne] at hm
        have lc := later_c h I.sw (Nat.le_trans wb (U_len h)) hr.sub hj
        have h4 := hr.put 4 (.lst (vss (Wt.map (p.fx 0))))
        obtain ⟨r4, er4⟩ : ∃ r4, r4 = r.set 4 (some (.lst (vss (Wt.map (p.fx 0))))) := ⟨_, rfl⟩
        have t1 : sSet 4 (eNew c_peak_4) r S' = .ok (.nx r4) S' := by
          rw [er4]
          generalize vss (Wt.map (p.fx 0)) = V at *
          simp [-List.getElem?_set_ne, -List.getElem?_set_self, -List.set_set, lc]
        rw [← er4] at h4
        have eL : S'.length = S.length + 2 + T.length := by rw [eS]; simp; omega
        obtain ⟨r2, er2⟩ : ∃ r2, r2 = r4.set 2 (some (.loc (S.length + 2 + T.length))) := ⟨_, rfl⟩
        have t2 : sSet 2 (eCell (lDis lNil)) r4 S' = .ok (.nx r2) (S' ++ [.lst []]) := by
          rw [er2, ← eL]
          simp [-List.getElem?_set_ne, -List.getElem?_set_self, -List.set_set]
        have h2 := (h4.sub (l' := [(4, .lst (vss (Wt.map (p.fx 0)))), (0, p.pv), (3, .loc (S.length + 1))])).put 2 (.loc (S.length + 2 + T.length))
        rw [← er2] at h2
        have eS1 : S' ++ [.lst []] = S ++ a :: .dic (dB ks) ks.length :: (T ++ [.lst []]) := by rw [eS]; simp
        rw [eS1] at t2
        obtain ⟨N, r3, e3, nd, from_, all, h3⟩ := layer_ok h I.sw I.sk I.nd wb S T a (r := r2) ((h2.put 1 (.int 0)).sub) h2.sub
        have In := I.next h nd from_ all
        have kl : (ks ++ N).length ≤ p.U.length := nodup_sub nd fun s hs => (U_mem h).mpr (In.sk s hs)
        rw [List.length_append] at kl
        refine ⟨2 * (p.U.length - (ks ++ N).length) + (if N = [] then 0 else 1), r3, _, ?_, .inl ?_, N, ks ++ N, T ++ [.lst (vss N)], a, S.length + 2 + T.length, rfl, c2_at _ _ _ _ _, h3, In, by omega, rfl⟩
        · rw [List.length_append]
          by_cases c : N = []
          · rw [if_pos c, c]; simp; omega
          · rw [if_neg c]
            have : 0 < N.length := List.length_pos_iff.mpr c
            omega
        · unfold w_peak_2
          rw [seq_nx t1, seq_nx t2]
          exact e3
      · have e0 : Wt = [] := by simpa using hf
        subst e0
        exact ⟨ks, T, a, eS, hr.sub, I⟩) (2 * (p.U.length - 0) + (if W0 = [] then 0 else 1)) r1 (S ++ [.lst (vss W0), .dic [] 0]) ⟨W0, [], [], .lst (vss W0), S.length, rfl, two_at0 _ _ _, h1, st0, wl, rfl⟩
  obtain ⟨ne, pk⟩ := I.done h hz
  refine ⟨_, pk, ?_⟩
  have kl : ks.length ≤ p.U.length := nodup_sub I.nd fun s hs => (U_mem h).mpr (I.sk s hs)
  have g3 := hh.get 3 (v := .loc (S.length + 1))
  have a1 : S'[S.length + 1]? = some (.dic (dB ks) (dB ks).length) := by rw [eS, dB_len]; exact c1_at _ _ _ _
  have ek : (dB ks).map (·.1) = vss ks := by unfold dB vss; rw [List.map_map]; rfl
  have c5 : c_peak_5 r' S' = .ok ((ks.map ab0).map PV.int) S' := by
    have iv : iVal (eVar 3) r' S' = .ok ⟨vss ks, some (.d (S.length + 1))⟩ S' := by
      rw [iVal_ap, eVar_ap, g3, varK_some, Res.bind_ok]
      show (match S'[S.length + 1]? with
        | some (.lst xs) => Res.ok (⟨xs, some (.l (S.length + 1))⟩ : Src) S'
        | some (.dic kvs ep) => if ep = kvs.length then .ok ⟨kvs.map (fun q : PV × PV => q.1), some (.d (S.length + 1))⟩ S' else .bad
        | _ => .bad) = _
      rw [a1]
      show (if (dB ks).length = (dB ks).length then Res.ok (⟨(dB ks).map (fun q : PV × PV => q.1), some (.d (S.length + 1))⟩ : Src) S' else .bad) = _
      rw [if_pos rfl, ek]
    have sz : (vss ks).length ≤ sizeLine := seq_le (by rw [vss_len]; omega)
    unfold c_peak_5
    rw [lComp_ap, iv]
    simp only [Res.bind_ok, sz, if_true]
    rw [List.map_map]
    refine compM_map2 (c := ⟨vss ks, some (.d (S.length + 1))⟩) (.inr (by show ∃ kvs, S'[S.length + 1]? = some (.dic kvs kvs.length) ∧ kvs.map (fun q : PV × PV => q.1) = vss ks; exact ⟨dB ks, a1, ek⟩)) tsv (fun s => PV.int (ab0 s)) ks fun s hs => ?_
    have w0 : Has 6 [(3, .loc (S.length + 1))] (wipeE r' [5]) := by
      show Has 6 _ (r'.set 5 none)
      exact (hh.sub (l' := [(3, .loc (S.length + 1))])).set 5 none
    have w5 := w0.put 5 (tsv s)
    have q3 := w5.get 3 (v := .loc (S.length + 1))
    have q5 := w5.get 5 (v := tsv s)
    have vx := vIxC_loc a1 (nkOf_tsv s) (d := .int (ab0 s)) (by rw [dB_look, if_pos hs])
    refine ⟨_, rfl, rfl, ?_⟩
    generalize (wipeE r' [5]).set 5 (some (tsv s)) = R at *
    generalize tsv s = Y at *
    generalize ab0 s = A at *
    simp [q3, q5, vx]
  have vm : vMax [.lst ((ks.map ab0).map PV.int)] S' = .ok (.int (maxI (ks.map ab0))) S' := by
    have l : intsOf S' (.lst ((ks.map ab0).map PV.int)) = some (ks.map ab0) := by
      unfold intsOf
      rw [show lstOf S' (.lst ((ks.map ab0).map PV.int)) = some ((ks.map ab0).map PV.int) from rfl]
      exact ints_map _
    show (match intsOf S' (.lst ((ks.map ab0).map PV.int)) with
      | some (n :: ns) => Res.ok (PV.int (maxI (n :: ns))) S'
      | _ => .bad) = _
    rw [l]
    cases q : ks.map ab0 with
    | nil => exact absurd (List.map_eq_nil_iff.mp q) ne
    | cons a as => rfl
  have e' : l_peak_2 r1 (S ++ [.lst (vss W0), .dic [] 0]) = .ok (.nx r') S' := e
  refine fn_own (d := .int (maxI (ks.map ab0))) (T := a :: .dic (dB ks) ks.length :: T) ?_ (allI_small hS _) rfl (fun z => by cases z)
  rw [← eS]
  unfold b_peak
  rw [seq_nx s1, seq_nx e']
  generalize (ks.map ab0).map PV.int = A at *
  simp [c5, vm]
theorem sizes_ok {p : Pt} (h : p.Ok) (hu : p.U.length ≤ 300) {S : Store} (hS : AllI S) {r : Env1} {l : List (Nat × PV)} (hl : ∀ q ∈ l, q.1 ≠ 6 ∧ q.1 ≠ 7 ∧ q.1 ≠ 4 ∧ q.1 ≠ 5) (hr : Has 8 ((4, p.pv) :: (5, p.obj) :: l) r) :
    ∃ r', l_law_k61_1 r S = .ok (.nx r') S ∧ Has 8 l r' := by
  have hh := h.h
  have a4 := hr.get 4 (v := p.pv)
  have i3 := ix3 p S
  have ir : iRange1 (eBin vAdd (eBin vIx (eVar 4) (eC (.int 3))) (eC (.int 1))) r S = .ok ⟨rng 0 (p.h + 1).toNat, none⟩ S := iRange1_ok (n := p.h + 1) (by
    generalize p.pv = P at *
    simp [a4, i3]) (by omega)
  obtain ⟨r', e, hr'⟩ := vals_loop (N := 8) (i := 6) (l := (4, p.pv) :: (5, p.obj) :: l) (body := w_law_k61_1) (ds := rng 0 (p.h + 1).toNat) (by
    refine ⟨by omega, fun q hq => ?_⟩
    rcases List.mem_cons.mp hq with rfl | hq
    · simp
    · rcases List.mem_cons.mp hq with rfl | hq
      · simp
      · exact (hl q hq).1) ir
    (fun d hd r hr => by
      obtain ⟨i, hi, rfl⟩ := List.mem_map.mp hd
      have hi := List.mem_range.mp hi
      rw [Int.zero_add] at hr
      have b4 := hr.get 4 (v := p.pv)
      have b5 := hr.get 5 (v := p.obj)
      have b6 := hr.get 6 (v := .int (i : Int))
      obtain ⟨q1, q2⟩ := pk_ok h hu (z := (i : Int)) (by omega)
      obtain ⟨M, m1, m2⟩ := lpeak_ok h (z := (i : Int)) (by omega) hS
      have eM : M = pk p (i : Int) := m1.one q1
      rw [eM] at m2
      have q2 := q2 S hS
      have hi2 := (q1.high h)
      have sI : smallI (pk p (i : Int)) := by unfold smallI; omega
      have sm := same_ok (S := S) (Dt.lst (.add (Dt.int sI) (.add (Dt.int sI) .nil'))) (by omega) (by omega)
      have z2 : 2 ≤ sizeLine := seq_le (by decide)
      have t7 : sSet 7 (eCallN 2 m_peak [] (lCons (eVar 4) (lCons (eVar 6) lNil))) r S = .ok (.nx (r.set 7 (some (.int (pk p (i : Int)))))) S := by
        generalize p.pv = P at *
        generalize pk p (i : Int) = M at *
        simp [-List.getElem?_set_ne, -List.getElem?_set_self, -List.set_set, b4, b6, m2]
      have h7 := hr.put 7 (.int (pk p (i : Int))) (by
        intro q hq
        rcases List.mem_cons.mp hq with rfl | hq
        · simp
        · rcases List.mem_cons.mp hq with rfl | hq
          · simp
          · rcases List.mem_cons.mp hq with rfl | hq
            · simp
            · exact (hl q hq).2.1) (by decide)
      have c5 := h7.get 5 (v := p.obj)
      have c6 := h7.get 6 (v := .int (i : Int))
      have c7 := h7.get 7 (v := .int (pk p (i : Int)))
      refine ⟨_, ?_, h7.sub (fun q hq => by simp only [List.mem_cons] at hq ⊢; rcases hq with q | q | q <;> simp [q])⟩
      unfold w_law_k61_1
      rw [seq_nx t7]
      generalize r.set 7 (some (.int (pk p (i : Int)))) = R at *
      generalize pk p (i : Int) = M at *
      generalize p.obj = O at *
      simp [c5, c6, c7, q2, z2, sm]) hr
  exact ⟨r', e, hr'.sub (fun q hq => by simp [hq])⟩
theorem law_ok (ns : List Int) (hl : ns.length ≤ 63) : ∃ S, m_law_k61 [.scr ns] [] = .ok (.bl true) S := by
  have l2 := cells_loop (ns := ns) hl (N := 8) (i := 1) (j := 2) (M := 3) (inner := l_law_k61_2) (by omega) (by simp) (fun r S L k hS hr => by
    obtain ⟨r', S', e, hp, hr'⟩ := laps_loop (N := 8) (i := 3) (K := 5) (c := 100) (n := 0) (l := [(0, .scr ns), (2, .loc k)]) (body := w_law_k61_2) (by omega) (by simp) (fun t ht r S hS hr => by
      have g2 := hr.get 2 (v := .loc k)
      obtain ⟨p, S1, e1, hp, p1, l⟩ := parts_lim hS (by omega)
      have lu := lim_U hp l
      have mo := made_ok hp p1.all
      have h4 := hr.put 4 p.pv
      have k4 := h4.get 4 (v := p.pv)
      have h5 := h4.put 5 p.obj
      have s1 : sSet 4 (eCallN 1 m_parts_k60 [] (lCons (eVar 2) lNil)) r S = .ok (.nx (r.set 4 (some p.pv))) S1 := by
        generalize p.pv = P at *
        simp [-List.getElem?_set_ne, -List.getElem?_set_self, -List.set_set, g2, e1]
      have s2 : sSet 5 (eCallN 1 m_made [] (lCons (eVar 4) lNil)) (r.set 4 (some p.pv)) S1 = .ok (.nx ((r.set 4 (some p.pv)).set 5 (some p.obj))) S1 := by
        generalize r.set 4 (some p.pv) = r4 at *
        generalize p.pv = P at *
        generalize p.obj = O at *
        simp [-List.getElem?_set_ne, -List.getElem?_set_self, -List.set_set, k4, mo]
      obtain ⟨r3, e3, h3⟩ := sizes_ok hp (by omega) p1.all (l := [(0, .scr ns), (2, .loc k)]) (by simp) h5.sub
      refine ⟨r3, S1, ?_, p1.le (by omega), h3⟩
      unfold w_law_k61_2
      rw [seq_nx s1, seq_nx s2]
      exact e3) hS hr
    exact ⟨r', S', e, hp.all, hr'.sub⟩) (start1 8 [.scr ns]) [] AllI.nil .start
  obtain ⟨r', S', e2, _, h2⟩ := l2
  refine law_end (S' := S') ?_
  have e2' : l_law_k61_3 (start1 8 [.scr ns]) [] = .ok (.nx r') S' := e2
  unfold b_law_k61
  simp [e2']
end K61
open PySem PySem.Spec PyProof.Rows L2 Dn
open PySem PySem.W PySem.Calls PyProof.Rows
theorem PySem.Challenge.cw_hushloops_k61_peaks_told_holds : PySem.Challenge.rw_hushloops_k61_peaks_told.Holds := by
  w_on; o_law
  refine HandSHeadRun.head_any (r := OpenLaw.row PySem.Challenge.rw_hushloops_k61_peaks_told) (q := view (OpenLaw.row PySem.Challenge.rw_hushloops_k61_peaks_told).prog [57]) (H := K61.hk) (ob := K61.ob) (M := 20000) (loose := K61.nms) (d := HandSHeadRun.topDef (OpenLaw.row PySem.Challenge.rw_hushloops_k61_peaks_told).prog 57) (kwd := []) K61.ob_eq
    (by kernel_rfl) (fun s => by kernel_rfl) K61.run (by kernel_rfl) (by kernel_rfl) (by kernel_rfl) (by rfl) (by first | assumption | decide +kernel) (by decide +kernel) ⟨rfl, rfl, rfl, rfl, rfl, by decide +kernel⟩ ?hw ?hc
  case hw => w_witness2
  case hc =>
    refine Dn.walk_G (l := PySem.Challenge.rw_hushloops_k61_peaks_told) (n := 63) (k := 7) (x := "_law_script") (m := Hl.m_law_k61) rfl (by decide) (by kernel_rfl) ⟨rfl, by decide, by decide⟩ ?F (fun ns h hb => K61.law_ok ns h)
    intro w mg fa h Y G hmg0
    obtain ⟨K0, KX0, tc, c⟩ := Y
    have T := Dn.tchk_ok KX0 tc
    have KX := Dn.mkT_in (ls := K61.ls) KX0
    have hmg : mg ("law" : PySem.Str) = some (.ref fa) := by
      have e : (HandSHeadRun.topDef (OpenLaw.row PySem.Challenge.rw_hushloops_k61_peaks_told).prog 57).name = ("law" : PySem.Str) := by kernel_rfl
      rw [← e]
      exact hmg0
    have hl := He.glo_ok KX G (c.fact 77 (f := Dn.fa (.glo "law")))
    rw [hmg] at hl
    cases hl
    have F := c.def_ 32 (d := K61.d_law)
    exact ⟨_, _, KX, T, fun s v => L2.FunD.bindsA (ps := ["_law_script"]) F (fun _ _ _ _ _ _ us hl => match us, hl with | [_], _ => by kernel_rfl) s [v] rfl, fun base kb gb bt => K61.g_law ⟨c, kb, gb, bt⟩⟩
