import PyProof.Rows.All
import Wide.All
import OpenK.AllK
import Wide.FinOn
import KE.KStateDown
import KE.KSuper
import KE.KDictZip
import KE.GoesMore
import KE.GoesEnum
import KE.GoesNew
import PyProof.EqAt
import PyProof.EqKinds
import PyProof.NeKinds
import PyProof.TupleCall
import PyProof.RulesMatch
import PyProof.InstEq
import HandS.Base
import HandS.Call
import HandS.List
import HandS.Comp
import HandS.Ends
import HandS.Dict
import HandS.Iter
import HandS.Text
import HandS.More
import HandS.Words
import HandS.WordsList
import HandS.WordsDict
import HandS.WordsExc
import HandS.Exc
import HandS.Defaults
import HandS.Property
import HandS.Star
import HandS.IsInst
import HandS.Style
import HandS.TupAny
import HandS.Conv
import HandS.Deep
import HandS.Wide
import HandS.Nested
import HandS.HeadEnd
import HandS.Head0
import HandS.Head1
import HandS.Head2
import HandS.HeadHook1
import HandS.HeadHook2
import HandS.HeadHook3
import HandS.HeadHook4
import HandS.Evl
import HandS.Zip0
import KE.GoesEnumKw
import HandS.Zip
import HandS.Small
import Lean
import PySem.Challenge.RW_exitstacks_k27_whole_raised_again_and_ag
set_option Elab.async false
set_option linter.all false
set_option maxRecDepth 100000
set_option maxHeartbeats 2000000
namespace L2.EX
open PySem PySem.Spec PyProof.Rows
abbrev Frg := PySem.W.Frag
/-- a def of the text as it stands behind the top -/
structure RD where
  at_ : Frg → Addr
  name : Str
  qual : Str
  params : Arguments
  body : List Stmt
  scope : Scope
  cl : List Str := []
  dfl : List He.Dv := []
  kwd : List (Str × He.Dv) := []
abbrev FnZ : Type := Option (Str × Str × Arguments × FuncBody × Scope × Addr × List Str × Addr)
def fnZ (K : Frg) (a : Addr) : FnZ := match K.lookup a with
  | some ⟨_, _, .func fd, _⟩ => some (fd.name, fd.qualname, fd.params, fd.body, fd.scope, fd.globals, fd.closure.map (·.1), fd.builtins)
  | _ => none
def RD.val (d : RD) : FnZ := some (d.name, d.qual, d.params, .stmts d.body, d.scope, mainGlobals, d.cl, builtinsNs)
def RD.dvs (K : Frg) (d : RD) : List V := d.dfl.map (He.Dv.v K)
def RD.kws (K : Frg) (d : RD) : List (Str × V) := d.kwd.map fun q => (q.1, q.2.v K)
def RD.ok (K : Frg) (d : RD) : Bool := PySem.W.keepIn K (.ref (d.at_ K)) && (match K.lookup (d.at_ K) with
  | some ⟨_, _, .func fd, _⟩ => PySem.W.codeIn K fd.code d.qual && (He.dflB K fd.defaults (d.dvs K) && He.kwdB K fd.kwdefaults (d.kws K))
  | _ => false)
/-- a def that says super(): its cell, its code's file -/
def supB (K : Frg) (a D : Addr) (file : Str) : Bool := match K.lookup a with
  | some ⟨_, _, .func fd, _⟩ => (match fd.closure, fd.code with
    | [(_, cc)], .ref cda => (match K.lookup cc, K.lookup cda with
      | some ⟨_, _, .cell (some (.ref E)), _⟩, some ⟨_, _, .fields vs, _⟩ => decide (E = D) && (match vs[2]? with
        | some (Value.str f _) => file == f
        | _ => false)
      | _, _ => false)
    | _, _ => false)
  | _ => false
abbrev AlZ : Type := Bool × List FnZ × List (Option (List (Option (Str × Int))))
def obsZ (fa : List He.Fa) (fb : List (Frg → Bool)) (fn : List RD) (ts : List He.Tab) (K : Frg) : AlZ := ((fa.all fun f => f.ok K) && ((fb.all fun f => f K) && fn.all fun d => d.ok K), fn.map fun d => fnZ K (d.at_ K), ts.map fun t => He.dicW K (t.1 K))
def valZ (fn : List RD) (ts : List He.Tab) (w : World) : AlZ := (true, fn.map RD.val, ts.map fun t => some (He.keysIn w.params t.2))
def SaysZ (fa : List He.Fa) (fb : List (Frg → Bool)) (fn : List RD) (ts : List He.Tab) (w : World) (K : Frg) : Prop := obsZ fa fb fn ts K = valZ fn ts w
/-- what is looked at: the classes named cs with their dicts first, the globals named fs, the classes' methods and properties, what these name -/
def nsA (g : Addr → Option Obj) (C : Addr) : Addr := match g C with
  | some ⟨_, _, .cls cd, _⟩ => cd.ns
  | _ => 0
def refZD (g : Addr → Option Obj) (a : Addr) : List Addr := match g a with
  | some ⟨_, _, .dict es _, _⟩ => es.toList.flatMap fun e => He.refV e.val
  | _ => []
def refZF (g : Addr → Option Obj) (a : Addr) : List Addr := match g a with
  | some ⟨_, _, .func fd, _⟩ => He.refV fd.code ++ (He.refV fd.defaults ++ (He.refV fd.kwdefaults ++ fd.closure.map (·.2)))
  | some ⟨_, _, .dict es _, _⟩ => es.toList.flatMap fun e => He.refV e.val
  | some ⟨_, _, .fields vs, _⟩ => vs.toList.flatMap He.refV
  | _ => []
def refZG (g : Addr → Option Obj) (a : Addr) : List Addr := match g a with
  | some ⟨_, _, .func fd, _⟩ => He.refV fd.code
  | _ => []
def a1Z (cs : List Str) (g : Addr → Option Obj) : List Addr := cs.flatMap fun x => [He.ga (He.frG g [mainGlobals]) x, nsA g (He.ga (He.frG g [mainGlobals]) x)]
def a2Z (cs fs : List Str) (g : Addr → Option Obj) : List Addr := fs.map (He.ga (He.frG g [mainGlobals])) ++ (a1Z cs g).flatMap (refZD g)
def a3Z (cs fs : List Str) (g : Addr → Option Obj) : List Addr := (a2Z cs fs g).flatMap (refZF g)
def asZ (cs fs : List Str) (g : Addr → Option Obj) : List Addr := mainGlobals :: cStatics :: (a1Z cs g ++ (a2Z cs fs g ++ (a3Z cs fs g ++ (a3Z cs fs g).flatMap (refZG g))))
def obsZG (cs fs : List Str) (fa : List He.Fa) (fb : List (Frg → Bool)) (fn : List RD) (ts : List He.Tab) (g : Addr → Option Obj) : AlZ := obsZ fa fb fn ts (He.frG g (asZ cs fs g))
def hookZ (cs fs : List Str) (fa : List He.Fa) (fb : List (Frg → Bool)) (fn : List RD) (ts : List He.Tab) : PySem.W.Hook where
  α := AlZ
  obs := fun s => obsZG cs fs fa fb fn ts s.heap.get?
  val := fun w => valZ fn ts w
  says := fun w h => ∃ K : Frg, K.In h ∧ SaysZ fa fb fn ts w K
  of := fun _ _ e => ⟨_, He.frG_in, e⟩
  keeps := fun _ _ _ ⟨K, hK, c⟩ k => ⟨K, PySem.W.Frag.In.keeps hK k, c⟩
theorem obsZG_eq {cs fs : List Str} {fa : List He.Fa} {fb : List (Frg → Bool)} {fn : List RD} {ts : List He.Tab} {g : Addr → Option Obj} {s : Shared} (h : ∀ a, g a = s.heap.get? a) : obsZG cs fs fa fb fn ts g = (hookZ cs fs fa fb fn ts).obs s := by
  have e : g = s.heap.get? := funext h
  rw [e] <;> rfl
/-- the getter of the property f of the class at C -/
def pgA (K : Frg) (C : Addr) (f : Str) : Addr := match PySem.W.recIn K (He.ma K C f) "property" with
  | some (.ref g :: _) => g
  | _ => 0
def propB (K : Frg) (C : Addr) (f : Str) : Bool := He.eqO (PySem.W.findIn K (.ref C) f) (some (some (.ref (He.ma K C f)))) && (He.eqO (PySem.W.specialIn K (.ref (He.ma K C f)) "__get__") (some (some (.builtin "property.__get__"))) &&
  (decide (PySem.W.takesIn K (.ref (He.ma K C f)) = some true) && (match PySem.W.recIn K (He.ma K C f) "property" with
    | some (.ref _ :: _) => true
    | _ => false)))
def cmpB (K : Frg) (C : Addr) : Bool := decide (PySem.W.mroIn K C (.type "object") = some true) && (He.eqO (PySem.W.findIn K (.ref C) "__eq__") (some (some (.builtin "object.__eq__"))) && He.eqO (PySem.W.findIn K (.ref C) "__ne__") (some (some (.builtin "object.__ne__"))))
def tycB (K : Frg) (C : Addr) : Bool := He.eqO (PySem.W.findIn K (.ref C) "__class__") (some (some (.builtin "object.__class__"))) && (He.eqO (PySem.W.specialIn K (.builtin "object.__class__") "__get__") (some (some (.builtin "getset_descriptor.__get__"))) &&
  (decide (PySem.W.takesIn K (.builtin "object.__class__") = some true) && decide (PySem.W.mroIn K C (.type "object") = some true)))
def kitB2 (K : Frg) (t u : Value) (b : Bool) : Bool := decide (PySem.W.kitOne K t u = some b)
/-- a method above D seen from C -/
def supmB (K : Frg) (C D : Addr) (m : Str) (f2 : Addr) : Bool := decide (PySem.W.mroIn K C (.ref D) = some true) && (He.eqO (PySem.W.ks_superIn K C D m) (some (some (.ref f2))) && (decide (PySem.W.typeIn K (.ref f2) = some (.type "function")) && PySem.W.fnIn K f2))
def top (i : Nat) : Stmt := PySem.Challenge.pw_exitstacks_k27_whole_raised_again_and_ag.main.body.getD i (.Pass ⟨0, 0, 0, 0⟩)
abbrev a_Activation (K : Frg) : Addr := He.ga K "Activation"
abbrev a_BodyFrame (K : Frg) : Addr := He.ga K "BodyFrame"
abbrev a_Core (K : Frg) : Addr := He.ga K "Core"
abbrev a_Fault (K : Frg) : Addr := He.ga K "Fault"
abbrev a_KindTree (K : Frg) : Addr := He.ga K "KindTree"
abbrev a_Outcome (K : Frg) : Addr := He.ga K "Outcome"
abbrev a_Runner (K : Frg) : Addr := He.ga K "Runner"
abbrev a_S2Check (K : Frg) : Addr := He.ga K "S2Check"
abbrev a_StackCore (K : Frg) : Addr := He.ga K "StackCore"
abbrev a_TryFrame (K : Frg) : Addr := He.ga K "TryFrame"
abbrev a_WithCore (K : Frg) : Addr := He.ga K "WithCore"
abbrev s_is_letter : Stmt := top 20
abbrev f_is_letter (K : Frg) : Addr := He.ga K "is_letter"
def r_is_letter : RD := { at_ := f_is_letter, name := "is_letter", qual := "is_letter", params := defArgs s_is_letter, body := defBody s_is_letter, scope := defScope s_is_letter }
abbrev s_is_kind : Stmt := top 21
abbrev f_is_kind (K : Frg) : Addr := He.ga K "is_kind"
def r_is_kind : RD := { at_ := f_is_kind, name := "is_kind", qual := "is_kind", params := defArgs s_is_kind, body := defBody s_is_kind, scope := defScope s_is_kind }
abbrev s_is_label : Stmt := top 22
abbrev f_is_label (K : Frg) : Addr := He.ga K "is_label"
def r_is_label : RD := { at_ := f_is_label, name := "is_label", qual := "is_label", params := defArgs s_is_label, body := defBody s_is_label, scope := defScope s_is_label }
abbrev s_need_fault : Stmt := top 26
abbrev f_need_fault (K : Frg) : Addr := He.ga K "need_fault"
def r_need_fault : RD := { at_ := f_need_fault, name := "need_fault", qual := "need_fault", params := defArgs s_need_fault, body := defBody s_need_fault, scope := defScope s_need_fault }
abbrev s_need_fault_or_none : Stmt := top 27
abbrev f_need_fault_or_none (K : Frg) : Addr := He.ga K "need_fault_or_none"
def r_need_fault_or_none : RD := { at_ := f_need_fault_or_none, name := "need_fault_or_none", qual := "need_fault_or_none", params := defArgs s_need_fault_or_none, body := defBody s_need_fault_or_none, scope := defScope s_need_fault_or_none }
abbrev s_raise_under : Stmt := top 28
abbrev f_raise_under (K : Frg) : Addr := He.ga K "raise_under"
def r_raise_under : RD := { at_ := f_raise_under, name := "raise_under", qual := "raise_under", params := defArgs s_raise_under, body := defBody s_raise_under, scope := defScope s_raise_under }
abbrev s_with_cause : Stmt := top 29
abbrev f_with_cause (K : Frg) : Addr := He.ga K "with_cause"
def r_with_cause : RD := { at_ := f_with_cause, name := "with_cause", qual := "with_cause", params := defArgs s_with_cause, body := defBody s_with_cause, scope := defScope s_with_cause }
abbrev s_number_of : Stmt := top 30
abbrev f_number_of (K : Frg) : Addr := He.ga K "number_of"
def r_number_of : RD := { at_ := f_number_of, name := "number_of", qual := "number_of", params := defArgs s_number_of, body := defBody s_number_of, scope := defScope s_number_of }
abbrev s_rows_of : Stmt := top 31
abbrev f_rows_of (K : Frg) : Addr := He.ga K "rows_of"
def r_rows_of : RD := { at_ := f_rows_of, name := "rows_of", qual := "rows_of", params := defArgs s_rows_of, body := defBody s_rows_of, scope := defScope s_rows_of }
abbrev s_is_number : Stmt := top 43
abbrev f_is_number (K : Frg) : Addr := He.ga K "is_number"
def r_is_number : RD := { at_ := f_is_number, name := "is_number", qual := "is_number", params := defArgs s_is_number, body := defBody s_is_number, scope := defScope s_is_number }
abbrev s_is_name : Stmt := top 44
abbrev f_is_name (K : Frg) : Addr := He.ga K "is_name"
def r_is_name : RD := { at_ := f_is_name, name := "is_name", qual := "is_name", params := defArgs s_is_name, body := defBody s_is_name, scope := defScope s_is_name }
abbrev s_is_plain : Stmt := top 45
abbrev f_is_plain (K : Frg) : Addr := He.ga K "is_plain"
def r_is_plain : RD := { at_ := f_is_plain, name := "is_plain", qual := "is_plain", params := defArgs s_is_plain, body := defBody s_is_plain, scope := defScope s_is_plain }
abbrev s_s2_parts : Stmt := top 46
abbrev f_s2_parts (K : Frg) : Addr := He.ga K "s2_parts"
def r_s2_parts : RD := { at_ := f_s2_parts, name := "s2_parts", qual := "s2_parts", params := defArgs s_s2_parts, body := defBody s_s2_parts, scope := defScope s_s2_parts }
abbrev s_s2_wrong_place : Stmt := top 49
abbrev f_s2_wrong_place (K : Frg) : Addr := He.ga K "s2_wrong_place"
def r_s2_wrong_place : RD := { at_ := f_s2_wrong_place, name := "s2_wrong_place", qual := "s2_wrong_place", params := defArgs s_s2_wrong_place, body := defBody s_s2_wrong_place, scope := defScope s_s2_wrong_place }
abbrev s_known_kinds : Stmt := top 50
abbrev f_known_kinds (K : Frg) : Addr := He.ga K "known_kinds"
def r_known_kinds : RD := { at_ := f_known_kinds, name := "known_kinds", qual := "known_kinds", params := defArgs s_known_kinds, body := defBody s_known_kinds, scope := defScope s_known_kinds }
abbrev s_check_program : Stmt := top 51
abbrev f_check_program (K : Frg) : Addr := He.ga K "check_program"
def r_check_program : RD := { at_ := f_check_program, name := "check_program", qual := "check_program", params := defArgs s_check_program, body := defBody s_check_program, scope := defScope s_check_program, dfl := [.non] }
abbrev s_l_begun : Stmt := top 74
abbrev f_l_begun (K : Frg) : Addr := He.ga K "_law_begun"
def r_l_begun : RD := { at_ := f_l_begun, name := "_law_begun", qual := "_law_begun", params := defArgs s_l_begun, body := defBody s_l_begun, scope := defScope s_l_begun }
abbrev s_l_next : Stmt := top 75
abbrev f_l_next (K : Frg) : Addr := He.ga K "_law_next"
def r_l_next : RD := { at_ := f_l_next, name := "_law_next", qual := "_law_next", params := defArgs s_l_next, body := defBody s_l_next, scope := defScope s_l_next }
abbrev s_l_pick : Stmt := top 76
abbrev f_l_pick (K : Frg) : Addr := He.ga K "_law_pick"
def r_l_pick : RD := { at_ := f_l_pick, name := "_law_pick", qual := "_law_pick", params := defArgs s_l_pick, body := defBody s_l_pick, scope := defScope s_l_pick }
abbrev s_l_tree : Stmt := top 77
abbrev f_l_tree (K : Frg) : Addr := He.ga K "_law_tree"
def r_l_tree : RD := { at_ := f_l_tree, name := "_law_tree", qual := "_law_tree", params := defArgs s_l_tree, body := defBody s_l_tree, scope := defScope s_l_tree }
abbrev s_l_fits : Stmt := top 78
abbrev f_l_fits (K : Frg) : Addr := He.ga K "_law_fits"
def r_l_fits : RD := { at_ := f_l_fits, name := "_law_fits", qual := "_law_fits", params := defArgs s_l_fits, body := defBody s_l_fits, scope := defScope s_l_fits }
abbrev s_l_fresh : Stmt := top 79
abbrev f_l_fresh (K : Frg) : Addr := He.ga K "_law_fresh"
def r_l_fresh : RD := { at_ := f_l_fresh, name := "_law_fresh", qual := "_law_fresh", params := defArgs s_l_fresh, body := defBody s_l_fresh, scope := defScope s_l_fresh }
abbrev s_l_made : Stmt := top 80
abbrev f_l_made (K : Frg) : Addr := He.ga K "_law_made"
def r_l_made : RD := { at_ := f_l_made, name := "_law_made", qual := "_law_made", params := defArgs s_l_made, body := defBody s_l_made, scope := defScope s_l_made }
abbrev s_l_raised : Stmt := top 81
abbrev f_l_raised (K : Frg) : Addr := He.ga K "_law_raised"
def r_l_raised : RD := { at_ := f_l_raised, name := "_law_raised", qual := "_law_raised", params := defArgs s_l_raised, body := defBody s_l_raised, scope := defScope s_l_raised }
abbrev s_l_at : Stmt := top 82
abbrev f_l_at (K : Frg) : Addr := He.ga K "_law_at"
def r_l_at : RD := { at_ := f_l_at, name := "_law_at", qual := "_law_at", params := defArgs s_l_at, body := defBody s_l_at, scope := defScope s_l_at }
abbrev s_l_raising : Stmt := top 83
abbrev f_l_raising (K : Frg) : Addr := He.ga K "_law_raising"
def r_l_raising : RD := { at_ := f_l_raising, name := "_law_raising", qual := "_law_raising", params := defArgs s_l_raising, body := defBody s_l_raising, scope := defScope s_l_raising }
abbrev s_l_try : Stmt := top 84
abbrev f_l_try (K : Frg) : Addr := He.ga K "_law_try"
def r_l_try : RD := { at_ := f_l_try, name := "_law_try", qual := "_law_try", params := defArgs s_l_try, body := defBody s_l_try, scope := defScope s_l_try }
abbrev s_l_statement : Stmt := top 86
abbrev f_l_statement (K : Frg) : Addr := He.ga K "_law_statement"
def r_l_statement : RD := { at_ := f_l_statement, name := "_law_statement", qual := "_law_statement", params := defArgs s_l_statement, body := defBody s_l_statement, scope := defScope s_l_statement }
abbrev s_l_body : Stmt := top 87
abbrev f_l_body (K : Frg) : Addr := He.ga K "_law_body"
def r_l_body : RD := { at_ := f_l_body, name := "_law_body", qual := "_law_body", params := defArgs s_l_body, body := defBody s_l_body, scope := defScope s_l_body }
abbrev s_l_number : Stmt := top 88
abbrev f_l_number (K : Frg) : Addr := He.ga K "_law_number"
def r_l_number : RD := { at_ := f_l_number, name := "_law_number", qual := "_law_number", params := defArgs s_l_number, body := defBody s_l_number, scope := defScope s_l_number }
abbrev s_l_rows : Stmt := top 89
abbrev f_l_rows (K : Frg) : Addr := He.ga K "_law_rows"
def r_l_rows : RD := { at_ := f_l_rows, name := "_law_rows", qual := "_law_rows", params := defArgs s_l_rows, body := defBody s_l_rows, scope := defScope s_l_rows }
abbrev s_l_same : Stmt := top 90
abbrev f_l_same (K : Frg) : Addr := He.ga K "_law_same"
def r_l_same : RD := { at_ := f_l_same, name := "_law_same", qual := "_law_same", params := defArgs s_l_same, body := defBody s_l_same, scope := defScope s_l_same }
abbrev s_l_throws : Stmt := top 91
abbrev f_l_throws (K : Frg) : Addr := He.ga K "_law_throws"
def r_l_throws : RD := { at_ := f_l_throws, name := "_law_throws", qual := "_law_throws", params := defArgs s_l_throws, body := defBody s_l_throws, scope := defScope s_l_throws }
abbrev s_l_nest : Stmt := top 92
abbrev f_l_nest (K : Frg) : Addr := He.ga K "_law_nest"
def r_l_nest : RD := { at_ := f_l_nest, name := "_law_nest", qual := "_law_nest", params := defArgs s_l_nest, body := defBody s_l_nest, scope := defScope s_l_nest }
abbrev s_l_turns : Stmt := top 93
abbrev f_l_turns (K : Frg) : Addr := He.ga K "_law_turns"
def r_l_turns : RD := { at_ := f_l_turns, name := "_law_turns", qual := "_law_turns", params := defArgs s_l_turns, body := defBody s_l_turns, scope := defScope s_l_turns }
abbrev s_law : Stmt := top 94
abbrev f_law (K : Frg) : Addr := He.ga K "law"
def r_law : RD := { at_ := f_law, name := "law", qual := "law", params := defArgs s_law, body := defBody s_law, scope := defScope s_law }
abbrev s_KindTree_init : Stmt := inClass (top 23) 0
abbrev f_KindTree_init (K : Frg) : Addr := He.ma K (a_KindTree K) "__init__"
def r_KindTree_init : RD := { at_ := f_KindTree_init, name := "__init__", qual := "KindTree.__init__", params := defArgs s_KindTree_init, body := defBody s_KindTree_init, scope := defScope s_KindTree_init }
abbrev s_KindTree_is_known : Stmt := inClass (top 23) 2
abbrev f_KindTree_is_known (K : Frg) : Addr := He.ma K (a_KindTree K) "is_known"
def r_KindTree_is_known : RD := { at_ := f_KindTree_is_known, name := "is_known", qual := "KindTree.is_known", params := defArgs s_KindTree_is_known, body := defBody s_KindTree_is_known, scope := defScope s_KindTree_is_known }
abbrev s_KindTree_s1_need : Stmt := inClass (top 23) 3
abbrev f_KindTree_s1_need (K : Frg) : Addr := He.ma K (a_KindTree K) "s1_need"
def r_KindTree_s1_need : RD := { at_ := f_KindTree_s1_need, name := "s1_need", qual := "KindTree.s1_need", params := defArgs s_KindTree_s1_need, body := defBody s_KindTree_s1_need, scope := defScope s_KindTree_s1_need }
abbrev s_KindTree_fits : Stmt := inClass (top 23) 7
abbrev f_KindTree_fits (K : Frg) : Addr := He.ma K (a_KindTree K) "fits"
def r_KindTree_fits : RD := { at_ := f_KindTree_fits, name := "fits", qual := "KindTree.fits", params := defArgs s_KindTree_fits, body := defBody s_KindTree_fits, scope := defScope s_KindTree_fits }
abbrev s_Fault_init : Stmt := inClass (top 25) 0
abbrev f_Fault_init (K : Frg) : Addr := He.ma K (a_Fault K) "__init__"
def r_Fault_init : RD := { at_ := f_Fault_init, name := "__init__", qual := "Fault.__init__", params := defArgs s_Fault_init, body := defBody s_Fault_init, scope := defScope s_Fault_init }
abbrev s_S2Check_init : Stmt := inClass (top 48) 0
abbrev f_S2Check_init (K : Frg) : Addr := He.ma K (a_S2Check K) "__init__"
def r_S2Check_init : RD := { at_ := f_S2Check_init, name := "__init__", qual := "S2Check.__init__", params := defArgs s_S2Check_init, body := defBody s_S2Check_init, scope := defScope s_S2Check_init }
abbrev s_S2Check_s2_knows : Stmt := inClass (top 48) 1
abbrev f_S2Check_s2_knows (K : Frg) : Addr := He.ma K (a_S2Check K) "s2_knows"
def r_S2Check_s2_knows : RD := { at_ := f_S2Check_s2_knows, name := "s2_knows", qual := "S2Check.s2_knows", params := defArgs s_S2Check_s2_knows, body := defBody s_S2Check_s2_knows, scope := defScope s_S2Check_s2_knows }
abbrev s_S2Check_s2_item_fits : Stmt := inClass (top 48) 2
abbrev f_S2Check_s2_item_fits (K : Frg) : Addr := He.ma K (a_S2Check K) "s2_item_fits"
def r_S2Check_s2_item_fits : RD := { at_ := f_S2Check_s2_item_fits, name := "s2_item_fits", qual := "S2Check.s2_item_fits", params := defArgs s_S2Check_s2_item_fits, body := defBody s_S2Check_s2_item_fits, scope := defScope s_S2Check_s2_item_fits }
abbrev s_S2Check_s2_wrong_body : Stmt := inClass (top 48) 3
abbrev f_S2Check_s2_wrong_body (K : Frg) : Addr := He.ma K (a_S2Check K) "s2_wrong_body"
def r_S2Check_s2_wrong_body : RD := { at_ := f_S2Check_s2_wrong_body, name := "s2_wrong_body", qual := "S2Check.s2_wrong_body", params := defArgs s_S2Check_s2_wrong_body, body := defBody s_S2Check_s2_wrong_body, scope := defScope s_S2Check_s2_wrong_body }
abbrev s_S2Check_s2_wrong_statement : Stmt := inClass (top 48) 4
abbrev f_S2Check_s2_wrong_statement (K : Frg) : Addr := He.ma K (a_S2Check K) "s2_wrong_statement"
def r_S2Check_s2_wrong_statement : RD := { at_ := f_S2Check_s2_wrong_statement, name := "s2_wrong_statement", qual := "S2Check.s2_wrong_statement", params := defArgs s_S2Check_s2_wrong_statement, body := defBody s_S2Check_s2_wrong_statement, scope := defScope s_S2Check_s2_wrong_statement }
abbrev s_S2Check_s2_wrong_item : Stmt := inClass (top 48) 5
abbrev f_S2Check_s2_wrong_item (K : Frg) : Addr := He.ma K (a_S2Check K) "s2_wrong_item"
def r_S2Check_s2_wrong_item : RD := { at_ := f_S2Check_s2_wrong_item, name := "s2_wrong_item", qual := "S2Check.s2_wrong_item", params := defArgs s_S2Check_s2_wrong_item, body := defBody s_S2Check_s2_wrong_item, scope := defScope s_S2Check_s2_wrong_item }
abbrev s_S2Check_s2_wrong_handlers : Stmt := inClass (top 48) 6
abbrev f_S2Check_s2_wrong_handlers (K : Frg) : Addr := He.ma K (a_S2Check K) "s2_wrong_handlers"
def r_S2Check_s2_wrong_handlers : RD := { at_ := f_S2Check_s2_wrong_handlers, name := "s2_wrong_handlers", qual := "S2Check.s2_wrong_handlers", params := defArgs s_S2Check_s2_wrong_handlers, body := defBody s_S2Check_s2_wrong_handlers, scope := defScope s_S2Check_s2_wrong_handlers }
abbrev s_Outcome_init : Stmt := inClass (top 56) 0
abbrev f_Outcome_init (K : Frg) : Addr := He.ma K (a_Outcome K) "__init__"
def r_Outcome_init : RD := { at_ := f_Outcome_init, name := "__init__", qual := "Outcome.__init__", params := defArgs s_Outcome_init, body := defBody s_Outcome_init, scope := defScope s_Outcome_init }
abbrev s_BodyFrame_init : Stmt := inClass (top 57) 0
abbrev f_BodyFrame_init (K : Frg) : Addr := He.ma K (a_BodyFrame K) "__init__"
def r_BodyFrame_init : RD := { at_ := f_BodyFrame_init, name := "__init__", qual := "BodyFrame.__init__", params := defArgs s_BodyFrame_init, body := defBody s_BodyFrame_init, scope := defScope s_BodyFrame_init }
abbrev s_BodyFrame_step : Stmt := inClass (top 57) 1
abbrev f_BodyFrame_step (K : Frg) : Addr := He.ma K (a_BodyFrame K) "step"
def r_BodyFrame_step : RD := { at_ := f_BodyFrame_step, name := "step", qual := "BodyFrame.step", params := defArgs s_BodyFrame_step, body := defBody s_BodyFrame_step, scope := defScope s_BodyFrame_step }
abbrev s_BodyFrame_ended : Stmt := inClass (top 57) 2
abbrev f_BodyFrame_ended (K : Frg) : Addr := He.ma K (a_BodyFrame K) "ended"
def r_BodyFrame_ended : RD := { at_ := f_BodyFrame_ended, name := "ended", qual := "BodyFrame.ended", params := defArgs s_BodyFrame_ended, body := defBody s_BodyFrame_ended, scope := defScope s_BodyFrame_ended }
abbrev s_TryFrame_init : Stmt := inClass (top 59) 0
abbrev f_TryFrame_init (K : Frg) : Addr := He.ma K (a_TryFrame K) "__init__"
def r_TryFrame_init : RD := { at_ := f_TryFrame_init, name := "__init__", qual := "TryFrame.__init__", params := defArgs s_TryFrame_init, body := defBody s_TryFrame_init, scope := defScope s_TryFrame_init }
abbrev s_TryFrame_s3_begin : Stmt := inClass (top 59) 1
abbrev f_TryFrame_s3_begin (K : Frg) : Addr := He.ma K (a_TryFrame K) "s3_begin"
def r_TryFrame_s3_begin : RD := { at_ := f_TryFrame_s3_begin, name := "s3_begin", qual := "TryFrame.s3_begin", params := defArgs s_TryFrame_s3_begin, body := defBody s_TryFrame_s3_begin, scope := defScope s_TryFrame_s3_begin }
abbrev s_TryFrame_step : Stmt := inClass (top 59) 2
abbrev f_TryFrame_step (K : Frg) : Addr := He.ma K (a_TryFrame K) "step"
def r_TryFrame_step : RD := { at_ := f_TryFrame_step, name := "step", qual := "TryFrame.step", params := defArgs s_TryFrame_step, body := defBody s_TryFrame_step, scope := defScope s_TryFrame_step }
abbrev s_TryFrame_ended : Stmt := inClass (top 59) 3
abbrev f_TryFrame_ended (K : Frg) : Addr := He.ma K (a_TryFrame K) "ended"
def r_TryFrame_ended : RD := { at_ := f_TryFrame_ended, name := "ended", qual := "TryFrame.ended", params := defArgs s_TryFrame_ended, body := defBody s_TryFrame_ended, scope := defScope s_TryFrame_ended }
abbrev s_TryFrame_s3_is_handled : Stmt := inClass (top 59) 4
abbrev f_TryFrame_s3_is_handled (K : Frg) : Addr := He.ma K (a_TryFrame K) "s3_is_handled"
def r_TryFrame_s3_is_handled : RD := { at_ := f_TryFrame_s3_is_handled, name := "s3_is_handled", qual := "TryFrame.s3_is_handled", params := defArgs s_TryFrame_s3_is_handled, body := defBody s_TryFrame_s3_is_handled, scope := defScope s_TryFrame_s3_is_handled }
abbrev s_Activation_init : Stmt := inClass (top 60) 0
abbrev f_Activation_init (K : Frg) : Addr := He.ma K (a_Activation K) "__init__"
def r_Activation_init : RD := { at_ := f_Activation_init, name := "__init__", qual := "Activation.__init__", params := defArgs s_Activation_init, body := defBody s_Activation_init, scope := defScope s_Activation_init }
abbrev s_Runner_init : Stmt := inClass (top 72) 0
abbrev f_Runner_init (K : Frg) : Addr := He.ma K (a_Runner K) "__init__"
def r_Runner_init : RD := { at_ := f_Runner_init, name := "__init__", qual := "Runner.__init__", params := defArgs s_Runner_init, body := defBody s_Runner_init, scope := defScope s_Runner_init, cl := ["__class__"], dfl := [.non], kwd := [("limit", .int 2000)] }
abbrev s_Runner_s3_clear : Stmt := inClass (top 66) 0
abbrev f_Runner_s3_clear (K : Frg) : Addr := He.ma K (a_Runner K) "s3_clear"
def r_Runner_s3_clear : RD := { at_ := f_Runner_s3_clear, name := "s3_clear", qual := "WithCore.s3_clear", params := defArgs s_Runner_s3_clear, body := defBody s_Runner_s3_clear, scope := defScope s_Runner_s3_clear, cl := ["__class__"] }
abbrev s_Runner_s3_run : Stmt := inClass (top 61) 2
abbrev f_Runner_s3_run (K : Frg) : Addr := He.ma K (a_Runner K) "s3_run"
def r_Runner_s3_run : RD := { at_ := f_Runner_s3_run, name := "s3_run", qual := "Core.s3_run", params := defArgs s_Runner_s3_run, body := defBody s_Runner_s3_run, scope := defScope s_Runner_s3_run }
abbrev s_Runner_s3_begin_statement : Stmt := inClass (top 61) 3
abbrev f_Runner_s3_begin_statement (K : Frg) : Addr := He.ma K (a_Runner K) "s3_begin_statement"
def r_Runner_s3_begin_statement : RD := { at_ := f_Runner_s3_begin_statement, name := "s3_begin_statement", qual := "Core.s3_begin_statement", params := defArgs s_Runner_s3_begin_statement, body := defBody s_Runner_s3_begin_statement, scope := defScope s_Runner_s3_begin_statement }
abbrev s_Runner_s3_now : Stmt := inClass (top 61) 4
abbrev f_Runner_s3_now (K : Frg) : Addr := He.ma K (a_Runner K) "s3_now"
def r_Runner_s3_now : RD := { at_ := f_Runner_s3_now, name := "s3_now", qual := "Core.s3_now", params := defArgs s_Runner_s3_now, body := defBody s_Runner_s3_now, scope := defScope s_Runner_s3_now }
abbrev s_Runner_s3_made : Stmt := inClass (top 61) 5
abbrev f_Runner_s3_made (K : Frg) : Addr := He.ma K (a_Runner K) "s3_made"
def r_Runner_s3_made : RD := { at_ := f_Runner_s3_made, name := "s3_made", qual := "Core.s3_made", params := defArgs s_Runner_s3_made, body := defBody s_Runner_s3_made, scope := defScope s_Runner_s3_made }
abbrev s_Runner_s3_raised : Stmt := inClass (top 61) 6
abbrev f_Runner_s3_raised (K : Frg) : Addr := He.ma K (a_Runner K) "s3_raised"
def r_Runner_s3_raised : RD := { at_ := f_Runner_s3_raised, name := "s3_raised", qual := "Core.s3_raised", params := defArgs s_Runner_s3_raised, body := defBody s_Runner_s3_raised, scope := defScope s_Runner_s3_raised }
abbrev s_Runner_s3_fail : Stmt := inClass (top 61) 7
abbrev f_Runner_s3_fail (K : Frg) : Addr := He.ma K (a_Runner K) "s3_fail"
def r_Runner_s3_fail : RD := { at_ := f_Runner_s3_fail, name := "s3_fail", qual := "Core.s3_fail", params := defArgs s_Runner_s3_fail, body := defBody s_Runner_s3_fail, scope := defScope s_Runner_s3_fail }
abbrev s_Runner_s3_call : Stmt := inClass (top 61) 8
abbrev f_Runner_s3_call (K : Frg) : Addr := He.ma K (a_Runner K) "s3_call"
def r_Runner_s3_call : RD := { at_ := f_Runner_s3_call, name := "s3_call", qual := "Core.s3_call", params := defArgs s_Runner_s3_call, body := defBody s_Runner_s3_call, scope := defScope s_Runner_s3_call }
abbrev s_Runner_s3_advance : Stmt := inClass (top 61) 9
abbrev f_Runner_s3_advance (K : Frg) : Addr := He.ma K (a_Runner K) "s3_advance"
def r_Runner_s3_advance : RD := { at_ := f_Runner_s3_advance, name := "s3_advance", qual := "Core.s3_advance", params := defArgs s_Runner_s3_advance, body := defBody s_Runner_s3_advance, scope := defScope s_Runner_s3_advance, dfl := [.non] }
abbrev s_Runner_s3_fault_at : Stmt := inClass (top 61) 10
abbrev f_Runner_s3_fault_at (K : Frg) : Addr := He.ma K (a_Runner K) "s3_fault_at"
def r_Runner_s3_fault_at : RD := { at_ := f_Runner_s3_fault_at, name := "s3_fault_at", qual := "Core.s3_fault_at", params := defArgs s_Runner_s3_fault_at, body := defBody s_Runner_s3_fault_at, scope := defScope s_Runner_s3_fault_at }
abbrev s_Runner_s3_execute : Stmt := inClass (top 70) 9
abbrev f_Runner_s3_execute (K : Frg) : Addr := He.ma K (a_Runner K) "s3_execute"
def r_Runner_s3_execute : RD := { at_ := f_Runner_s3_execute, name := "s3_execute", qual := "StackCore.s3_execute", params := defArgs s_Runner_s3_execute, body := defBody s_Runner_s3_execute, scope := defScope s_Runner_s3_execute, cl := ["__class__"] }
abbrev s_Runner_s3_raising : Stmt := inClass (top 61) 14
abbrev f_Runner_s3_raising (K : Frg) : Addr := He.ma K (a_Runner K) "s3_raising"
def r_Runner_s3_raising : RD := { at_ := f_Runner_s3_raising, name := "s3_raising", qual := "Core.s3_raising", params := defArgs s_Runner_s3_raising, body := defBody s_Runner_s3_raising, scope := defScope s_Runner_s3_raising }
abbrev s_Runner_run : Stmt := inClass (top 72) 6
abbrev f_Runner_run (K : Frg) : Addr := He.ma K (a_Runner K) "run"
def r_Runner_run : RD := { at_ := f_Runner_run, name := "run", qual := "Runner.run", params := defArgs s_Runner_run, body := defBody s_Runner_run, scope := defScope s_Runner_run }
abbrev s_Runner_s6_check : Stmt := inClass (top 72) 8
abbrev f_Runner_s6_check (K : Frg) : Addr := He.ma K (a_Runner K) "s6_check"
def r_Runner_s6_check : RD := { at_ := f_Runner_s6_check, name := "s6_check", qual := "Runner.s6_check", params := defArgs s_Runner_s6_check, body := defBody s_Runner_s6_check, scope := defScope s_Runner_s6_check }
abbrev s_Core_init : Stmt := inClass (top 61) 0
abbrev f_Core_init (K : Frg) : Addr := He.ma K (a_Core K) "__init__"
def r_Core_init : RD := { at_ := f_Core_init, name := "__init__", qual := "Core.__init__", params := defArgs s_Core_init, body := defBody s_Core_init, scope := defScope s_Core_init }
abbrev s_WithCore_s3_execute : Stmt := inClass (top 66) 6
abbrev f_WithCore_s3_execute (K : Frg) : Addr := He.ma K (a_WithCore K) "s3_execute"
def r_WithCore_s3_execute : RD := { at_ := f_WithCore_s3_execute, name := "s3_execute", qual := "WithCore.s3_execute", params := defArgs s_WithCore_s3_execute, body := defBody s_WithCore_s3_execute, scope := defScope s_WithCore_s3_execute, cl := ["__class__"] }
abbrev s_Core_s3_execute : Stmt := inClass (top 61) 12
abbrev f_Core_s3_execute (K : Frg) : Addr := He.ma K (a_Core K) "s3_execute"
def r_Core_s3_execute : RD := { at_ := f_Core_s3_execute, name := "s3_execute", qual := "Core.s3_execute", params := defArgs s_Core_s3_execute, body := defBody s_Core_s3_execute, scope := defScope s_Core_s3_execute }
abbrev s_Core_s3_clear : Stmt := inClass (top 61) 1
abbrev f_Core_s3_clear (K : Frg) : Addr := He.ma K (a_Core K) "s3_clear"
def r_Core_s3_clear : RD := { at_ := f_Core_s3_clear, name := "s3_clear", qual := "Core.s3_clear", params := defArgs s_Core_s3_clear, body := defBody s_Core_s3_clear, scope := defScope s_Core_s3_clear }
abbrev s_KindTree_kinds : Stmt := inClass (top 23) 1
abbrev f_KindTree_kinds (K : Frg) : Addr := pgA K (a_KindTree K) "kinds"
def r_KindTree_kinds : RD := { at_ := f_KindTree_kinds, name := "kinds", qual := "KindTree.kinds", params := defArgs s_KindTree_kinds, body := defBody s_KindTree_kinds, scope := defScope s_KindTree_kinds }
abbrev s_Fault_kind : Stmt := inClass (top 25) 1
abbrev f_Fault_kind (K : Frg) : Addr := pgA K (a_Fault K) "kind"
def r_Fault_kind : RD := { at_ := f_Fault_kind, name := "kind", qual := "Fault.kind", params := defArgs s_Fault_kind, body := defBody s_Fault_kind, scope := defScope s_Fault_kind }
abbrev s_Fault_label : Stmt := inClass (top 25) 2
abbrev f_Fault_label (K : Frg) : Addr := pgA K (a_Fault K) "label"
def r_Fault_label : RD := { at_ := f_Fault_label, name := "label", qual := "Fault.label", params := defArgs s_Fault_label, body := defBody s_Fault_label, scope := defScope s_Fault_label }
abbrev s_Fault_number : Stmt := inClass (top 25) 3
abbrev f_Fault_number (K : Frg) : Addr := pgA K (a_Fault K) "number"
def r_Fault_number : RD := { at_ := f_Fault_number, name := "number", qual := "Fault.number", params := defArgs s_Fault_number, body := defBody s_Fault_number, scope := defScope s_Fault_number }
abbrev s_Fault_context : Stmt := inClass (top 25) 4
abbrev f_Fault_context (K : Frg) : Addr := pgA K (a_Fault K) "context"
def r_Fault_context : RD := { at_ := f_Fault_context, name := "context", qual := "Fault.context", params := defArgs s_Fault_context, body := defBody s_Fault_context, scope := defScope s_Fault_context }
abbrev s_Fault_cause : Stmt := inClass (top 25) 5
abbrev f_Fault_cause (K : Frg) : Addr := pgA K (a_Fault K) "cause"
def r_Fault_cause : RD := { at_ := f_Fault_cause, name := "cause", qual := "Fault.cause", params := defArgs s_Fault_cause, body := defBody s_Fault_cause, scope := defScope s_Fault_cause }
abbrev s_Fault_hides : Stmt := inClass (top 25) 6
abbrev f_Fault_hides (K : Frg) : Addr := pgA K (a_Fault K) "hides"
def r_Fault_hides : RD := { at_ := f_Fault_hides, name := "hides", qual := "Fault.hides", params := defArgs s_Fault_hides, body := defBody s_Fault_hides, scope := defScope s_Fault_hides }
abbrev s_Outcome_way : Stmt := inClass (top 56) 1
abbrev f_Outcome_way (K : Frg) : Addr := pgA K (a_Outcome K) "way"
def r_Outcome_way : RD := { at_ := f_Outcome_way, name := "way", qual := "Outcome.way", params := defArgs s_Outcome_way, body := defBody s_Outcome_way, scope := defScope s_Outcome_way }
abbrev s_Outcome_returned : Stmt := inClass (top 56) 2
abbrev f_Outcome_returned (K : Frg) : Addr := pgA K (a_Outcome K) "returned"
def r_Outcome_returned : RD := { at_ := f_Outcome_returned, name := "returned", qual := "Outcome.returned", params := defArgs s_Outcome_returned, body := defBody s_Outcome_returned, scope := defScope s_Outcome_returned }
abbrev s_Outcome_fault : Stmt := inClass (top 56) 3
abbrev f_Outcome_fault (K : Frg) : Addr := pgA K (a_Outcome K) "fault"
def r_Outcome_fault : RD := { at_ := f_Outcome_fault, name := "fault", qual := "Outcome.fault", params := defArgs s_Outcome_fault, body := defBody s_Outcome_fault, scope := defScope s_Outcome_fault }
abbrev s_Runner_log : Stmt := inClass (top 72) 3
abbrev f_Runner_log (K : Frg) : Addr := pgA K (a_Runner K) "log"
def r_Runner_log : RD := { at_ := f_Runner_log, name := "log", qual := "Runner.log", params := defArgs s_Runner_log, body := defBody s_Runner_log, scope := defScope s_Runner_log }
abbrev s_Runner_faults : Stmt := inClass (top 72) 4
abbrev f_Runner_faults (K : Frg) : Addr := pgA K (a_Runner K) "faults"
def r_Runner_faults : RD := { at_ := f_Runner_faults, name := "faults", qual := "Runner.faults", params := defArgs s_Runner_faults, body := defBody s_Runner_faults, scope := defScope s_Runner_faults }
abbrev s_Runner_names : Stmt := inClass (top 72) 5
abbrev f_Runner_names (K : Frg) : Addr := pgA K (a_Runner K) "names"
def r_Runner_names : RD := { at_ := f_Runner_names, name := "names", qual := "Runner.names", params := defArgs s_Runner_names, body := defBody s_Runner_names, scope := defScope s_Runner_names }
/-- the parts of a kind of statement: where the tuple stands -/
def ptA (K : Frg) (k : Str) : Addr := match PySem.W.nsIn K (He.ga K "PARTS") k with
  | some (some (.ref p)) => p
  | _ => 0
def partB (K : Frg) (k : Str) (vs : List He.Dv) : Bool := He.eqO (PySem.W.nsIn K (He.ga K "PARTS") k) (some (some (.ref (ptA K k)))) && (match K.lookup (ptA K k) with
  | some ⟨.type c, _, .seq its _, _⟩ => decide (c = "tuple") && (decide (its.size ≤ sizeLine) && He.relAll (vs.map (He.Dv.v K)) its.toList)
  | _ => false)
def fa0 : List He.Fa := [.glo "is_letter", .glo "is_kind", .glo "is_label", .glo "need_fault", .glo "need_fault_or_none", .glo "raise_under", .glo "with_cause", .glo "number_of", .glo "rows_of", .glo "is_number", .glo "is_name", .glo "is_plain", .glo "s2_parts", .glo "s2_wrong_place", .glo "known_kinds"]
def fa1 : List He.Fa := [.glo "check_program", .glo "_law_begun", .glo "_law_next", .glo "_law_pick", .glo "_law_tree", .glo "_law_fits", .glo "_law_fresh", .glo "_law_made", .glo "_law_raised", .glo "_law_at", .glo "_law_raising", .glo "_law_try", .glo "_law_statement", .glo "_law_body", .glo "_law_number"]
def fa2 : List He.Fa := [.glo "_law_rows", .glo "_law_same", .glo "_law_throws", .glo "_law_nest", .glo "_law_turns", .glo "law", .glo "KindTree", .glo "Fault", .glo "S2Check", .glo "Outcome", .glo "BodyFrame", .glo "TryFrame", .glo "Activation", .glo "Runner", .glo "FIRST_KINDS"]
def fa3 : List He.Fa := [.glo "FIRST_PARENTS", .glo "PARTS", .glo "BODIES", .free "isinstance", .free "str", .free "len", .free "all", .free "ord", .free "int", .free "bool", .free "tuple", .free "dict", .free "zip", .free "enumerate", .free "repr"]
def fa4 : List He.Fa := [.free "sorted", .free "list", .free "max", .free "min", .free "range", .free "super", .int "MOST_LETTERS" 12, .int "MOST_LABEL" 40, .int "MOST_STATEMENTS" 200, .int "MOST_ITEMS" 12, .int "MOST_HANDLERS" 6, .int "MOST_DEPTH" 8, .int "MOST_TIMES" 5, .int "MOST_NUMBER" 1000000000, .int "FIRST_LIMIT" 2000]
def fa5 : List He.Fa := [.int "MOST_STEPS" 10000, .int "MOST_FUNCTIONS" 20, .str "LETTERS" "abcdefghijklmnopqrstuvwxyz", .cls "KindTree", .cls "Fault", .cls "S2Check", .cls "Outcome", .cls "BodyFrame", .cls "TryFrame", .cls "Activation", .cls "Runner", .noat "KindTree" "s1_parents", .noat "Fault" "s1_kind", .noat "Fault" "s1_label", .noat "Fault" "s1_number"]
def fa6 : List He.Fa := [.noat "Fault" "s1_context", .noat "Fault" "s1_cause", .noat "Fault" "s1_hides", .noat "S2Check" "s2_known", .noat "S2Check" "s2_count", .noat "Outcome" "s3_way", .noat "Outcome" "s3_value", .noat "Outcome" "s3_fault", .noat "Outcome" "s3_text", .noat "Outcome" "s3_rows", .noat "BodyFrame" "s3_body", .noat "BodyFrame" "s3_place", .noat "TryFrame" "s3_statement", .noat "TryFrame" "s3_part", .noat "TryFrame" "s3_name"]
def fa7 : List He.Fa := [.noat "TryFrame" "s3_pending", .noat "Activation" "s3_frames", .noat "Activation" "s3_handled", .noat "Runner" "s3_tree", .noat "Runner" "s3_limit", .noat "Runner" "s3_is_spoiled", .noat "Runner" "s3_board", .noat "Runner" "s3_log", .noat "Runner" "s3_faults", .noat "Runner" "s3_steps", .noat "Runner" "s3_active", .noat "Runner" "s4_opened", .mkr "KindTree", .meth "KindTree" "is_known", .meth "KindTree" "s1_need"]
def fa8 : List He.Fa := [.meth "KindTree" "fits", .mkr "Fault", .mkr "S2Check", .meth "S2Check" "s2_knows", .meth "S2Check" "s2_item_fits", .meth "S2Check" "s2_wrong_body", .meth "S2Check" "s2_wrong_statement", .meth "S2Check" "s2_wrong_item", .meth "S2Check" "s2_wrong_handlers", .mkr "Outcome", .mkr "BodyFrame", .meth "BodyFrame" "step", .meth "BodyFrame" "ended", .mkr "TryFrame", .meth "TryFrame" "s3_begin"]
def fa9 : List He.Fa := [.meth "TryFrame" "step", .meth "TryFrame" "ended", .meth "TryFrame" "s3_is_handled", .mkr "Activation", .mkr "Runner", .meth "Runner" "s3_clear", .meth "Runner" "s3_run", .meth "Runner" "s3_begin_statement", .meth "Runner" "s3_now", .meth "Runner" "s3_made", .meth "Runner" "s3_raised", .meth "Runner" "s3_fail", .meth "Runner" "s3_call", .meth "Runner" "s3_advance", .meth "Runner" "s3_fault_at"]
def fa10 : List He.Fa := [.meth "Runner" "s3_execute", .meth "Runner" "s3_raising", .meth "Runner" "run", .meth "Runner" "s6_check"]
def fa : List He.Fa := fa0 ++ (fa1 ++ (fa2 ++ (fa3 ++ (fa4 ++ (fa5 ++ (fa6 ++ (fa7 ++ (fa8 ++ (fa9 ++ (fa10))))))))))
def fb0 : List (Frg → Bool) := [fun K => propB K (a_KindTree K) "kinds", fun K => propB K (a_Fault K) "kind", fun K => propB K (a_Fault K) "label", fun K => propB K (a_Fault K) "number", fun K => propB K (a_Fault K) "context", fun K => propB K (a_Fault K) "cause", fun K => propB K (a_Fault K) "hides", fun K => propB K (a_Outcome K) "way", fun K => propB K (a_Outcome K) "returned", fun K => propB K (a_Outcome K) "fault", fun K => propB K (a_Runner K) "log", fun K => propB K (a_Runner K) "faults", fun K => propB K (a_Runner K) "names", fun K => cmpB K (a_Fault K), fun K => tycB K (a_Fault K)]
def fb1 : List (Frg → Bool) := [fun K => kitB2 K (.ref (a_Fault K)) (.ref (a_Fault K)) true, fun K => tycB K (a_KindTree K), fun K => kitB2 K (.ref (a_KindTree K)) (.ref (a_KindTree K)) true, fun K => kitB2 K (.type "NoneType") (.ref (a_Fault K)) false, fun K => supmB K (a_Runner K) (a_Runner K) "__init__" (f_Core_init K), fun K => supmB K (a_Runner K) (a_StackCore K) "s3_execute" (f_WithCore_s3_execute K), fun K => supmB K (a_Runner K) (a_WithCore K) "s3_execute" (f_Core_s3_execute K), fun K => supmB K (a_Runner K) (a_WithCore K) "s3_clear" (f_Core_s3_clear K), fun K => supB K (f_Runner_init K) (a_Runner K) PySem.Challenge.pw_exitstacks_k27_whole_raised_again_and_ag.main.file, fun K => (PySem.W.clsIn K (a_Runner K)).isSome, fun K => supB K (f_Runner_s3_clear K) (a_WithCore K) PySem.Challenge.pw_exitstacks_k27_whole_raised_again_and_ag.main.file, fun K => (PySem.W.clsIn K (a_WithCore K)).isSome, fun K => supB K (f_Runner_s3_execute K) (a_StackCore K) PySem.Challenge.pw_exitstacks_k27_whole_raised_again_and_ag.main.file, fun K => (PySem.W.clsIn K (a_StackCore K)).isSome, fun K => supB K (f_WithCore_s3_execute K) (a_WithCore K) PySem.Challenge.pw_exitstacks_k27_whole_raised_again_and_ag.main.file]
def fb2 : List (Frg → Bool) := [fun K => (PySem.W.clsIn K (a_WithCore K)).isSome, fun K => He.eqO (PySem.W.nsIn K cStatics "thirdparty.any") (some none), fun K => He.tupB K "FIRST_KINDS" [.str "Base", .str "Exit", .str "Error", .str "Stop", .str "Name", .str "State"], fun K => He.tupB K "FIRST_PARENTS" [.non, .str "Base", .str "Base", .str "Error", .str "Error", .str "Error"], fun K => He.tupB K "BODIES" [.str "body", .str "round", .str "function", .str "made"], fun K => partB K "note" [.str "plain"], fun K => partB K "again" [], fun K => partB K "raise" [.str "kind", .str "label", .str "source"], fun K => partB K "throw" [.str "name", .str "source"], fun K => partB K "try" [.str "body", .str "handlers", .str "body", .str "body"]]
def fb : List (Frg → Bool) := fb0 ++ (fb1 ++ (fb2))
def fn0 : List RD := [r_is_letter, r_is_kind, r_is_label, r_need_fault, r_need_fault_or_none, r_raise_under, r_with_cause, r_number_of, r_rows_of, r_is_number, r_is_name, r_is_plain, r_s2_parts, r_s2_wrong_place, r_known_kinds]
def fn1 : List RD := [r_check_program, r_l_begun, r_l_next, r_l_pick, r_l_tree, r_l_fits, r_l_fresh, r_l_made, r_l_raised, r_l_at, r_l_raising, r_l_try, r_l_statement, r_l_body, r_l_number]
def fn2 : List RD := [r_l_rows, r_l_same, r_l_throws, r_l_nest, r_l_turns, r_law, r_KindTree_init, r_KindTree_is_known, r_KindTree_s1_need, r_KindTree_fits, r_Fault_init, r_S2Check_init, r_S2Check_s2_knows, r_S2Check_s2_item_fits, r_S2Check_s2_wrong_body]
def fn3 : List RD := [r_S2Check_s2_wrong_statement, r_S2Check_s2_wrong_item, r_S2Check_s2_wrong_handlers, r_Outcome_init, r_BodyFrame_init, r_BodyFrame_step, r_BodyFrame_ended, r_TryFrame_init, r_TryFrame_s3_begin, r_TryFrame_step, r_TryFrame_ended, r_TryFrame_s3_is_handled, r_Activation_init, r_Runner_init, r_Runner_s3_clear]
def fn4 : List RD := [r_Runner_s3_run, r_Runner_s3_begin_statement, r_Runner_s3_now, r_Runner_s3_made, r_Runner_s3_raised, r_Runner_s3_fail, r_Runner_s3_call, r_Runner_s3_advance, r_Runner_s3_fault_at, r_Runner_s3_execute, r_Runner_s3_raising, r_Runner_run, r_Runner_s6_check, r_Core_init, r_WithCore_s3_execute]
def fn5 : List RD := [r_Core_s3_execute, r_Core_s3_clear, r_KindTree_kinds, r_Fault_kind, r_Fault_label, r_Fault_number, r_Fault_context, r_Fault_cause, r_Fault_hides, r_Outcome_way, r_Outcome_returned, r_Outcome_fault, r_Runner_log, r_Runner_faults, r_Runner_names]
def fn : List RD := fn0 ++ (fn1 ++ (fn2 ++ (fn3 ++ (fn4 ++ (fn5)))))
def ts : List He.Tab := [(fun K => He.ga K "PARTS", ["note", "show", "return", "yield", "again", "leave", "next", "raise", "throw", "loop", "try", "when", "with", "stack", "hold", "enter", "push", "later", "move", "close"])]
def csN : List Str := ["Activation", "BodyFrame", "Core", "Fault", "KindTree", "Outcome", "Runner", "S2Check", "StackCore", "TryFrame", "WithCore"]
def fsN0 : List Str := ["is_letter", "is_kind", "is_label", "need_fault", "need_fault_or_none", "raise_under", "with_cause", "number_of", "rows_of", "is_number", "is_name", "is_plain", "s2_parts", "s2_wrong_place", "known_kinds"]
def fsN1 : List Str := ["check_program", "_law_begun", "_law_next", "_law_pick", "_law_tree", "_law_fits", "_law_fresh", "_law_made", "_law_raised", "_law_at", "_law_raising", "_law_try", "_law_statement", "_law_body", "_law_number"]
def fsN2 : List Str := ["_law_rows", "_law_same", "_law_throws", "_law_nest", "_law_turns", "law", "FIRST_KINDS", "FIRST_PARENTS", "PARTS", "BODIES"]
def fsN : List Str := fsN0 ++ (fsN1 ++ (fsN2))
end L2.EX
namespace HeadZ
set_option maxHeartbeats 0
open PySem PySem.W PySem.Calls PyProof.Rows
abbrev R : OpenRow := OpenLaw.row PySem.Challenge.rw_exitstacks_k27_whole_raised_again_and_ag
abbrev qv : Program := view R.prog [94]
def names0 : List PySem.Str := ["_wall", "ModelError", "BadKind", "BadTree", "BadLabel", "BadNumber", "BadFault", "BadProgram", "BadLimit", "Absent", "NoPlace", "RunError", "TooManySteps", "Spoiled", "FIRST_KINDS", "FIRST_PARENTS", "MOST_LETTERS", "MOST_LABEL", "is_letter", "is_kind", "is_label", "KindTree", "Fault", "need_fault", "need_fault_or_none"]
def names1 : List PySem.Str := ["raise_under", "with_cause", "number_of", "rows_of", "MOST_STATEMENTS", "MOST_ITEMS", "MOST_HANDLERS", "MOST_DEPTH", "MOST_TIMES", "MOST_NUMBER", "LETTERS", "PARTS", "MANAGERS", "BODIES", "is_number", "is_name", "is_plain", "s2_parts", "s2_manager_parts", "S2Check", "s2_wrong_place", "known_kinds", "check_program", "FIRST_LIMIT", "MOST_STEPS"]
def names2 : List PySem.Str := ["MOST_FUNCTIONS", "Outcome", "BodyFrame", "LoopFrame", "TryFrame", "Activation", "Core", "ERROR", "counts_as_true", "WithFrame", "WithCore", "EntryStack", "StackFrame", "StackCore", "Runner", "_law_begun", "_law_next", "_law_pick", "_law_tree", "_law_fits", "_law_fresh", "_law_made", "_law_raised", "_law_at", "_law_raising"]
def names3 : List PySem.Str := ["_law_try", "_law_loop", "_law_statement", "_law_body", "_law_number", "_law_rows", "_law_same", "_law_throws", "_law_nest", "_law_turns"]
def names : List PySem.Str := names0 ++ names1 ++ names2 ++ names3
abbrev hk : PySem.W.Hook := L2.EX.hookZ L2.EX.csN L2.EX.fsN L2.EX.fa L2.EX.fb L2.EX.fn L2.EX.ts
def ob (s : PySem.W.SharedT) : L2.EX.AlZ := L2.EX.obsZG L2.EX.csN L2.EX.fsN L2.EX.fa L2.EX.fb L2.EX.fn L2.EX.ts (HandSHeadRun.getT s)
theorem ob_eq (s : PySem.W.SharedT) : ob s = hk.obs s.abs := L2.EX.obsZG_eq (HandSHeadRun.getT_eq s)
abbrev Kz (s : PySem.W.SharedT) : L2.EX.Frg := He.frG (HandSHeadRun.getT s) (L2.EX.asZ L2.EX.csN L2.EX.fsN (HandSHeadRun.getT s))
noncomputable abbrev FN (w : World) (os : OsState) : Option SharedT := HandSHeadRun.endF (HandSHeadRun.stepQ (HandSHeadRun.denQ HandSHeadRun.tabQ) R.prog w) 40000 R.prog w os
def RunA (w : World) : Prop := ∀ os : OsState, (FN w os).map (fun s => (HandSHeadRun.looksF R.prog (boot_heap w.params) s.abs, HandSHeadRun.seenQ qv names (importedModules R.prog.main.body) (fun s => xlAt qv [] s && recOk R.toRowW.records s) s.abs)) = some (true, openGood qv names)
def RunB (w : World) : Prop := ∀ os : OsState, (FN w os).map (fun s => (L2.EX.fn.map (fun d => L2.EX.fnZ (Kz s) (d.at_ (Kz s))), (L2.EX.ts.map (fun t => He.dicW (Kz s) (t.1 (Kz s))), L2.EX.fn.all fun d => d.ok (Kz s)))) = some (L2.EX.fn.map L2.EX.RD.val, (L2.EX.ts.map fun t => some (He.keysIn w.params t.2), true))
def RunC (w : World) : Prop := ∀ os : OsState, (FN w os).map (fun s => (L2.EX.fa.all fun f => f.ok (Kz s)) && L2.EX.fb.all fun f => f (Kz s)) = some true
theorem runa0 (w : World) : RunA (w.withFollow "special-get-raises" false) := by
  intro os
  kernel_rfl
theorem runa1 (w : World) : RunA (w.withFollow "special-get-raises" true) := by
  intro os
  kernel_rfl
theorem runb0 (w : World) : RunB (w.withFollow "special-get-raises" false) := by
  intro os
  kernel_rfl
theorem runb1 (w : World) : RunB (w.withFollow "special-get-raises" true) := by
  intro os
  kernel_rfl
theorem runc0 (w : World) : RunC (w.withFollow "special-get-raises" false) := by
  intro os
  kernel_rfl
theorem runc1 (w : World) : RunC (w.withFollow "special-get-raises" true) := by
  intro os
  kernel_rfl
theorem run_of (w : World) (a : RunA w) (b : RunB w) (c : RunC w) : HandSHeadRun.RunEq R qv hk ob 40000 names w := by
  intro os
  have ha := a os
  have hb := b os
  have hc := c os
  cases q : FN w os with
  | none =>
    rw [q] at hc
    cases hc
  | some s =>
    rw [q] at ha hb hc
    have ha := Option.some.inj ha
    have hb := Option.some.inj hb
    have hc : ((L2.EX.fa.all fun f => f.ok (Kz s)) && L2.EX.fb.all fun f => f (Kz s)) = true := Option.some.inj hc
    have q' : HandSHeadRun.endF (HandSHeadRun.stepQ (HandSHeadRun.denQ HandSHeadRun.tabQ) R.prog w) 40000 R.prog w os = some s := q
    rw [q']
    obtain ⟨h1, h2⟩ := Prod.mk.inj ha
    obtain ⟨h3, h45⟩ := Prod.mk.inj hb
    obtain ⟨h4, h5⟩ := Prod.mk.inj h45
    show some _ = some _
    refine congrArg some (Prod.ext h1 (Prod.ext h2 ?_))
    refine Prod.ext ?_ (Prod.ext h3 h4)
    show ((L2.EX.fa.all fun f => f.ok (Kz s)) && ((L2.EX.fb.all fun f => f (Kz s)) && L2.EX.fn.all fun d => d.ok (Kz s))) = true
    obtain ⟨c1, c2⟩ := Bool.and_eq_true_iff.mp hc
    rw [c1, c2, h5]
    rfl
theorem run (w : World) : HandSHeadRun.RunEq R qv hk ob 40000 names w :=
  byRow2 "special-get-raises" (P := fun w => HandSHeadRun.RunEq R qv hk ob 40000 names w) (fun w => run_of _ (runa0 w) (runb0 w) (runc0 w)) (fun w => run_of _ (runa1 w) (runb1 w) (runc1 w)) w
end HeadZ
/-! Own rules: match over texts, equality of plain instances, lists and tuples against the empty one, enumerate of a tuple. -/
namespace L2.EX
open PySem PySem.Spec PyProof.Rows
/-! ### match -/
section
variable {X : Cx}
structure PPat (X : Cx) (p : Pattern) (f : V → Option Bool) : Prop where
  run : ∀ (pins : List (Addr × Obj)) (s : Shared) (σ : St) (H : Hp) (x : V) (v : Value) (b : Bool) (Q : Option (List (Str × Value)) → Shared → Prop), Inv X pins σ H s → RelV x v → f x = some b →
    (∀ s', Inv X pins σ H s' → Q (if b = true then some [] else none) s') → wpAny (model X.prog X.w) X.A (matchPattern p X.env v) Q X.xe s
def fStr (y : Str) : V → Option Bool := fun x => match x with
  | .str z => some (z == y)
  | _ => none
def fOr (f g : V → Option Bool) : V → Option Bool := fun x => match f x with
  | some true => some true
  | some false => g x
  | none => none
def fAny : V → Option Bool := fun _ => some true
theorem pp_str {y : Str} {j : Nat} {p1 p2 : Pos} : PPat X (.MatchValue (.Constant (.str y) j p1) p2) (fStr y) := by
  refine ⟨fun pins s σ H x v b Q I r e h => ?_⟩
  cases x with
  | str z =>
    obtain ⟨t, rfl⟩ := r
    have e' : (z == y) = b := Option.some.inj e
    refine wpAny_matchPattern_Value (Calls.Constant_str ?_)
    refine eq_str (wpAny_truthy_bool ?_)
    have h' := h _ (I.tok (s.toks + 1))
    rw [e']
    cases b with
    | true => exact h'
    | false => exact h'
  | _ => cases e
theorem pp_any {p : Pos} : PPat X (.MatchAs none none p) fAny := by
  refine ⟨fun pins s σ H x v b Q I r e h => ?_⟩
  have e' : true = b := Option.some.inj e
  subst e'
  exact wpAny_matchPattern_Capture (h s I)
theorem pp_or2 {p q : Pattern} {pos : Pos} {f g : V → Option Bool} (hp : PPat X p f) (hq : PPat X q g) : PPat X (.MatchOr [p, q] pos) (fOr f g) := by
  refine ⟨fun pins s σ H x v b Q I r e h => ?_⟩
  refine wpAny_matchPattern_Or ?_
  have nil : ∀ l : List Str, (l.filterMap fun n => (([] : List (Str × Value)).lookup n).map fun w => (n, w)) = [] := fun l => by
    induction l with
    | nil => rfl
    | cons a l ih => simp
  unfold fOr at e
  cases ef : f x with
  | none => rw [ef] at e; cases e
  | some c =>
    rw [ef] at e
    refine wpAny_matchFirst_cons (hp.run pins s σ H x v c _ I r ef fun s1 I1 => ?_)
    cases c with
    | true =>
      have e' : true = b := Option.some.inj e
      subst e'
      have := h s1 I1
      show Q (some _) s1
      rw [nil]
      exact this
    | false =>
      refine wpAny_matchFirst_cons (hq.run pins s1 σ H x v b _ I1 r e fun s2 I2 => ?_)
      cases b with
      | true =>
        have := h s2 I2
        show Q (some _) s2
        rw [nil]
        exact this
      | false => exact wpAny_matchFirst_nil (h s2 I2)
/-- the cases of a match, by the subject's value -/
structure PMs (X : Cx) (cases : List MatchCase) (t : V → TS) : Prop where
  run : ∀ (pins : List (Addr × Obj)) (s : Shared) (σ : St) (H : Hp) (x : V) (v : Value) (first : Bool) (D : Ends), Inv X pins σ H s → RelV x v → t x D σ H →
    wpAny (model X.prog X.w) X.A (matchCases cases X.env v first) (SP X pins D) X.xe s
theorem pms_nil : PMs X [] (fun _ D σ H => D.nx σ H) := ⟨fun _ _ σ H _ _ _ _ I _ h => wpAny_matchCases_nil ⟨σ, H, I, h⟩⟩
def tCase (f : V → Option Bool) (tb : TS) (tr : V → TS) : V → TS := fun x D σ H => ∃ b, f x = some b ∧ if b = true then tb D σ H else tr x D σ H
theorem pms_cons {p : Pattern} {f : V → Option Bool} {body : List Stmt} {rest : List MatchCase} {tb : TS} {tr : V → TS} (hp : PPat X p f) (hb : PSs X body tb) (hr : PMs X rest tr) : PMs X (⟨p, none, body⟩ :: rest) (tCase f tb tr) := by
  refine ⟨fun pins s σ H x v first D I r h => ?_⟩
  obtain ⟨b, e, h⟩ := h
  refine wpAny_matchCases_cons (hp.run pins s σ H x v b _ I r e fun s1 I1 => ?_)
  cases b with
  | true => exact wpAny_assignInOrder_none (hb.run pins s1 σ H D I1 h)
  | false => exact hr.run pins s1 σ H x v false D I1 r h
def tMatch (te : TE) (t : V → TS) : TS := fun D σ H => te σ H fun x H1 => t x D σ H1
theorem ps_match {e : Expr} {cases : List MatchCase} {pos : Pos} {te : TE} {t : V → TS} (he : PE X e te) (hc : PMs X cases t) : PS X (.Match e cases pos) (tMatch te t) := by
  refine ⟨fun pins s σ H D I h => ?_⟩
  exact wpAny_Match (thn (he.run pins s σ H _ I h) fun v s1 ⟨x, H1, I1, r1, q1⟩ => hc.run pins s1 σ H1 x v true D I1 r1 q1)
end

/-! ### lists and tuples against the empty one -/
section
variable {X : Cx}
def rLE (K : PySem.W.Frag) (neg : Bool) : R2 := fun x y H Q => ∃ a b xs, x = .ref a ∧ y = .ref b ∧ SqL K H a xs ∧ SqL K H b [] ∧ Q (.bl (if neg = true then !xs.isEmpty else xs.isEmpty)) H
theorem op_eqLE (hu : X.A.units < cLine) : OpR X (compareOp .Eq) (rLE X.K false) := by
  intro pins s σ H x y v u Q I rx ry h
  obtain ⟨a, b, xs, rfl, rfl, ha, hb, q⟩ := h
  cases rx
  cases ry
  obtain ⟨its, rv, p, hz⟩ := I.list ha
  obtain ⟨its2, rv2, p2, _⟩ := I.list hb
  cases rv2
  cases rv with
  | nil => exact SeqAt.eq_listAt (e := fun _ => true) p.isList p2.isList rfl hu (fun j h1 _ => absurd h1 (by simp)) ⟨.bl true, H, I, rfl, q⟩
  | cons r t => exact SeqAt.eq_list_lengthsAt p.isList p2.isList (by simp) hu ⟨.bl false, H, I, rfl, q⟩
theorem op_neLE (hu : X.A.units < cLine) : OpR X (compareOp .NotEq) (rLE X.K true) := by
  intro pins s σ H x y v u Q I rx ry h
  obtain ⟨a, b, xs, rfl, rfl, ha, hb, q⟩ := h
  cases rx
  cases ry
  obtain ⟨its, rv, p, hz⟩ := I.list ha
  obtain ⟨its2, rv2, p2, _⟩ := I.list hb
  cases rv2
  cases rv with
  | nil => exact SeqAt.RcNeAt.lists (e := fun _ => true) p.isList p2.isList rfl hu (fun j h1 _ => absurd h1 (by simp)) _ _ _ _ ⟨.bl false, H, I, rfl, q⟩
  | cons r t => exact SeqAt.RcNeAt.lists_lengths p.isList p2.isList (by simp) hu _ _ _ _ ⟨.bl true, H, I, rfl, q⟩
def rTE (K : PySem.W.Frag) (neg : Bool) : R2 := fun x y H Q => ∃ a b xs, x = .ref a ∧ y = .ref b ∧ SqT K H a xs ∧ SqT K H b [] ∧ Q (.bl (if neg = true then !xs.isEmpty else xs.isEmpty)) H
theorem op_eqTE (hu : X.A.units < cLine) : OpR X (compareOp .Eq) (rTE X.K false) := by
  intro pins s σ H x y v u Q I rx ry h
  obtain ⟨a, b, xs, rfl, rfl, ha, hb, q⟩ := h
  cases rx
  cases ry
  obtain ⟨its, rv, p, hz⟩ := I.tuple ha
  obtain ⟨its2, rv2, p2, _⟩ := I.tuple hb
  cases rv2
  refine SeqAt.eq_tupleAt (e := fun _ => true) p p2 hu (fun j _ h1 => absurd h1 (by simp)) ?_
  cases rv with
  | nil => exact ⟨.bl true, H, I, rfl, q⟩
  | cons r t => exact ⟨.bl false, H, I, by simp [RelV], q⟩
theorem op_neTE (hu : X.A.units < cLine) : OpR X (compareOp .NotEq) (rTE X.K true) := by
  intro pins s σ H x y v u Q I rx ry h
  obtain ⟨a, b, xs, rfl, rfl, ha, hb, q⟩ := h
  cases rx
  cases ry
  obtain ⟨its, rv, p, hz⟩ := I.tuple ha
  obtain ⟨its2, rv2, p2, _⟩ := I.tuple hb
  cases rv2
  refine SeqAt.RcNeAt.tuples (e := fun _ => true) p p2 hu (fun j _ h1 => absurd h1 (by simp)) _ _ _ _ ?_
  cases rv with
  | nil => exact ⟨.bl false, H, I, rfl, q⟩
  | cons r t => exact ⟨.bl true, H, I, by simp [RelV], q⟩
end
end L2.EX
/-! Own rules: equality of plain instances of one class; a plain instance in a list of such. -/
namespace PySem
namespace EXI
open PySem.SeqAt
section
variable {prog : Program} {w : World} {M : Model} {A : Around} {E : Value → Shared → Prop} {s : Shared} {K : PySem.W.Frag} {x y C : Addr} {ox oy : Obj} {od od' : Option Obj}
theorem inst_there (I : PySem.W.InstAt s.heap x ox C od) : s.heap.get? x = some ox := I.at_
theorem inst_not_tuple (I : PySem.W.InstAt s.heap x ox C od) : ox.cls ≠ .type "tuple" := by
  rw [I.cls]
  exact fun z => nomatch z
theorem objEq_self {Q : Value → Shared → Prop} (X : K.In s.heap) (I : PySem.W.InstAt s.heap x ox C od) (hm : PySem.W.mroIn K C (.type "object") = some true) (hq : Q (.bool true) s) :
    wpAny (model prog w) A (call (.builtin "object.__eq__") [.ref x, .ref x]) Q E s :=
  wpAny_call (codeAny_call_builtin F.cmp_object.eq.plain F.cmpEntry_eq (PySem.W.check_slot F.cmpKind_eq F.cmpSplit_eq (I.type.andThen (PySem.W.looks_mroIn X hm)) (F.cmpArgs_eq _ _) (objEq_entry_same hq)))
theorem objEq_other {Q : Value → Shared → Prop} (X : K.In s.heap) (I : PySem.W.InstAt s.heap x ox C od) (hy : s.heap.get? y = some oy) (hxy : x ≠ y) (hm : PySem.W.mroIn K C (.type "object") = some true) (hq : Q .notImplemented s) :
    wpAny (model prog w) A (call (.builtin "object.__eq__") [.ref x, .ref y]) Q E s :=
  wpAny_call (codeAny_call_builtin F.cmp_object.eq.plain F.cmpEntry_eq (PySem.W.check_slot F.cmpKind_eq F.cmpSplit_eq (I.type.andThen (PySem.W.looks_mroIn X hm)) (F.cmpArgs_eq _ _) (objEq_entry_other hxy (inst_there I) hy (inst_not_tuple I) hq)))
theorem ifBound_ne {args : List Value} {Q : Option Value → Shared → Prop} (X : K.In s.heap) (I : PySem.W.InstAt s.heap x ox C od) (hs : PySem.W.findIn K (.ref C) "__ne__" = some (some (.builtin "object.__ne__")))
    (h : wpAny M A (call (.builtin "object.__ne__") (.ref x :: args)) (fun v => Q (some v)) E s) : wpAny M A (callSpecialIfBound? (.ref x) "__ne__" args) Q E s := by
  simp only [callSpecialIfBound?, bindSpecialIfBound?]
  refine wpAny_holding (wpAny_bind (wpAny_bind (wpAny_bind (I.type.here ((PySem.W.looks_findIn X hs).here ?_)))))
  refine wpAny_bind (wpAny_askSetting (wpAny_ite ?_))
  have fin : wpAny M A (call (.builtin "object.__ne__") ([.ref x] ++ args) >>= fun v => pure (some v)) Q E s := wpAny_bind (wpAny_mono h (fun v s' h' => wpAny_pure h') fun _ _ h' => h')
  split
  · exact wpAny_bind (wpAny_of_eq (F.cmp_object.ne.bind _) (wpAny_pure (by exact fin)))
  · exact wpAny_tryCatch (wpAny_bind (wpAny_of_eq (F.cmp_object.ne.bind _) (wpAny_pure (by exact fin))))
structure CmpC (K : PySem.W.Frag) (C : Addr) : Prop where
  hm : PySem.W.mroIn K C (.type "object") = some true
  he : PySem.W.findIn K (.ref C) "__eq__" = some (some (.builtin "object.__eq__"))
  hn : PySem.W.findIn K (.ref C) "__ne__" = some (some (.builtin "object.__ne__"))
theorem objNe_self {Q : Value → Shared → Prop} (hu : A.units + 1 < cLine) (c : CmpC K C) (X : K.In s.heap) (I : PySem.W.InstAt s.heap x ox C od) (hq : Q (.bool false) s) :
    wpAny (model prog w) A (call (.builtin "object.__ne__") [.ref x, .ref x]) Q E s := by
  refine wpAny_call (codeAny_call_builtin F.cmp_object.ne.plain F.cmpEntry_ne (PySem.W.check_slot F.cmpKind_ne F.cmpSplit_ne (I.type.andThen (PySem.W.looks_mroIn X c.hm)) (F.cmpArgs_ne _ _) ?_))
  have hu1 : A.in1.units < cLine := by show A.units + 1 < cLine; exact hu
  unfold Builtin.«object.__ne__»
  repeat (first | with_reducible refine wpAny_cRoomFor hu1 ?_ | with_reducible refine HN.ifBound_objEq X I c.he (objEq_self X I c.hm ?_) | wp_step)
  exact hq
theorem objNe_other {Q : Value → Shared → Prop} (hu : A.units + 1 < cLine) (c : CmpC K C) (X : K.In s.heap) (I : PySem.W.InstAt s.heap x ox C od) (hy : s.heap.get? y = some oy) (hxy : x ≠ y) (hq : Q .notImplemented s) :
    wpAny (model prog w) A (call (.builtin "object.__ne__") [.ref x, .ref y]) Q E s := by
  refine wpAny_call (codeAny_call_builtin F.cmp_object.ne.plain F.cmpEntry_ne (PySem.W.check_slot F.cmpKind_ne F.cmpSplit_ne (I.type.andThen (PySem.W.looks_mroIn X c.hm)) (F.cmpArgs_ne _ _) ?_))
  have hu1 : A.in1.units < cLine := by show A.units + 1 < cLine; exact hu
  unfold Builtin.«object.__ne__»
  repeat (first | with_reducible refine wpAny_cRoomFor hu1 ?_ | with_reducible refine HN.ifBound_objEq X I c.he (objEq_other X I hy hxy c.hm ?_) | wp_step)
  exact hq
theorem rc_self (hu : A.units < cLine) (c : CmpC K C) (X : K.In s.heap) (I : PySem.W.InstAt s.heap x ox C od) : RcAt A s (.ref x) (.ref x) true := fun prog w E Q h => by
  simp only [richCompare, cmpInfo_Eq, oneThing_ref]
  refine wpAny_holding (wpAny_bind (wpAny_cRoomFor hu ?_))
  refine wpAny_bind (I.type.here ?_)
  refine wpAny_bind (I.type.here ?_)
  rw [show (Value.ref C != Value.ref C) = false from by simp]
  simp only [Bool.false_eq_true, if_false]
  refine wpAny_bind (wpAny_pure ?_)
  simp only [Bool.false_eq_true, if_false]
  refine wpAny_bind (m := tryCompare (.ref x) _ (.ref x)) ?_
  unfold tryCompare
  refine wpAny_bind (HN.ifBound_objEq X I c.he (objEq_self X I c.hm (wpAny_pure ?_)))
  exact wpAny_pure h
theorem rc_other (hu : A.units < cLine) (c : CmpC K C) (X : K.In s.heap) (I : PySem.W.InstAt s.heap x ox C od) (J : PySem.W.InstAt s.heap y oy C od') (hxy : x ≠ y) : RcAt A s (.ref x) (.ref y) false := fun prog w E Q h => by
  have one : wpAny (model prog w) A (tryCompare (.ref x) "__eq__" (.ref y)) (fun r s' => r = none ∧ s' = s) E s := by
    unfold tryCompare
    exact wpAny_bind (HN.ifBound_objEq X I c.he (objEq_other X I (inst_there J) hxy c.hm (wpAny_pure ⟨rfl, rfl⟩)))
  have two : wpAny (model prog w) A (tryCompare (.ref y) "__eq__" (.ref x)) (fun r s' => r = none ∧ s' = s) E s := by
    unfold tryCompare
    exact wpAny_bind (HN.ifBound_objEq X J c.he (objEq_other X J (inst_there I) (Ne.symm hxy) c.hm (wpAny_pure ⟨rfl, rfl⟩)))
  simp only [richCompare, cmpInfo_Eq, oneThing_ref]
  refine wpAny_holding (wpAny_bind (wpAny_cRoomFor hu ?_))
  refine wpAny_bind (I.type.here ?_)
  refine wpAny_bind (J.type.here ?_)
  rw [show (Value.ref C != Value.ref C) = false from by simp]
  simp only [Bool.false_eq_true, if_false]
  refine wpAny_bind (wpAny_pure ?_)
  simp only [Bool.false_eq_true, if_false, Bool.not_false, if_true]
  refine wpAny_bind (m := tryCompare (.ref x) _ (.ref y)) (wpAny_mono one (fun r s1 z => ?_) fun _ _ e => e)
  obtain ⟨z1, z2⟩ := z
  subst z1
  subst z2
  refine wpAny_bind (m := tryCompare (.ref y) _ (.ref x)) (wpAny_mono two (fun r s2 z => ?_) fun _ _ e => e)
  obtain ⟨z1, z2⟩ := z
  subst z1
  subst z2
  exact wpAny_bind (wpAny_rule (wpAny_bind (wpAny_isSame_ref_other hxy (inst_there I) (inst_there J) (inst_not_tuple I) (wpAny_pure h))))
theorem rcne_self {Q : Value → Shared → Prop} (hu : A.units + 1 < cLine) (c : CmpC K C) (X : K.In s.heap) (I : PySem.W.InstAt s.heap x ox C od) (h : Q (.bool false) s) : wpAny (model prog w) A (richCompare .NotEq (.ref x) (.ref x)) Q E s := by
  have hu0 : A.units < cLine := Nat.lt_of_succ_lt hu
  simp only [richCompare, cmpInfo_NotEq, oneThing_ref]
  refine wpAny_holding (wpAny_bind (wpAny_cRoomFor hu0 ?_))
  refine wpAny_bind (I.type.here ?_)
  refine wpAny_bind (I.type.here ?_)
  rw [show (Value.ref C != Value.ref C) = false from by simp]
  simp only [Bool.false_eq_true, if_false]
  refine wpAny_bind (wpAny_pure ?_)
  simp only [Bool.false_eq_true, if_false]
  refine wpAny_bind (m := tryCompare (.ref x) _ (.ref x)) ?_
  unfold tryCompare
  refine wpAny_bind (ifBound_ne X I c.hn (objNe_self hu c X I (wpAny_pure ?_)))
  exact wpAny_pure h
theorem rcne_other {Q : Value → Shared → Prop} (hu : A.units + 1 < cLine) (c : CmpC K C) (X : K.In s.heap) (I : PySem.W.InstAt s.heap x ox C od) (J : PySem.W.InstAt s.heap y oy C od') (hxy : x ≠ y) (h : Q (.bool true) s) :
    wpAny (model prog w) A (richCompare .NotEq (.ref x) (.ref y)) Q E s := by
  have hu0 : A.units < cLine := Nat.lt_of_succ_lt hu
  have one : wpAny (model prog w) A (tryCompare (.ref x) "__ne__" (.ref y)) (fun r s' => r = none ∧ s' = s) E s := by
    unfold tryCompare
    exact wpAny_bind (ifBound_ne X I c.hn (objNe_other hu c X I (inst_there J) hxy (wpAny_pure ⟨rfl, rfl⟩)))
  have two : wpAny (model prog w) A (tryCompare (.ref y) "__ne__" (.ref x)) (fun r s' => r = none ∧ s' = s) E s := by
    unfold tryCompare
    exact wpAny_bind (ifBound_ne X J c.hn (objNe_other hu c X J (inst_there I) (Ne.symm hxy) (wpAny_pure ⟨rfl, rfl⟩)))
  simp only [richCompare, cmpInfo_NotEq, oneThing_ref]
  refine wpAny_holding (wpAny_bind (wpAny_cRoomFor hu0 ?_))
  refine wpAny_bind (I.type.here ?_)
  refine wpAny_bind (J.type.here ?_)
  rw [show (Value.ref C != Value.ref C) = false from by simp]
  simp only [Bool.false_eq_true, if_false]
  refine wpAny_bind (wpAny_pure ?_)
  simp only [Bool.false_eq_true, if_false, Bool.not_false, if_true]
  refine wpAny_bind (m := tryCompare (.ref x) _ (.ref y)) (wpAny_mono one (fun r s1 z => ?_) fun _ _ e => e)
  obtain ⟨z1, z2⟩ := z
  subst z1
  subst z2
  refine wpAny_bind (m := tryCompare (.ref y) _ (.ref x)) (wpAny_mono two (fun r s2 z => ?_) fun _ _ e => e)
  obtain ⟨z1, z2⟩ := z
  subst z1
  subst z2
  exact wpAny_bind (wpAny_rule (wpAny_bind (wpAny_isSame_ref_other hxy (inst_there I) (inst_there J) (inst_not_tuple I) (wpAny_pure h))))
theorem eqAt_inst (hu : A.units < cLine) (c : CmpC K C) (X : K.In s.heap) (I : PySem.W.InstAt s.heap x ox C od) (J : PySem.W.InstAt s.heap y oy C od') : EqAt A s (.ref x) (.ref y) (decide (x = y)) := by
  by_cases e : x = y
  · subst e
    rw [decide_eq_true rfl]
    exact EqAt.same _
  · rw [decide_eq_false e]
    exact EqAt.of_refs e (rc_other hu c X I J e)
end
end EXI
end PySem

namespace L2.EX
open PySem PySem.Spec PyProof.Rows
section
variable {X : Cx}
abbrev CmpC := PySem.EXI.CmpC
/-- two plain instances of one class -/
def rInst (K : PySem.W.Frag) (g : Bool → Bool) : R2 := fun x y H Q => ∃ a b C dx fs dx' fs', x = .ref a ∧ y = .ref b ∧ H a = some (.ins C dx fs) ∧ H b = some (.ins C dx' fs') ∧ CmpC K C ∧ Q (.bl (g (decide (a = b)))) H
theorem op_eqInst (hu : X.A.units + 64 < cLine) : OpR X (compareOp .Eq) (rInst X.K id) := by
  intro pins s σ H x y v u Q I rx ry h
  obtain ⟨a, b, C, dx, fs, dx', fs', rfl, rfl, ha, hb, c, q⟩ := h
  cases rx
  cases ry
  obtain ⟨mA, O, _⟩ := ins_get I.hok ha
  obtain ⟨od, J, _⟩ := O.look
  obtain ⟨mA', O', _⟩ := ins_get I.hok hb
  obtain ⟨od', J', _⟩ := O'.look
  have hu0 : X.A.units < cLine := by omega
  by_cases e : a = b
  · subst e
    rw [decide_eq_true rfl] at q
    exact PySem.EXI.rc_self hu0 c I.kIn J _ _ _ _ ⟨.bl true, H, I, rfl, q⟩
  · rw [decide_eq_false e] at q
    exact PySem.EXI.rc_other hu0 c I.kIn J J' e _ _ _ _ ⟨.bl false, H, I, rfl, q⟩
theorem op_neInst (hu : X.A.units + 64 < cLine) : OpR X (compareOp .NotEq) (rInst X.K not) := by
  intro pins s σ H x y v u Q I rx ry h
  obtain ⟨a, b, C, dx, fs, dx', fs', rfl, rfl, ha, hb, c, q⟩ := h
  cases rx
  cases ry
  obtain ⟨mA, O, _⟩ := ins_get I.hok ha
  obtain ⟨od, J, _⟩ := O.look
  obtain ⟨mA', O', _⟩ := ins_get I.hok hb
  obtain ⟨od', J', _⟩ := O'.look
  have hu0 : X.A.units + 1 < cLine := by omega
  by_cases e : a = b
  · subst e
    rw [decide_eq_true rfl] at q
    exact PySem.EXI.rcne_self hu0 c I.kIn J ⟨.bl false, H, I, rfl, q⟩
  · rw [decide_eq_false e] at q
    exact PySem.EXI.rcne_other hu0 c I.kIn J J' e ⟨.bl true, H, I, rfl, q⟩
/-- a plain instance among plain instances of its class -/
def InsAt (H : Hp) (C a : Addr) : Prop := ∃ dx fs, H a = some (.ins C dx fs)
def rInInst (K : PySem.W.Frag) (neg : Bool) : R2 := fun x y H Q => ∃ (a p C : Addr) (as : List Addr), x = .ref a ∧ y = .ref p ∧ SqL K H p (as.map V.ref) ∧ InsAt H C a ∧ (∀ b ∈ as, InsAt H C b) ∧ CmpC K C ∧ Q (.bl (if neg = true then !decide (a ∈ as) else decide (a ∈ as))) H
theorem refs_of_map : ∀ {as : List Addr} {us : List Value}, Vals (as.map V.ref) us → us = as.map Value.ref
  | [], _, .nil => rfl
  | a :: as, _, .cons r t => by
    cases r
    rw [refs_of_map t]
    rfl
def eqRef (a : Addr) : Value → Bool := fun u => match u with
  | .ref b => decide (b = a)
  | _ => false
theorem any_eqRef (a : Addr) (as : List Addr) : (as.map Value.ref).any (eqRef a) = decide (a ∈ as) := by
  induction as with
  | nil => simp
  | cons b as ih =>
    rw [List.map_cons, List.any_cons, ih]
    show (decide (b = a) || decide (a ∈ as)) = _
    by_cases e : b = a
    · subst e; simp
    · simp [e, Ne.symm e]
theorem mem_inst {pins : List (Addr × Obj)} {σ : L2.St} {H : Hp} {s : Shared} {C a : Addr} {as : List Addr} (hu : X.A.in1.units < cLine) (I : Inv X pins σ H s) (c : CmpC X.K C) (ha : InsAt H C a) (hb : ∀ b ∈ as, InsAt H C b) :
    ∀ u, u ∈ (as.map Value.ref).toArray → SeqAt.EqAt X.A.in1 s u (.ref a) (eqRef a u) := fun u hm => by
  have hm' : u ∈ as.map Value.ref := by simpa using hm
  obtain ⟨b, hb1, rfl⟩ := List.mem_map.mp hm'
  obtain ⟨dx, fs, e1⟩ := ha
  obtain ⟨dx', fs', e2⟩ := hb b hb1
  obtain ⟨mA, O, _⟩ := ins_get I.hok e1
  obtain ⟨od, J, _⟩ := O.look
  obtain ⟨mA', O', _⟩ := ins_get I.hok e2
  obtain ⟨od', J', _⟩ := O'.look
  exact PySem.EXI.eqAt_inst hu c I.kIn J' J
theorem op_notInInst (hu : X.A.units + 64 < cLine) : OpR X (compareOp .NotIn) (rInInst X.K true) := by
  intro pins s σ H x y v u Q I rx ry h
  obtain ⟨a, p, C, as, rfl, rfl, hl, ha, hb, c, q⟩ := h
  cases rx
  cases ry
  obtain ⟨its, rv, pl, hz⟩ := I.list hl
  have e := refs_of_map rv
  subst e
  have hu1 : X.A.in1.units < cLine := by show X.A.units + 1 < cLine; omega
  refine SeqAt.notIn_listAt (eqRef a) pl.isList (mem_inst hu1 I c ha hb) ⟨.bl _, H, I, rfl, ?_⟩
  rw [show (as.map Value.ref).toArray.any (eqRef a) = (as.map Value.ref).any (eqRef a) by simp, any_eqRef]
  exact q
end
end L2.EX
/-! Own rule: for i, x in enumerate(t), t a tuple. -/
namespace PySem
open Sem (wp)
open AutoSeq1 (wpAny_loadPart')
namespace EXI
theorem meets_enumerate_newT (l : Addr) (items : Array Value) :
    Meets (Builtin.«enumerate.__new__» ⟨[.type "enumerate", .ref l], []⟩) (fun _ R s => s.heap.IsTuple l items ∧
      R (.ok (.ret (.ref (s.heap.push { cls := .type "tuple_iterator", data := .fields #[.ref l, .int 0 0] }).objs.size)))
        { s with heap := (s.heap.push { cls := .type "tuple_iterator", data := .fields #[.ref l, .int 0 0] }).push { cls := .type "enumerate", data := .fields #[.none, .bool false, .ref s.heap.objs.size, rawInt 0, .none, .none] } }) :=
  .of_wp fun prog w A R s h => by
    obtain ⟨hp, g, d, tk, os⟩ := s
    obtain ⟨hl, h⟩ := h
    have hsub := sub_enumerate
    have q1 : ∀ {A' : Around} {E : Value → Shared → Prop} {Q : Value → Shared → Prop}, Q (.ref hp.objs.size) ⟨hp.push { cls := .type "tuple_iterator", data := .fields #[.ref l, .int 0 0] }, g, d, tk, os⟩ → wpAny (model prog w) A' (pyIter (.ref l)) Q E ⟨hp, g, d, tk, os⟩ :=
      fun q => wpAny_pyIter_tuple hl q
    wp_walk using q1
    refine wpAny_stack_any fun st => wpAny_pure ?_
    split
    · rename_i c _ _ _ _ _
      cases (c == Value.type "enumerate")
      · wp_walk using q1
        exact ⟨_, rfl, h⟩
      · wp_walk using q1
        exact ⟨_, rfl, h⟩
    · wp_walk using q1
      exact ⟨_, rfl, h⟩
theorem call_enumerate_tuple {prog : Program} {w : World} {A : Around} {E : Value → Shared → Prop} {s : Shared} {l : Addr} {items : Array Value} {Q : Value → Shared → Prop} (hL : s.heap.IsTuple l items)
    (h : ∀ h', IsEnum h' (s.heap.objs.size + 1) s.heap.objs.size 0 .none → h'.IsTupleIter s.heap.objs.size l 0 → h'.objs.size = s.heap.objs.size + 2 →
      (∀ b o, s.heap.get? b = some o → h'.get? b = some o) → Q (.ref (s.heap.objs.size + 1)) { s with heap := h' }) :
    wpAny (model prog w) A (call (.type "enumerate") [.ref l]) Q E s := by
  refine callType_new F.called_enumerate (by decide) (F.typeCall_enumerate_1 _) (F.newCall_enumerate_1 _) (fun obj => F.args_object_init_2 obj _) F.entry_enumerate_new
    (meets_enumerate_newT l items) ⟨hL, ?_⟩
  have hz : (s.heap.push { cls := .type "tuple_iterator", data := .fields #[.ref l, .int 0 0] }).objs.size = s.heap.objs.size + 1 := Heap.size_push ..
  show _ ∧ _
  rw [hz]
  have he : IsEnum ((s.heap.push { cls := .type "tuple_iterator", data := .fields #[.ref l, .int 0 0] }).push
      { cls := .type "enumerate", data := .fields #[.none, .bool false, .ref s.heap.objs.size, rawInt 0, .none, .none] }) (s.heap.objs.size + 1) s.heap.objs.size 0 .none := by
    have := Heap.get?_push_size (s.heap.push { cls := .type "tuple_iterator", data := .fields #[.ref l, .int 0 0] })
      (o := { cls := .type "enumerate", data := .fields #[.none, .bool false, .ref s.heap.objs.size, rawInt 0, .none, .none] }) rfl
    rw [hz] at this; exact this
  refine ⟨⟨_, he, rfl⟩, h _ he ⟨_, Heap.get?_push_of_some _ (Heap.get?_push_size _ rfl), rfl, rfl⟩ (by rw [Heap.size_push, hz]) fun b o x => Heap.get?_push_of_some _ (Heap.get?_push_of_some _ x)⟩
theorem tup_ne_iter {h : Heap} {a it : Addr} {items : Array Value} {i : Nat} (t : h.IsTuple a items) (k : h.IsTupleIter it a i) : a ≠ it := by
  rintro rfl
  obtain ⟨o, h1, h2, _⟩ := t
  obtain ⟨o', h3, h4, _⟩ := k
  rw [h1] at h3
  cases h3
  rw [h2] at h4
  exact absurd h4 (by decide +kernel)
end EXI
end PySem

namespace L2.EX
open PySem PySem.Spec PyProof.Rows
def IteT (K : PySem.W.Frag) (a : Addr) : It :=
  ⟨fun i H => ∃ (xs : List V) (x : V), SqT K H a xs ∧ xs[i]? = some x, fun i H v H' => ∃ T x, v = .ref T ∧ H T = none ∧ H' = upd H T (.tup [.int (i : Nat), x]) ∧ ∀ xs, SqT K H a xs → xs[i]? = some x, fun i H => ∃ xs : List V, SqT K H a xs ∧ xs.length ≤ i⟩
theorem turn_enumT {P : Program} {w : World} {K : PySem.W.Frag} {elts : List Expr} {kk : Nat} {tpos : Pos} (a e it : Addr) :
    Turn P w K (.Tuple elts kk tpos) (IteT K a) [e, it] e (fun i h => (∃ old, IsEnum h e it ((i : Nat) : Int) old) ∧ h.IsTupleIter it a i ∧ e ≠ it) where
  mem := by simp
  obj := fun i h st b hb => by
    obtain ⟨⟨old, he⟩, ⟨o, ho, hc, hd⟩, _⟩ := st
    have e' : b = e ∨ b = it := by simpa using hb
    rcases e' with z | z
    · rw [z]; exact ⟨_, he, fun v q => nomatch q⟩
    · rw [z]; exact ⟨o, ho, fun v q => by rw [hd] at q; cases q⟩
  keep := fun i h h' st k => let ⟨⟨old, he⟩, hi, hne⟩ := st; ⟨⟨old, k e (by simp) _ he⟩, hi.at fun o q => k it (by simp) o q, hne⟩
  item := by
    intro X hP hw hK hc i pins s σ H E I hf st hg
    subst hP hw hK
    obtain ⟨⟨old, he⟩, hit, hne⟩ := st
    obtain ⟨xs, x, hq, hx⟩ := hg
    obtain ⟨its, rv, p, hz⟩ := I.tuple hq
    obtain ⟨u, hu, ru⟩ := rv.get hx
    have hel : e < s.heap.objs.size := Heap.lt_size he
    have hil : it < s.heap.objs.size := by obtain ⟨_, q, _⟩ := hit; exact Heap.lt_size q
    have hia : a ≠ it := PySem.EXI.tup_ne_iter p hit
    have hea : e ≠ a := by
      rintro rfl
      obtain ⟨o, h1, h2, _⟩ := p
      have h3 : s.heap.get? e = some _ := he
      rw [h1] at h3
      cases h3
      exact absurd h2 (by show ¬ (Value.type "enumerate" = Value.type "tuple"); decide +kernel)
    have hlt : i < its.toArray.size := by
      have := (List.getElem?_eq_some_iff.mp hu).1
      simpa using this
    refine wpAny_pyNext_enum_itemD (Draws.tuple (A := X.A.in1) (I.ok.hd hc) it a hia its.toArray) he ⟨hit, p⟩ hlt hne (by simp [hne, hea]) fun z h' tk hP ho hit' hT hsz hk => ?_
    obtain ⟨hit', _⟩ := hit'
    have ez : z = u := by
      have h1 : its.toArray[i]? = some z := hP
      rw [List.getElem?_toArray, hu] at h1
      exact (Option.some.inj h1).symm
    subst ez
    refine ⟨_, rfl, wpAny_letOwnedTupleGo_enum (s := { s with heap := h', toks := tk + 1 }) ho fun h'' he' sb => ?_⟩
    have hT2 : h''.get? s.heap.objs.size = some { cls := .type "tuple", data := .seq #[.int i tk, z] } := (sb.2 _ (Nat.ne_of_gt hel)).trans hT
    have new : ObjOk X.prog X.w (upd H s.heap.objs.size (.tup [.int (i : Nat), x])) h'' s.heap.objs.size (.tup [.int (i : Nat), x]) :=
      ⟨by show 2 ≤ sizeLine; decide, [.int i tk, z], .cons ⟨_, rfl⟩ (.cons ru .nil), ⟨_, hT2, rfl, _, rfl⟩⟩
    have I1 : Inv X pins σ (upd H s.heap.objs.size (.tup [.int (i : Nat), x])) { s with heap := h'', toks := tk + 1 } :=
      I.turnedNew (ch := [e, it]) (fun b ob hb q => (sb.2 b (fun z => hb (by simp [z]))).trans (hk b ob (fun z => hb (by simp [z])) (fun z => hb (by simp [z])) q)) hf (Nat.le_refl _) new
    refine ⟨.ref s.heap.objs.size, _, I1, rfl, ⟨_, x, rfl, I.hok.fresh (Nat.le_refl _), rfl, fun ys hy => by rw [I.tuple_inj hy hq]; exact hx⟩, ⟨⟨z, ?_⟩, hit'.at fun o q => (sb.2 it (Ne.symm hne)).trans q, hne⟩, fun b hb => ?_⟩
    · have e1 : ((i + 1 : Nat) : Int) = (i : Int) + 1 := by omega
      rw [e1]; exact he'
    · have hb' : b < s.heap.objs.size := by
        have e' : b = e ∨ b = it := by simpa using hb
        rcases e' with z | z
        · rw [z]; exact hel
        · rw [z]; exact hil
      rw [upd_ne (Nat.ne_of_lt hb')]
      exact (hf b hb).1
  done := by
    intro X hP hw hK hc i pins s σ H E I hf st hg
    subst hP hw hK
    obtain ⟨⟨old, he⟩, hit, hne⟩ := st
    obtain ⟨xs, hq, hx⟩ := hg
    obtain ⟨its, rv, p, hz⟩ := I.tuple hq
    obtain ⟨f0, f1, f2, f3, f4, f5⟩ := hf it (by simp)
    have hl := rv.length
    have hia : a ≠ it := PySem.EXI.tup_ne_iter p hit
    have hT : s.TypeIs (.ref e) "enumerate" := ⟨_, he, rfl⟩
    unfold pyNext
    refine wpAny_bind (wpAny_attempt (wpAny_callSpecial?_slot (name := Str.ofString "__next__") hT PySem.F.slot_enumerate_next
      (wpAny_call_entry PySem.F.slot_enumerate_next hT PySem.F.entry_enumerate_next ?_ (PySem.F.args_enumerate_next_1 _))))
    show wpAny _ _ (field (.ref e) 2 >>= _) _ _ _
    refine wpAny_bind (wpAny_field he rfl (x := .ref it) rfl ?_)
    refine wpAny_bind (wpAny_nextOf_tuple_end (I.ok.hd hc) hit p (by simp; omega) fun h' x he' hx' => ?_)
    obtain ⟨o, ho, hc'⟩ := hx'
    refine wpAny_bind (wpAny_isInstance (T := "StopIteration") (b := true) ⟨o, ho, hc'⟩ isSubtype_stop ?_)
    exact wpAny_pure ⟨rfl, I.turned (t' := s.toks) (fun b o hb q => he' b o hb q) f0 f1 f3 f4 f5⟩
  self := fun A i s Q E st h => let ⟨⟨_, he⟩, _⟩ := st; wpAny_pyIter_enum he h
def iEnumT (K : PySem.W.Frag) (ta : TA) : TI := fun σ H R => ta σ H fun vs H1 => ∃ a xs, vs = [.ref a] ∧ SqT K H1 a xs ∧ R (IteT K a) H1
theorem pi_enumT {X : Cx} {e : Expr} {ta : TA} {p pos tpos : Pos} {elts : List Expr} {kk : Nat} (hg : Gl X "enumerate") (hm : X.mg "enumerate" = none) (ha : PA X [e] ta) (hs : starEach [e] X.env = [(false, eval e X.env)] := by rfl) :
    PI X (.Tuple elts kk tpos) (.Call (.Name "enumerate" p) [e] [] pos) (iEnumT X.K ta) := by
  refine ⟨fun pins s σ H R I h => ?_⟩
  refine Call_ (ld_blt I hg hm boot_enumerate (PyProof.Rows.callWith_type1 (thn (ha.run pos pins s σ H _ I h) fun us s1 ⟨vs, H1, I1, r1, q1⟩ => ?_) hs rfl))
  obtain ⟨a, xs, ex, hq, q⟩ := q1
  subst ex
  cases r1 with
  | cons r rr =>
    cases rr
    cases r
    obtain ⟨its, rv, p', hz⟩ := I1.tuple hq
    refine PySem.EXI.call_enumerate_tuple p' fun h' he hit hsz hk => wpAny_pyIter_enum he ?_
    have I2 : Inv X pins σ H1 { s1 with heap := h' } := I1.kept (t' := s1.toks) hk
    refine ⟨s1.heap.objs.size + 1, [s1.heap.objs.size + 1, s1.heap.objs.size], _, _, H1, rfl, I2, turn_enumT a (s1.heap.objs.size + 1) s1.heap.objs.size, ⟨⟨.none, he⟩, hit, Nat.succ_ne_self _⟩, fun b hb => ?_, q⟩
    have e' : b = s1.heap.objs.size + 1 ∨ b = s1.heap.objs.size := by simpa using hb
    have hle : s1.heap.objs.size ≤ b := by
      rcases e' with z | z
      · rw [z]; exact Nat.le_add_right _ _
      · rw [z]; exact Nat.le_refl _
    exact I1.fpOk hle (I1.hok.fresh hle)
/-- over enumerate(t), the tuple stands still: W at each turn; the pair is a new tuple -/
theorem for_enumT {K : PySem.W.Frag} {a : Addr} {xs : List V} {g : TG} {tb : TS} {D : Ends} {σ : L2.St} {H : Hp} (Pv : Nat → L2.St → Hp → Prop) (h0 : Pv 0 σ H) (hl : ∀ i σ H, i ≤ xs.length → Pv i σ H → SqT K H a xs)
    (hs : ∀ i x σ H T, xs[i]? = some x → Pv i σ H → H T = none → g (.ref T) σ (upd H T (.tup [.int (i : Nat), x])) fun σ2 H2 => tb { D with nx := Pv (i + 1), ct := Pv (i + 1), bk := D.nx } σ2 H2) (hd : ∀ σ H, Pv xs.length σ H → D.nx σ H) :
    ∃ W : Nat → Nat → L2.St → Hp → Prop, (∃ m, W 0 m σ H) ∧ ∀ i m σ H, W i m σ H →
      ((IteT K a).stop i H ∧ D.nx σ H) ∨ ((IteT K a).go i H ∧ ∃ N : L2.St → Hp → Prop, (∀ σ' H', N σ' H' → ∃ m', m' < m ∧ W (i + 1) m' σ' H') ∧ ∀ x H', (IteT K a).yld i H x H' → g x σ H' fun σ2 H2 => tb { D with nx := N, ct := N, bk := D.nx } σ2 H2) := by
  refine ⟨fun i m σ H => m = xs.length - i ∧ i ≤ xs.length ∧ Pv i σ H, ⟨xs.length, by simp, Nat.zero_le _, h0⟩, ?_⟩
  rintro i m σ H ⟨rfl, hi, p⟩
  have q := hl i σ H hi p
  by_cases hlt : i < xs.length
  · refine .inr ⟨⟨xs, xs[i], q, by simp [hlt]⟩, Pv (i + 1), fun σ' H' p' => ⟨xs.length - (i + 1), by omega, rfl, hlt, p'⟩, fun x H' y => ?_⟩
    obtain ⟨T, z, rfl, hT, rfl, y⟩ := y
    exact hs i z σ H T (y xs q) p hT
  · have e : i = xs.length := by omega
    subst e
    exact .inl ⟨⟨xs, q, Nat.le_refl _⟩, hd σ H p⟩
end L2.EX
/-! Own rules: defs that say super() (their cell __class__ in the written part); their bodies are read at their own code. -/
namespace L2.EX
open PySem PySem.Spec PyProof.Rows NdefX
/-! ### statements and expressions at the code of a running def -/
structure PSA (X : Cx) (c : Code) (st : Stmt) (t : TS) : Prop where
  run : ∀ (pins : List (Addr × Obj)) (s : Shared) (σ : L2.St) (H : Hp) (D : Ends), Inv X pins σ H s → t D σ H → PySem.wpAt (model X.prog X.w) X.A c (exec st X.env) (SP X pins D) X.xe s
structure PSsA (X : Cx) (c : Code) (st : List Stmt) (t : TS) : Prop where
  run : ∀ (pins : List (Addr × Obj)) (s : Shared) (σ : L2.St) (H : Hp) (D : Ends), Inv X pins σ H s → t D σ H → PySem.wpAt (model X.prog X.w) X.A c (execs st X.env) (SP X pins D) X.xe s
structure PEA (X : Cx) (c : Code) (e : Expr) (t : TE) : Prop where
  run : ∀ (pins : List (Addr × Obj)) (s : Shared) (σ : L2.St) (H : Hp) (Q : VK), Inv X pins σ H s → t σ H Q → PySem.wpAt (model X.prog X.w) X.A c (eval e X.env) (EP X pins σ Q) X.xe s
section
variable {X : Cx} {c : Code}
theorem psa_of {st : Stmt} {t : TS} (h : PS X st t) : PSA X c st t := ⟨fun pins s σ H D I q => wpAt_of_wpAny (h.run pins s σ H D I q)⟩
theorem pssa_of {st : List Stmt} {t : TS} (h : PSs X st t) : PSsA X c st t := ⟨fun pins s σ H D I q => wpAt_of_wpAny (h.run pins s σ H D I q)⟩
theorem thnA {α : Type} {t : Sem α} {Q Q' : α → Shared → Prop} {M : Model} {A : Around} {E : Value → Shared → Prop} {s : Shared} (h : PySem.wpAt M A c t Q E s) (hQ : ∀ a s, Q a s → Q' a s) : PySem.wpAt M A c t Q' E s := ks_wpAt_mono h hQ fun _ _ x => x
theorem pssa_nil : PSsA X c [] tNext := pssa_of pss_nil
theorem pssa_cons {st : Stmt} {rest : List Stmt} {t u : TS} (h1 : PSA X c st t) (h2 : PSsA X c rest u) : PSsA X c (st :: rest) (tSeq t u) := by
  refine ⟨fun pins s σ H D I h => ?_⟩
  refine ks_wpAt_execs_cons (thnA (h1.run pins s σ H { D with nx := u D } I h) fun f s1 q => ?_)
  cases f with
  | next =>
    obtain ⟨σ', H', I', q⟩ := q
    exact h2.run pins s1 σ' H' D I' q
  | ret v => exact q
  | brk => exact q
  | cont => exact q
theorem psa_if {e : Expr} {a b : List Stmt} {pos : Pos} {tc : TT} {t u : TS} (hc : PT X e tc) (ha : PSsA X c a t) (hb : PSsA X c b u) : PSA X c (.If e a b pos) (tIfS tc t u) := by
  refine ⟨fun pins s σ H D I h => ?_⟩
  refine ks_wpAt_If (wpAt_of_wpAny (thn (hc.run pins s σ H _ I h) fun d s1 ⟨H1, I1, q1⟩ => ?_))
  cases d with
  | true => exact ha.run pins s1 σ H1 D I1 q1
  | false => exact hb.run pins s1 σ H1 D I1 q1
theorem psa_ret {e : Expr} {pos : Pos} {te : TE} (he : PEA X c e te) : PSA X c (.Return (some e) pos) (tRet te) := by
  refine ⟨fun pins s σ H D I h => ?_⟩
  exact ks_wpAt_Return_some (thnA (he.run pins s σ H _ I h) fun v s1 ⟨x, H1, I1, r1, q1⟩ => ⟨x, σ, H1, I1, r1, q1⟩)
theorem psa_expr {e : Expr} {pos : Pos} {te : TE} (he : PEA X c e te) (hi : interactive X.env = false := by rfl) (hs : swapsWith e none pos.line X.env = pure false := by rfl) : PSA X c (.Expr e pos) (tDrop te) := by
  refine ⟨fun pins s σ H D I h => ?_⟩
  exact ks_wpAt_Expr_any (thnA (he.run pins s σ H _ I h) fun v s1 ⟨x, H1, I1, r1, q1⟩ => ⟨σ, H1, I1, q1⟩) hi hs
end
/-! ### super().m(e, ..) -/
/-- what the text must have: the code's own facts -/
structure SupAt (X : Cx) (D : Addr) (sn : Str) : Prop where
  ks : X.env.kindOf "super" = some .globalImplicit
  kc : X.env.kindOf "__class__" = some .free
  fn : ∃ (f : Addr) (oc : Value) (od : Option Addr) (osl : Array (Option Value)) (fd : FuncData) (ar : Arg), X.env.func = some f ∧ X.K.lookup f = some ⟨oc, od, .func fd, osl⟩ ∧ (fd.params.posonlyargs ++ fd.params.args).head? = some ar ∧ ar.arg = sn
  code : ∃ (cda : Addr) (ccl : Value) (cdd : Option Addr) (vs : Array Value) (ccs : Array (Option Value)) (file : Str) (tf : Tok), X.env.code = .ref cda ∧ X.K.lookup cda = some ⟨ccl, cdd, .fields vs, ccs⟩ ∧ vs[2]? = some (.str file tf) ∧ ((X.prog.main.file : Str) == file) = true
  top : (X.prog.main.scope.names.lookup ("super" : Str)).isSome = false
  cell : ∃ (cc : Addr) (cl : Value) (cld : Option Addr) (csl : Array (Option Value)), X.env.cells.lookup ("__class__" : Str) = some cc ∧ X.K.lookup cc = some ⟨cl, cld, .cell (some (.ref D)), csl⟩
  mg : X.mg "super" = none
  any : PySem.W.nsIn X.K cStatics "thirdparty.any" = some none
  cls : (PySem.W.clsIn X.K D).isSome = true
/-- a method above D, seen from C -/
structure SupM (K : PySem.W.Frag) (C D : Addr) (m : Str) (f2 : Addr) : Prop where
  sub : PySem.W.mroIn K C (.ref D) = some true
  at_ : PySem.W.ks_superIn K C D m = some (some (.ref f2))
  ty : PySem.W.typeIn K (.ref f2) = some (.type "function")
  fi : PySem.W.fnIn K f2 = true
  nm : (m == ("__class__" : Str)) = false
theorem super_run {X : Cx} {body : List Stmt} {i : Nat} {a C D dx f2 : Addr} {fs : List (Str × V)} {m sn : Str} {args : List Expr} {p0 p1 apos pos : Pos} {pins : List (Addr × Obj)} {s : Shared} {σ : L2.St} {H : Hp} {Q : Value → Shared → Prop}
    (S : SupAt X D sn) (hN : X.N[i]? = some sn) (hv : X.env.scope.names.lookup sn = some .local) (M : SupM X.K C D m f2) (I : Inv X pins σ H s) (e1 : σ[i]? = some (some (.ref a))) (hA : H a = some (.ins C dx fs))
    (hev : eval (.Call (.Attribute (.Call (.Name "super" p0) [] [] p1) m apos) args [] pos) X.env = (do
      let ov ← attributeBase (.Call (.Name "super" p0) [] [] p1) m X.env (eval (.Call (.Name "super" p0) [] [] p1) X.env)
      standAt apos.atName
      let (f, first) ← holding [ov] (getMethod ov m (pure false))
      callWith pos f first (backTo pos (starEach args X.env)) []))
    (h : ∀ q s', H q = none → Inv X pins σ (upd H q (.met f2 a)) s' → wpAny (model X.prog X.w) X.A (callWith pos (.ref q) [] (backTo pos (starEach args X.env)) []) Q X.xe s') :
    PySem.wpAt (model X.prog X.w) X.A (.func body X.env) (eval (.Call (.Attribute (.Call (.Name "super" p0) [] [] p1) m apos) args [] pos) X.env) Q X.xe s := by
  obtain ⟨f, oc, od, osl, fd0, ar, hf, lf, har, har2⟩ := S.fn
  obtain ⟨cda, ccl, cdd, vs0, ccs, file, tf, hco, lco, hvs, hfile⟩ := S.code
  obtain ⟨cc, cl, cld, csl, hcc, lcc⟩ := S.cell
  obtain ⟨cdD, hcD⟩ := Option.isSome_iff_exists.mp S.cls
  obtain ⟨mL, hn, hl⟩ := id I.loc
  obtain ⟨u, ru, lu⟩ := hl i sn (.ref a) hN e1 (.inl hv)
  obtain rfl : u = Value.ref a := ru
  have hm : mL sn = some (.ref a) := by
    rcases lu with ⟨_, z⟩ | ⟨z, _⟩
    · exact z
    · exfalso
      rcases z with z | z
      · have z' : X.env.scope.names.lookup sn = some .cell := z
        rw [hv] at z'; cases z'
      · have z' : X.env.scope.names.lookup sn = some .free := z
        rw [hv] at z'; cases z'
  obtain ⟨mA, O, _⟩ := ins_get I.hok hA
  obtain ⟨oo, J, _⟩ := O.look
  have KX := I.kIn
  obtain ⟨oD, hD1, hD2⟩ : ∃ oD, s.heap.get? D = some oD ∧ oD.data = .cls cdD := by
    unfold PySem.W.clsIn at hcD
    split at hcD
    · rename_i c d cd' sl ho
      cases hcD
      exact ⟨_, KX _ _ ho, rfl⟩
    · cases hcD
  refine ks_wpAt_MethodCall (pl := pure false) ?_ hev
  refine ks_wpAt_super_base S.ks S.kc M.nm hf (KX _ _ lf) rfl har hco (KX _ _ lco) rfl hvs hfile S.top ?_
  have hloadS : ∀ {Q' : Value → Shared → Prop}, Q' (.type "super") s → wpAny (model X.prog X.w) X.A (loadName X.env "super") Q' X.xe s := fun {Q'} hq => by
    refine PySem.W.ks_loadName_global I.ok.kind S.ks ?_
    obtain ⟨mb, h1, h2⟩ := I.mod.blt
    exact Calls.loadGlobal_builtin (by rw [I.ok.glob]; exact I.mod.glob.keeps I.bk) S.mg (by rw [I.ok.blt]; exact h1.keeps I.bk) ((h2 "super" (by decide)).trans (by decide +kernel)) hq
  refine hloadS ⟨rfl, ?_⟩
  refine wpAny_loadName_free I.ok.kind S.kc hcc ⟨_, KX _ _ lcc, rfl⟩ ?_
  rw [har2]
  refine wpAny_loadName_local I.ok.kind hv hn hm ?_
  obtain ⟨hp, g, d, tk, os⟩ := s
  refine PySem.ks_wpAny_isType_cls hD1 hD2 ⟨rfl, ?_⟩
  have hno : ∀ c, (PySem.W.instObj C dx).data ≠ .cls c := fun c z => by cases z
  refine PySem.ks_wpAny_call_super hD1 hD2 J.at_ J.cls hno (PySem.W.looks_mroIn KX M.sub) (fun h' e k => ?_)
  have I1 : Inv X pins σ H ⟨h', g, d, tk, os⟩ := I.kept (t' := tk) k
  have KX1 := I1.kIn
  have J1 := ins_get I1.hok hA
  obtain ⟨mA1, O1, _⟩ := J1
  obtain ⟨oo1, J1, _⟩ := O1.look
  cases hc : PySem.W.clsIn X.K C with
  | none =>
    have := M.at_
    unfold PySem.W.ks_superIn at this
    rw [hc] at this
    cases this
  | some cd =>
    have hat := M.at_
    unfold PySem.W.ks_superIn at hat
    rw [hc] at hat
    obtain ⟨of, hof, hofc⟩ : ∃ of, h'.get? f2 = some of ∧ of.cls = .type "function" := by
      have ht' : (X.K.lookup f2).map (·.cls) = some (.type "function") := M.ty
      cases z : X.K.lookup f2 with
      | none => rw [z] at ht'; cases ht'
      | some of => rw [z] at ht'; exact ⟨of, KX1 _ _ z, Option.some.inj ht'⟩
    refine PySem.ks_wpAny_getMethod_super e (PySem.W.looks_opaque KX1 S.any) (l₀ := cd.mro) ?_ rfl KX1 hat hof hofc (PySem.W.ks_ne KX1 J1 hc) M.nm ?_
    · exact fun A Q E s k q => wpAny_bind ((PySem.W.looks_clsIn KX1 hc) A _ E s k (wpAny_pure q))
    · have hq0 : H h'.objs.size = none := I1.hok.fresh (Nat.le_refl _)
      have I2 : Inv X pins σ (upd H h'.objs.size (.met f2 a)) ⟨h'.push { cls := .type "method", data := .fields #[.ref f2, .ref a] }, g, d, tk + 1, os⟩ :=
        I1.laid (t' := tk + 1) (fun b u z => Heap.get?_push_of_some _ z) (Nat.le_refl _)
          (show (h'.push (PySem.W.methodObj (.ref f2) (.ref a))).get? h'.objs.size = some (PySem.W.methodObj (.ref f2) (.ref a)) from Heap.get?_push_size h' rfl)
      exact h _ _ hq0 I2
theorem super_call {X : Cx} {f2 a q : Addr} {k : Nat} {fd : FuncData} {ps : List Str} {sp : Sp} {dvs : List V} {ds : List Value} {pins : List (Addr × Obj)} {s3 : Shared} {σ : L2.St} {H3 : Hp} {Q : VK} {us : List Value} {vs : List V}
    (F : FnOk X.prog X.w X.K X.mg X.base CX0 k f2 fd ps sp) (hr : Room k X.A) (hb : Binds X.K fd ps ds) (hd : Vals dvs ds) (I3 : Inv X pins σ H3 s3) (hm3 : H3 q = some (.met f2 a)) (rv : Vals vs us) (q3 : sp (.ref a :: (vs ++ dvs)) H3 Q E0) :
    wpAny (model X.prog X.w) X.A (call (.ref q) us) (EP X pins σ Q) X.xe s3 := by
  have r2 : Vals (V.ref a :: (vs ++ dvs)) (Value.ref a :: (us ++ ds)) := .cons rfl (rv.append hd)
  have hl2 : ((Value.ref a :: us) ++ ds).length = ps.length := by
    have z := r2.length
    rw [F.len _ _ _ _ q3] at z
    exact z.symm
  refine wpAny_call (call_met I3 hm3 (codeAny_mono (F.run X.A X.stack s3 H3 ⟨Value.ref a :: us, []⟩ (Value.ref a :: (us ++ ds)) _ Q E0 hr I3.env0 (hb s3 (Value.ref a :: us) I3.kIn hl2) r2 q3) fun r s' hq => ?_))
  cases r with
  | error e => exact hq.elim
  | ok fl =>
    cases fl with
    | ret u => exact I3.after hq
    | next => exact False.elim hq
    | brk => exact False.elim hq
    | cont => exact False.elim hq
def tSuper (i : Nat) (C f2 : Addr) (sp : Sp) (dvs : List V) (t : TA) : TE := fun σ H Q => ∃ a dx fs, σ[i]? = some (some (.ref a)) ∧ H a = some (.ins C dx fs) ∧ ∀ q, H q = none → t σ (upd H q (.met f2 a)) fun vs H2 => H2 q = some (.met f2 a) ∧ sp (.ref a :: (vs ++ dvs)) H2 Q E0
theorem pea_super {X : Cx} {body : List Stmt} {i : Nat} {C D f2 : Addr} {m sn : Str} {k : Nat} {fd : FuncData} {ps : List Str} {sp : Sp} {dvs : List V} {ds : List Value} {e : Expr} {es : List Expr} {t : TA} {p0 p1 apos pos : Pos}
    (S : SupAt X D sn) (hN : X.N[i]? = some sn) (hv : X.env.scope.names.lookup sn = some .local) (M : SupM X.K C D m f2)
    (F : FnOk X.prog X.w X.K X.mg X.base CX0 k f2 fd ps sp) (hr : Room k X.A) (hb : Binds X.K fd ps ds) (hd : Vals dvs ds) (ha : PA X (e :: es) t)
    (he : starEach (e :: es) X.env = (false, eval e X.env) :: starEach es X.env := by rfl) (hpl : (backTo pos (starEach es X.env)).any (·.1) = false := by rfl)
    (hev : eval (.Call (.Attribute (.Call (.Name "super" p0) [] [] p1) m apos) (e :: es) [] pos) X.env = (do
      let ov ← attributeBase (.Call (.Name "super" p0) [] [] p1) m X.env (eval (.Call (.Name "super" p0) [] [] p1) X.env)
      standAt apos.atName
      let (f, first) ← holding [ov] (getMethod ov m (pure false))
      callWith pos f first (backTo pos (starEach (e :: es) X.env)) []) := by rfl) :
    PEA X (.func body X.env) (.Call (.Attribute (.Call (.Name "super" p0) [] [] p1) m apos) (e :: es) [] pos) (tSuper i C f2 sp dvs t) := by
  refine ⟨fun pins s σ H Q I h => ?_⟩
  obtain ⟨a, dx, fs, e1, hA, h⟩ := h
  refine super_run S hN hv M I e1 hA hev fun q s2 hq0 I2 => ?_
  have run := ha.run pos pins _ σ _ _ I2 (h q hq0)
  rw [he] at run ⊢
  refine callwith_met (g := f2) (a := a) (by show ((false || (backTo pos (starEach es X.env)).any (·.1)) || false) = false; rw [hpl]; rfl) M.fi ?_
  refine PySem.Calls.evalArgs_plain (thn run fun us s3 ⟨vs, H3, I3, rv, hm3, q3⟩ => ?_)
  exact ⟨met_P I3 hm3, super_call F hr hb hd I3 hm3 rv q3⟩
def tSuper0 (i : Nat) (C f2 : Addr) (sp : Sp) (dvs : List V) : TE := fun σ H Q => ∃ a dx fs, σ[i]? = some (some (.ref a)) ∧ H a = some (.ins C dx fs) ∧ ∀ q, H q = none → sp (.ref a :: dvs) (upd H q (.met f2 a)) Q E0
theorem pea_super0 {X : Cx} {body : List Stmt} {i : Nat} {C D f2 : Addr} {m sn : Str} {k : Nat} {fd : FuncData} {ps : List Str} {sp : Sp} {dvs : List V} {ds : List Value} {p0 p1 apos pos : Pos}
    (S : SupAt X D sn) (hN : X.N[i]? = some sn) (hv : X.env.scope.names.lookup sn = some .local) (M : SupM X.K C D m f2)
    (F : FnOk X.prog X.w X.K X.mg X.base CX0 k f2 fd ps sp) (hr : Room k X.A) (hb : Binds X.K fd ps ds) (hd : Vals dvs ds)
    (hev : eval (.Call (.Attribute (.Call (.Name "super" p0) [] [] p1) m apos) [] [] pos) X.env = (do
      let ov ← attributeBase (.Call (.Name "super" p0) [] [] p1) m X.env (eval (.Call (.Name "super" p0) [] [] p1) X.env)
      standAt apos.atName
      let (f, first) ← holding [ov] (getMethod ov m (pure false))
      callWith pos f first (backTo pos (starEach [] X.env)) []) := by rfl) :
    PEA X (.func body X.env) (.Call (.Attribute (.Call (.Name "super" p0) [] [] p1) m apos) [] [] pos) (tSuper0 i C f2 sp dvs) := by
  refine ⟨fun pins s σ H Q I h => ?_⟩
  obtain ⟨a, dx, fs, e1, hA, h⟩ := h
  refine super_run S hN hv M I e1 hA hev fun q s2 hq0 I2 => ?_
  refine callwith_met (args := []) (g := f2) (a := a) rfl M.fi ?_
  refine evalArgs_nil3 ?_
  exact ⟨met_P I2 upd_same, super_call (us := []) (vs := []) F hr hb hd I2 upd_same .nil (h q hq0)⟩
/-! ### such a def keeps its promise -/
/-- a def that captured the cell of its class -/
structure SFun (P : Program) (K : PySem.W.Frag) (x qual : Str) (params : Arguments) (body : List Stmt) (scope : Scope) (D : Addr) (dvs : List V) (kws : List (Str × V)) (f : Addr) (fd : FuncData) (G : NF) : Prop where
  ex : ∃ (oc : Value) (od : Option Addr) (osl : Array (Option Value)) (dV kV doc pm ct : Value) (an : Option Addr) (cda cc : Addr) (ccl : Value) (cdd : Option Addr) (ccs : Array (Option Value)) (vs : Array Value) (file : Str) (tf : Tok) (cl : Value) (cld : Option Addr) (csl : Array (Option Value)),
    fd = PySem.W.fnX x qual params body scope [("__class__", cc)] dV kV doc pm an (.ref cda) ct ∧ K.lookup f = some ⟨oc, od, .func fd, osl⟩ ∧ PySem.W.codeIn K (.ref cda) qual = true ∧
    K.lookup cda = some ⟨ccl, cdd, .fields vs, ccs⟩ ∧ vs[2]? = some (.str file tf) ∧ ((P.main.file : Str) == file) = true ∧ K.lookup cc = some ⟨cl, cld, .cell (some (.ref D)), csl⟩ ∧ DflV K dV dvs ∧ KwdV K kV kws ∧ G = ⟨x, qual, params, body, scope, [("__class__", cc)], cda⟩
  kp : PySem.W.keepIn K (.ref f) = true
theorem SFun.ok {P : Program} {w : World} {K : PySem.W.Frag} {mg : Str → Option Value} {base : Heap} {x qual : Str} {params : Arguments} {body : List Stmt} {scope : Scope} {D : Addr} {dvs : List V} {kws : List (Str × V)} {f : Addr} {fd : FuncData} {G : NF} {N ps : List Str} {k : Nat} {sp : Sp} {sn : Str}
    (F : SFun P K x qual params body scope D dvs kws f fd G) (S : NScope N ps ["__class__"] scope) (ks : scope.names.lookup ("super" : Str) = some .globalImplicit) (har : ((params.posonlyargs ++ params.args).head?.map (·.arg)) = some sn)
    (top : (P.main.scope.names.lookup ("super" : Str)).isSome = false) (hmg : mg "super" = none) (any : PySem.W.nsIn K cStatics "thirdparty.any" = some none) (cls : (PySem.W.clsIn K D).isSome = true) (len : ∀ vs H Q E, sp vs H Q E → vs.length = ps.length)
    (hbody : ∀ (A : Around) (outer : List Env) (s : Shared) (H : Hp) (vs : List V) (Q : VK) (E : XK), Room k (A.deeper (envF G f s.heap.objs.size)) → sp vs H Q E → SupAt (ncx CX0 P w K mg base N G f A outer s H E).nox D sn →
      ∃ t, PSsA (ncx CX0 P w K mg base N G f A outer s H E).nox (.func body (envF G f s.heap.objs.size)) body t ∧ t { nx := fun _ H' => Q .non H', rt := Q } (startF N vs [none]) H) :
    FnOk P w K mg base CX0 (k + 1) f fd ps sp := by
  obtain ⟨oc, od, osl, dV, kV, doc, pm, ct, an, cda, cc, ccl, cdd, ccs, vs0, file, tf, cl, cld, csl, efd, lf, hcd, lcd, hvs, hfile, lcc, _, _, eG⟩ := F.ex
  subst efd eG
  refine ⟨len, fun A outer s H args us vs Q E hr e0 hb r hsp => ?_⟩
  have hl := len _ _ _ _ hsp
  have KX : K.In s.heap := e0.mod.kin.keeps fun b o e => (e0.bs b o e).1
  have lim : s.heap.NoLimit := e0.mod.nolimit.keeps fun b o e => (e0.bs b o e).1
  have frees : (scope.names.lookup ("__class__" : Str)) = some .free := S.frk _ (List.mem_cons_self ..)
  have SA : SupAt (ncx CX0 P w K mg base N ⟨x, qual, params, body, scope, [("__class__", cc)], cda⟩ f A outer s H E).nox D sn := by
    refine ⟨ks, frees, ?_, ⟨cda, ccl, cdd, vs0, ccs, file, tf, rfl, lcd, hvs, hfile⟩, top, ⟨cc, cl, cld, csl, rfl, lcc⟩, hmg, any, cls⟩
    cases e : (params.posonlyargs ++ params.args).head? with
    | none => rw [e] at har; cases har
    | some ar =>
      rw [e] at har
      exact ⟨f, oc, od, osl, _, ar, rfl, lf, e, Option.some.inj har⟩
  have hcellB : H cc = none ∧ ∃ v, s.heap.IsCell cc v := by
    have z := e0.mod.kin _ _ lcc
    have z2 := e0.bs _ _ z
    exact ⟨z2.2, _, _, z2.1, rfl⟩
  have C : CellsAt [("__class__", cc)] ["__class__"] [none] s.heap H := by
    refine ⟨rfl, fun y c e => ?_, fun y z c e1 e2 => ?_, fun i y e => ?_⟩
    · have e' : y = "__class__" ∧ c = cc := by
        simp only [List.lookup] at e
        split at e
        · rename_i q
          exact ⟨eq_of_beq q, (Option.some.inj e).symm⟩
        · cases e
      rw [e'.2]
      exact hcellB
    · have g : ∀ t : Str, List.lookup t [(("__class__" : Str), cc)] = some c → t = "__class__" := fun t e => by
        simp only [List.lookup] at e
        split at e
        · rename_i q
          exact eq_of_beq q
        · cases e
      rw [g y e1, g z e2]
    · cases i with
      | zero =>
        have e' : ("__class__" : Str) = y := Option.some.inj e
        subst e'
        exact ⟨cc, rfl, fun v q => by cases q⟩
      | succ j => cases e
  refine PySem.ks_codeAny_call_defAt (fd := PySem.W.fnX x qual params body scope [("__class__", cc)] dV kV doc pm an (.ref cda) ct) (body := body) (binds := ps.zip us) hr.depth (KX _ _ lf) rfl lim (PySem.W.codeRec_of KX hcd) rfl hb S.nocell (fun ⟨n, _⟩ hy => S.par n (List.of_mem_zip hy).1) (fun h₁ hns kp => ?_) S.co S.gen S.kind
  have ndP : ps.Nodup := by
    have q := S.nd.sublist (List.take_sublist (ps.length + 1) N)
    have e : N.take (ps.length + 1) = ps ++ [("__class__" : Str)] := S.pre
    rw [e] at q
    exact (List.nodup_append.mp q).1
  obtain ⟨t, ht, hq⟩ := hbody A outer s H vs Q E (hr.deeper _) hsp SA
  have I : Inv (ncx CX0 P w K mg base N ⟨x, qual, params, body, scope, [("__class__", cc)], cda⟩ f A outer s H E) [] (startF N vs [none]) H { s with heap := h₁, toks := s.toks + (ps.zip us).length } :=
    inv_startN (F := ⟨x, qual, params, body, scope, [("__class__", cc)], cda⟩) S hr.hd e0 hl r C hns kp
  refine ks_wpAt_mono (ht.run [] _ (startF N vs [none]) H _ (I.wish _) hq) (fun fl s' hs => ?_) fun e s' hs => hs.elim
  have fin : ∀ {σ' : L2.St} {H' : Hp} {v : V} {u : Value}, Inv (ncx CX0 P w K mg base N ⟨x, qual, params, body, scope, [("__class__", cc)], cda⟩ f A outer s H E).nox [] σ' H' s' → L2.RelV v u → Q v H' → CE outer P w H s Q u s' :=
    fun {σ' H' v u} J rv q => ⟨v, H', J.os, J.bare, J.base, J.hok, rv, q⟩
  cases fl with
  | ret u =>
    obtain ⟨v, σ', H', J, rv, q⟩ := hs
    exact fin J rv q
  | next =>
    obtain ⟨σ', H', J, q⟩ := hs
    exact fin (v := V.non) (u := Value.none) J rfl q
  | brk =>
    obtain ⟨_, _, _, q⟩ := hs
    exact False.elim q
  | cont =>
    obtain ⟨_, _, _, q⟩ := hs
    exact False.elim q
end L2.EX
namespace L2.EX
open PySem PySem.Spec PyProof.Rows
/-! Own rules: targets that are attributes, a choice of readings, tuples kept through calls, the code whose guards are known (repr of nested data), get of a written dict. -/
section
variable {X : Cx} {pos : Pos}
/-- o.f = v as a target among others -/
def gFld (K : PySem.W.Frag) (ta : TE) (f : Str) : TG := fun v σ H Q => ta σ H fun x H1 => ∃ a C dx fs, x = .ref a ∧ H1 a = some (.ins C dx fs) ∧ Cls K C ∧ NoAttr K C f ∧ fs.length < 1000 ∧ Q σ (upd H1 a (.ins C dx (putF f v fs)))
theorem pg_fld {o : Expr} {f : Str} {ta : TE} (ha : PE X o ta) : PG X (.Attribute o f pos) (gFld X.K ta f) := by
  refine ⟨fun pins s σ H v u Q I r h => ?_⟩
  rw [assign_Attribute]
  refine wpAny_bind (wpAny_holding (thn (ha.run pins s σ H _ I h) fun ov s1 ⟨x, H1, I1, rx, a, C, dx, fs, ex, ea, c, n, l, q⟩ => ?_))
  subst ex
  obtain rfl : ov = Value.ref a := rx
  refine wpAny_bind (wpAny_standAt (wpAny_bind (wpAny_holding ?_)))
  exact setattr_ok I1 ea c n l r fun s3 I3 => wpAny_release ⟨σ, _, I3, q⟩
/-- one of two readings -/
theorem pe_alt {e : Expr} {t1 t2 : TE} (h1 : PE X e t1) (h2 : PE X e t2) : PE X e (fun σ H Q => t1 σ H Q ∨ t2 σ H Q) := ⟨fun pins s σ H Q I h => h.elim (h1.run pins s σ H Q I) (h2.run pins s σ H Q I)⟩
end
/-! ### tuples are kept through a call -/
def TP (H H' : Hp) : Prop := ∀ p xs, H p = some (.tup xs) → H' p = some (.tup xs)
theorem TP.refl {H : Hp} : TP H H := fun _ _ h => h
theorem TP.trans {H1 H2 H3 : Hp} (a : TP H1 H2) (b : TP H2 H3) : TP H1 H3 := fun p xs h => b p xs (a p xs h)
theorem TP.new {H : Hp} {p : Addr} {o : HO} (h : H p = none) : TP H (upd H p o) := fun q xs e => by rw [upd_ne (ne_of_none e h)]; exact e
theorem TP.upd {H : Hp} {p : Addr} {o u : HO} (h : H p = some u) (d : ∀ xs, u ≠ .tup xs) : TP H (upd H p o) := fun q xs e => by rw [upd_ne (ne_of e h (d xs).symm)]; exact e
def free (sp : Sp) : Sp := fun vs H Q E => sp vs H (fun v H' => TP H H' → Q v H') E
theorem FnOk.free {P : Program} {w : World} {K : PySem.W.Frag} {mg : Str → Option Value} {base : Heap} {k : Nat} {f : Addr} {fd : FuncData} {ps : List Str} {sp : Sp} (F : FnOk P w K mg base C8.CX0 k f fd ps sp) :
    FnOk P w K mg base C8.CX0 k f fd ps (EX.free sp) := by
  refine ⟨fun vs H Q E h => F.len vs H _ E h, fun A outer s H args us vs Q E hr he hb hv hs => ?_⟩
  refine codeAny_mono (F.run A outer s H args us vs _ E hr he hb hv hs) fun r s' h => ?_
  cases r with
  | error e => exact h
  | ok fl =>
    cases fl with
    | ret u =>
      obtain ⟨v, H', os, bare, un, hok, rv, q⟩ := h
      exact ⟨v, H', os, bare, un, hok, rv, q un.tups⟩
    | next => exact h
    | brk => exact h
    | cont => exact h
/-! ### code whose guards are known: nothing is being shown -/
structure FnG (P : Program) (w : World) (K : PySem.W.Frag) (mg : Str → Option Value) (base : Heap) (CX : CXT) (k : Nat) (f : Addr) (fd : FuncData) (ps : List Str) (sp : Sp) : Prop where
  len : ∀ vs H Q E, sp vs H Q E → vs.length = ps.length
  run : ∀ (A : Around) (outer : List Env) (s : Shared) (H : Hp) (args : Args) (us : List Value) (vs : List V) (Q : VK) (E : XK), A.guards = some [] → Room k A → Env0 P w K mg base A outer s H → BindsTo s fd args (ps.zip us) → Vals vs us → sp vs H Q E →
    codeAny (model P w) A (.call (.ref f) args) (CR CX outer P w H s Q E) s
section
variable {X : Cx} {CX : CXT} {k : Nat} {f C : Addr} {fd : FuncData} {ps : List Str} {sp : Sp} {dvs : List V} {ds : List Value} {E : XK} {x m : Str} {p pos apos : Pos} {e o : Expr} {es : List Expr} {ta : TE} {t : TA}
theorem run_fnG {pins : List (Addr × Obj)} {σ : L2.St} {H : Hp} {s : Shared} {Q : VK} {us : List Value} {vs : List V} (hG : X.A.guards = some []) (F : FnG X.prog X.w X.K X.mg X.base CX k f fd ps sp) (hr : Room k X.A) (hb : Binds X.K fd ps ds) (hd : Vals dvs ds) (hx : Passes CX X E)
    (I : Inv X pins σ H s) (r : Vals vs us) (h : sp (vs ++ dvs) H Q E) : wpAny (model X.prog X.w) X.A (call (.ref f) us) (EP X pins σ Q) X.xe s := by
  have r2 : Vals (vs ++ dvs) (us ++ ds) := r.append hd
  have hl : (us ++ ds).length = ps.length := by rw [← r2.length]; exact F.len _ _ _ _ h
  refine wpAny_call (codeAny_mono (F.run X.A X.stack s H ⟨us, []⟩ (us ++ ds) (vs ++ dvs) Q E hG hr I.env0 (hb s us I.kIn hl) r2 h) fun r s' hq => ?_)
  cases r with
  | error e => exact hx pins σ H s e s' I hq
  | ok fl =>
    cases fl with
    | ret u => exact I.after hq
    | next => exact False.elim hq
    | brk => exact False.elim hq
    | cont => exact False.elim hq
theorem pe_callG (hG : X.A.guards = some []) (F : FnG X.prog X.w X.K X.mg X.base CX k f fd ps sp) (hr : Room k X.A) (hg : Gl X x) (hm : X.mg x = some (.ref f)) (hk : PySem.W.keepIn X.K (.ref f) = true) (hb : Binds X.K fd ps ds) (hd : Vals dvs ds) (hx : Passes CX X E)
    (ha : PA X (e :: es) t) (hdb : (x == ("__debug__" : Str)) = false := by decide) (he : starEach (e :: es) X.env = (false, eval e X.env) :: starEach es X.env := by rfl) (hpl : (backTo pos (starEach es X.env)).any (·.1) = false := by rfl) :
    PE X (.Call (.Name x p) (e :: es) [] pos) (tCall sp dvs E t) := by
  refine ⟨fun pins s σ H Q I h => ?_⟩
  refine wpAny_Call_Name_kw (ld_glob I hg hm ?_ hdb)
  refine PySem.W.callWith_K (h₀ := X.base) I.ok.mod.kin hk (thn (ha.run pos pins s σ H _ I h) fun us s1 ⟨vs, H1, I1, r, q⟩ => ⟨I1.kIn, ?_⟩) he hpl
  exact run_fnG hG F hr hb hd hx I1 r q
end
/-- such a def by its body -/
theorem fn_ofG {CX : CXT} {P : Program} {w : World} {K : PySem.W.Frag} {mg : Str → Option Value} {base : Heap} {k : Nat} {f : Addr} {name qual : Str} {params : Arguments} {body : List Stmt} {scope : Scope} {dV kV doc pm cdv ct oc : Value} {an od : Option Addr}
    {osl : Array (Option Value)} {N ps : List Str} {sp : Sp} (lk : K.lookup f = some ⟨oc, od, .func (PySem.W.fnOf name qual params body scope dV kV doc pm an cdv ct), osl⟩) (hcd : PySem.W.codeIn K cdv qual = true) (S : FnScope N ps scope)
    (len : ∀ vs H Q E, sp vs H Q E → vs.length = ps.length)
    (hbody : ∀ (A : Around) (outer : List Env) (s : Shared) (H : Hp) (vs : List V) (Q : VK) (E : XK), A.guards = some [] → Room k (A.deeper (envOfC qual scope s.heap.objs.size f cdv)) → sp vs H Q E →
      ∃ t, PSs (cxOf CX P w K mg base N qual scope f cdv A outer s H E) body t ∧ t { nx := fun _ H' => Q .non H', rt := Q } (start N vs) H) :
    FnG P w K mg base CX (k + 1) f (PySem.W.fnOf name qual params body scope dV kV doc pm an cdv ct) ps sp := by
  refine ⟨len, fun A outer s H args us vs Q E hG hr e0 hb r hsp => ?_⟩
  have hl := len _ _ _ _ hsp
  have KX : K.In s.heap := e0.mod.kin.keeps fun b o e => (e0.bs b o e).1
  have lim : s.heap.NoLimit := e0.mod.nolimit.keeps fun b o e => (e0.bs b o e).1
  have hkind : ∀ y ∈ ps.zip us, scope.names.lookup y.1 = some .local ∨ (scope.names.lookup y.1 = some .cell ∧ ((cellsFrom (s.heap.objs.size + 1) scope.names []).lookup y.1).isSome = true) := fun ⟨n, v⟩ hy => by
    rcases S.par n (List.of_mem_zip hy).1 with q | q
    · exact .inl q
    · exact .inr ⟨q, PySem.W.cellsFrom_some _ _ _ (.inl q)⟩
  refine codeAny_call_function hr.depth (KX _ _ lk) rfl S.co S.gen rfl (PySem.W.codeRec_of KX hcd) (hb _ _ _ _ ?_)
  refine wpAny_newFunctionEnv_cells S.kind hkind fun env he s1 x => ?_
  subst he
  refine ⟨lim.keeps x.toInCall.keep, codeAny_func ?_⟩
  obtain ⟨t, ht, hq⟩ := hbody A outer s H vs Q E hG (hr.deeper _) hsp
  have I : Inv (cxOf CX P w K mg base N qual scope f cdv A outer s H E) [] (start N vs) H s1 := inv_start S hr.hd e0 hl r x
  refine wpAny_mono (ht.run [] s1 (start N vs) H _ I hq) (fun fl s' hs => ?_) fun e s' hs => hs
  have fin : ∀ {σ' : L2.St} {H' : Hp} {v : V} {u : Value}, Inv (cxOf CX P w K mg base N qual scope f cdv A outer s H E) [] σ' H' s' → RelV v u → Q v H' → CE outer P w H s Q u s' :=
    fun {σ' H' v u} J rv q => ⟨v, H', J.os, J.bare, J.base, J.hok, rv, q⟩
  cases fl with
  | ret u =>
    obtain ⟨v, σ', H', J, rv, q⟩ := hs
    exact fin J rv q
  | next =>
    obtain ⟨σ', H', J, q⟩ := hs
    exact fin (v := V.non) (u := Value.none) J rfl q
  | brk =>
    obtain ⟨_, _, _, q⟩ := hs
    exact False.elim q
  | cont =>
    obtain ⟨_, _, _, q⟩ := hs
    exact False.elim q
/-! ### repr -/
def rRepr (K : PySem.W.Frag) : List V → Hp → VK → Prop := fun xs H Q => ∃ a d, xs = [.ref a] ∧ Dp K H (.ref a) d ∧ d.showable = true ∧ d.hasDict = false ∧ d.depth ≤ 20 ∧ d.shown.length ≤ sizeLine ∧ Q (.str d.shown) H
theorem call_repr {X : Cx} (hG : X.A.guards = some []) (hu : X.A.units + 64 < cLine) : CallR X (.builtin "repr") (rRepr X.K) := by
  rintro pins s σ H xs us Q I r ⟨a, d, rfl, hd, h1, h2, h3, h4, q⟩
  obtain ⟨u, rfl, ru⟩ := vals1 r
  obtain rfl : u = Value.ref a := ru
  obtain ⟨as, rd⟩ := Dp.reads I d (.ref a) (.ref a) hd rfl
  exact repr_of_reads' rd h1 (fun z => by rw [h2] at z; cases z) hG (by omega) (fun _ _ e => e) (fun h' u tk hk => ⟨.str d.shown, H, I.kept hk, ⟨u, rfl⟩, q⟩) h4
/-! ### get of a written dict -/
def tKGet (K : PySem.W.Frag) (d : Addr) (td ty : TE) : TE := fun σ H Q => td σ H fun x H1 => x = .ref d ∧ ty σ H1 fun y H2 => ∃ (z : Str) (r : Option Value) (v : V), y = .str z ∧ PySem.W.nsIn K d z = some r ∧ RelV v (r.getD .none) ∧ Q v H2
theorem pe_kget {X : Cx} {d : Addr} {es : Array DictEntry} {n : Nat} {o e : Expr} {apos cpos : Pos} {td ty : TE} (D : KDict X.K X.w d es n) (ho : PE X o td) (he : PE X e ty) (m : M1 X o "get" apos e cpos) : PE X (.Call (.Attribute o "get" apos) [e] [] cpos) (tKGet X.K d td ty) := by
  refine ⟨fun pins s σ H Q I h => ?_⟩
  refine wpAny_Call_method m.base m.few m.line PySem.F.plainAttrs_dict PySem.F.slot_dict_get PySem.F.type_dict_get (thn (ho.run pins s σ H _ I h) fun u s1 ⟨x, H1, I1, rx, ex, q1⟩ => ?_)
  subst ex
  obtain rfl : u = Value.ref d := rx
  refine ⟨kd_type D I1, fun b q => ?_, ?_⟩
  · cases q
    exact ⟨_, I1.kIn _ _ D.at_, rfl⟩
  rw [m.trees]
  refine Calls.callWith_builtin rfl (Calls.evalArgs_plain (Calls.spliced_cons (thn (he.run pins s1 σ H1 _ I1 q1) fun iv s2 ⟨y, H2, I2, ry, z, r, v, ey, er, rv, q2⟩ => Calls.spliced_nil ?_)))
  subst ey
  obtain ⟨t, rfl⟩ := ry
  have mo := PySem.W.mapOf_K (prog := X.prog) (w := X.w) I2.kIn D.at_ D.lit
  refine call_meetsIn PySem.F.slot_dict_get mo.typeIs PySem.F.entry_dict_get (PySem.F.args_dict_get_2 _ _) (meets_dict_get (strKind X.prog X.w) d (strKind_is X.prog X.w z t) D.low) ⟨_, mo, ?_⟩
  rw [PySem.W.find_K D.at_ er]
  exact ⟨v, H2, I2.tok _, rv, q2⟩
end L2.EX
namespace L2.EX
open PySem PySem.Spec PyProof.Rows
/-! What the head tells, by names; wrappers of the call rules. -/
theorem RD.raw {K : Frg} {d : RD} (e : fnZ K (d.at_ K) = d.val) (c : d.ok K = true) : PySem.W.keepIn K (.ref (d.at_ K)) = true ∧
    ∃ (oc : Value) (od : Option Addr) (dV kV doc pm cdv ct : Value) (an : Option Addr) (osl : Array (Option Value)) (cl : List (Str × Addr)), cl.map (·.1) = d.cl ∧
      K.lookup (d.at_ K) = some ⟨oc, od, .func (PySem.W.fnX d.name d.qual d.params d.body d.scope cl dV kV doc pm an cdv ct), osl⟩ ∧ PySem.W.codeIn K cdv d.qual = true ∧ DflV K dV (d.dvs K) ∧ KwdV K kV (d.kws K) := by
  obtain ⟨kp, c2⟩ := He.ba c
  refine ⟨kp, ?_⟩
  unfold fnZ at e
  cases q : K.lookup (d.at_ K) with
  | none =>
    rw [q] at c2
    cases c2
  | some o =>
    obtain ⟨oc, od, dt, osl⟩ := o
    rw [q] at c2 e
    cases dt with
    | func fd =>
      obtain ⟨n1, n2, n3, n4, n5, n6, n7, n8, n9, n10, n11, n12, n13, n14, n15⟩ := fd
      have e2 : (some (n1, n2, n3, n4, n5, n6, n7.map (·.1), n15) : FnZ) = some (d.name, d.qual, d.params, .stmts d.body, d.scope, mainGlobals, d.cl, builtinsNs) := e
      simp only [Option.some.injEq, Prod.mk.injEq] at e2
      obtain ⟨h1, h2, h3, h4, h5, h6, h7, h8⟩ := e2
      subst h1 h2 h3 h4 h5 h6 h8
      have c3 : (PySem.W.codeIn K n13 d.qual && (He.dflB K n8 (d.dvs K) && He.kwdB K n9 (d.kws K))) = true := c2
      obtain ⟨k1, k2⟩ := He.ba c3
      obtain ⟨k3, k4⟩ := He.ba k2
      exact ⟨oc, od, n8, n9, n10, n11, n13, n14, n12, osl, n7, h7, rfl, k1, He.dflB_ok k3, He.kwdB_ok k4⟩
    | _ => cases c2
theorem RD.funD {K : Frg} {d : RD} (e : fnZ K (d.at_ K) = d.val) (c : d.ok K = true) (h : d.cl = [] := by rfl) : ∃ fd, FunD K d.name d.qual d.params d.body d.scope (d.dvs K) (d.kws K) (d.at_ K) fd := by
  obtain ⟨kp, oc, od, dV, kV, doc, pm, cdv, ct, an, osl, cl, hc, lk, hcd, h1, h2⟩ := RD.raw e c
  rw [h] at hc
  have hcl : cl = [] := List.map_eq_nil_iff.mp hc
  subst hcl
  exact ⟨_, ⟨oc, od, dV, kV, doc, pm, an, cdv, ct, osl, rfl, lk, hcd, h1, h2⟩, kp⟩
theorem RD.sfun {P : Program} {K : Frg} {d : RD} {D : Addr} (e : fnZ K (d.at_ K) = d.val) (c : d.ok K = true) (s : supB K (d.at_ K) D P.main.file = true) (h : d.cl = [("__class__" : Str)] := by rfl) :
    ∃ fd G, SFun P K d.name d.qual d.params d.body d.scope D (d.dvs K) (d.kws K) (d.at_ K) fd G ∧ G.name = d.name ∧ G.qual = d.qual ∧ G.params = d.params ∧ G.body = d.body ∧ G.scope = d.scope := by
  obtain ⟨kp, oc, od, dV, kV, doc, pm, cdv, ct, an, osl, cl, hc, lk, hcd, h1, h2⟩ := RD.raw e c
  rw [h] at hc
  obtain ⟨x, cc, rfl, rfl⟩ : ∃ x cc, cl = [(x, cc)] ∧ x = ("__class__" : Str) := by
    match cl, hc with
    | [(x, cc)], hc =>
      have : [x] = [("__class__" : Str)] := hc
      injection this with e1 _
      exact ⟨x, cc, rfl, e1⟩
  unfold supB at s
  rw [lk] at s
  have s' : (match cdv with
    | .ref cda => (match K.lookup cc, K.lookup cda with
      | some ⟨_, _, .cell (some (.ref E)), _⟩, some ⟨_, _, .fields vs, _⟩ => decide (E = D) && (match vs[2]? with
        | some (Value.str f _) => P.main.file == f
        | _ => false)
      | _, _ => false)
    | _ => false) = true := by
    cases cdv <;> exact s
  cases cdv with
  | ref cda =>
    have s2 : (match K.lookup cc, K.lookup cda with
      | some ⟨_, _, .cell (some (.ref E)), _⟩, some ⟨_, _, .fields vs, _⟩ => decide (E = D) && (match vs[2]? with
        | some (Value.str f _) => P.main.file == f
        | _ => false)
      | _, _ => false) = true := s'
    cases q1 : K.lookup cc with
    | none => rw [q1] at s2; cases s2
    | some o1 =>
      cases q2 : K.lookup cda with
      | none => rw [q1, q2] at s2; obtain ⟨_, _, d1, _⟩ := o1; cases d1 <;> (try rename_i v; cases v <;> (try rename_i v; cases v)) <;> cases s2
      | some o2 =>
        rw [q1, q2] at s2
        obtain ⟨c1, dd1, d1, sl1⟩ := o1
        obtain ⟨c2, dd2, d2, sl2⟩ := o2
        cases d1 with
        | cell v =>
          cases v with
          | none => cases s2
          | some v =>
            cases v with
            | ref E =>
              cases d2 with
              | fields vs =>
                have s3 : (decide (E = D) && (match vs[2]? with
                  | some (Value.str f _) => P.main.file == f
                  | _ => false)) = true := s2
                obtain ⟨k1, k2⟩ := He.ba s3
                have k1 := of_decide_eq_true k1
                subst k1
                cases q3 : vs[2]? with
                | none => rw [q3] at k2; cases k2
                | some z =>
                  rw [q3] at k2
                  cases z with
                  | str f tf => exact ⟨_, _, ⟨⟨oc, od, osl, dV, kV, doc, pm, ct, an, cda, cc, c2, dd2, sl2, vs, f, tf, c1, dd1, sl1, rfl, lk, hcd, q2, q3, k2, q1, h1, h2, rfl⟩, kp⟩, rfl, rfl, rfl, rfl, rfl⟩
                  | _ => cases k2
              | _ => cases s2
            | _ => cases s2
        | _ => cases s2
  | _ => cases s'
/-! ### the Hook -/
section
variable {fa : List He.Fa} {fb : List (Frg → Bool)} {fn : List RD} {ts : List He.Tab} {w : World} {K : Frg}
theorem SaysZ.b (c : SaysZ fa fb fn ts w K) : (fa.all fun f => f.ok K) = true ∧ (fb.all fun f => f K) = true ∧ (fn.all fun d => d.ok K) = true := by
  have c1 := He.ba (show ((fa.all fun f => f.ok K) && ((fb.all fun f => f K) && fn.all fun d => d.ok K)) = true from congrArg (fun z : AlZ => z.1) c)
  have c2 := He.ba c1.2
  exact ⟨c1.1, c2.1, c2.2⟩
theorem SaysZ.fact (c : SaysZ fa fb fn ts w K) (i : Nat) {f : He.Fa} (h : fa[i]? = some f := by rfl) : f.ok K = true := List.all_eq_true.mp c.b.1 f (List.mem_of_getElem? h)
theorem SaysZ.more (c : SaysZ fa fb fn ts w K) (i : Nat) {f : Frg → Bool} (h : fb[i]? = some f := by rfl) : f K = true := List.all_eq_true.mp c.b.2.1 f (List.mem_of_getElem? h)
theorem SaysZ.df (c : SaysZ fa fb fn ts w K) (i : Nat) {d : RD} (h : fn[i]? = some d := by rfl) : fnZ K (d.at_ K) = d.val ∧ d.ok K = true := by
  have e : fn.map (fun d => fnZ K (d.at_ K)) = fn.map RD.val := congrArg (fun z : AlZ => z.2.1) c
  have e2 : (fn.map fun d => fnZ K (d.at_ K))[i]? = (fn.map RD.val)[i]? := by rw [e]
  rw [List.getElem?_map, List.getElem?_map, h] at e2
  exact ⟨Option.some.inj e2, List.all_eq_true.mp c.b.2.2 d (List.mem_of_getElem? h)⟩
theorem SaysZ.tab (c : SaysZ fa fb fn ts w K) (i : Nat) {t : He.Tab} (h : ts[i]? = some t := by rfl) : ∃ es n, KDict K w (t.1 K) es n := by
  have e : ts.map (fun t => He.dicW K (t.1 K)) = ts.map fun t => some (He.keysIn w.params t.2) := congrArg (fun z : AlZ => z.2.2) c
  have e2 : (ts.map fun t => He.dicW K (t.1 K))[i]? = (ts.map fun t => some (He.keysIn w.params t.2))[i]? := by rw [e]
  rw [List.getElem?_map, List.getElem?_map, h] at e2
  exact He.dicW_ok (Option.some.inj e2)
end
/-! ### properties, comparisons by K -/
theorem propB_ok {K : Frg} {C : Addr} {f : Str} (h : propB K C f = true) : PropOf K C f (He.ma K C f) (pgA K C f) := by
  obtain ⟨h1, h2⟩ := He.ba h
  obtain ⟨h3, h4⟩ := He.ba h2
  obtain ⟨h5, h6⟩ := He.ba h4
  refine ⟨He.eqO_ok h1, He.eqO_ok h3, of_decide_eq_true h5, ?_⟩
  unfold pgA
  split at h6
  · rename_i g rest q
    rw [q]
    exact ⟨rest, rfl⟩
  · cases h6
theorem cmpB_ok {K : Frg} {C : Addr} (h : cmpB K C = true) : CmpC K C := by
  obtain ⟨h1, h2⟩ := He.ba h
  obtain ⟨h3, h4⟩ := He.ba h2
  exact ⟨of_decide_eq_true h1, He.eqO_ok h3, He.eqO_ok h4⟩
/-- what TyOf.ins asks of the class -/
structure TyC (K : Frg) (C : Addr) : Prop where
  cl : Cls K C
  ha : PySem.W.findIn K (.ref C) "__class__" = some (some (.builtin "object.__class__"))
  hn : PySem.W.specialIn K (.builtin "object.__class__") "__get__" = some (some (.builtin "getset_descriptor.__get__"))
  htk : PySem.W.takesIn K (.builtin "object.__class__") = some true
  hm : PySem.W.mroIn K C (.type "object") = some true
theorem tycB_ok {K : Frg} {C : Addr} (c : Cls K C) (h : tycB K C = true) : TyC K C := by
  obtain ⟨h1, h2⟩ := He.ba h
  obtain ⟨h3, h4⟩ := He.ba h2
  obtain ⟨h5, h6⟩ := He.ba h4
  exact ⟨c, He.eqO_ok h1, He.eqO_ok h3, of_decide_eq_true h5, of_decide_eq_true h6⟩
theorem TyC.ty {K : Frg} {C a dx : Addr} {fs : List (Str × V)} {H : Hp} (c : TyC K C) (e : H a = some (.ins C dx fs)) : TyX K H (.ref a) (.ref C) := .base (.ins e c.cl c.ha c.hn c.htk c.hm)
theorem kitB2_ok {K : Frg} {t u : Value} {b : Bool} (h : kitB2 K t u b = true) : PySem.W.kitOne K t u = some b := of_decide_eq_true h
theorem supmB_ok {K : Frg} {C D f2 : Addr} {m : Str} (h : supmB K C D m f2 = true) (hm : (m == ("__class__" : Str)) = false := by decide) : SupM K C D m f2 := by
  obtain ⟨h1, h2⟩ := He.ba h
  obtain ⟨h3, h4⟩ := He.ba h2
  obtain ⟨h5, h6⟩ := He.ba h4
  exact ⟨of_decide_eq_true h1, He.eqO_ok h3, of_decide_eq_true h5, h6, hm⟩
/-! ### a def's promise, bound; wrappers -/
structure FOk (P : Program) (w : World) (K : Frg) (mg : Str → Option Value) (base : Heap) (k : Nat) (f : Addr) (ps : List Str) (dvs : List V) (sp : Sp) : Prop where
  ex : ∃ fd ds, FnOk P w K mg base C8.CX0 k f fd ps sp ∧ Binds K fd ps ds ∧ Vals dvs ds
  kp : PySem.W.keepIn K (.ref f) = true
theorem FOk.mono {P : Program} {w : World} {K : Frg} {mg : Str → Option Value} {base : Heap} {j k : Nat} {f : Addr} {ps : List Str} {dvs : List V} {sp : Sp} (F : FOk P w K mg base j f ps dvs sp) (h : j ≤ k) : FOk P w K mg base k f ps dvs sp := by
  obtain ⟨⟨fd, ds, F1, F2, F3⟩, kp⟩ := F
  exact ⟨⟨fd, ds, F1.mono h, F2, F3⟩, kp⟩
section
variable {X : Cx} {j k : Nat} {f C : Addr} {ps : List Str} {dvs : List V} {sp : Sp} {x m : Str} {p pos apos : Pos} {e o : Expr} {es : List Expr} {ta : TE} {t : TA}
abbrev E0 : XK := fun _ _ _ => False
theorem pass0 {X : Cx} {E : XK} : Passes C8.CX0 X E := fun _ _ _ _ _ _ _ h => h.elim
theorem pk_call (F : FOk X.prog X.w X.K X.mg X.base j f ps dvs sp) (hr : Room k X.A) (hg : Gl X x) (hm : X.mg x = some (.ref f)) (ha : PA X (e :: es) t) (hj : j ≤ k := by first | decide | omega) (hdb : (x == ("__debug__" : Str)) = false := by decide)
    (he : starEach (e :: es) X.env = (false, eval e X.env) :: starEach es X.env := by rfl) (hpl : (backTo pos (starEach es X.env)).any (·.1) = false := by rfl) : PE X (.Call (.Name x p) (e :: es) [] pos) (tCall (free sp) dvs E0 t) := by
  obtain ⟨⟨fd, ds, F1, F2, F3⟩, kp⟩ := F
  exact pe_call (FnOk.free F1) (hr.mono hj) hg hm kp F2 F3 pass0 ha hdb he hpl
theorem pk_call0 (F : FOk X.prog X.w X.K X.mg X.base j f ps dvs sp) (hr : Room k X.A) (hg : Gl X x) (hm : X.mg x = some (.ref f)) (hj : j ≤ k := by first | decide | omega) (hdb : (x == ("__debug__" : Str)) = false := by decide) : PE X (.Call (.Name x p) [] [] pos) (tCall (free sp) dvs E0 tNil) := by
  obtain ⟨⟨fd, ds, F1, F2, F3⟩, kp⟩ := F
  exact pe_call0 (FnOk.free F1) (hr.mono hj) hg hm kp F2 F3 pass0 hdb
theorem pk_meth {pl : Sem Bool} (he : PE X o ta) (c : Cls X.K C) (hm : Meth X.K C m f) (F : FOk X.prog X.w X.K X.mg X.base j f ps dvs sp) (hr : Room k X.A) (ha : PA X (e :: es) t) (hj : j ≤ k := by first | decide | omega)
    (hst : starEach (e :: es) X.env = (false, eval e X.env) :: starEach es X.env := by rfl) (hpl : (backTo pos (starEach es X.env)).any (·.1) = false := by rfl)
    (ht : eval (.Call (.Attribute o m apos) (e :: es) [] pos) X.env = (do
      let ov ← eval o X.env
      standAt apos.atName
      let (f, first) ← holding [ov] (getMethod ov m pl)
      callWith pos f first (backTo pos (starEach (e :: es) X.env)) (backToKw pos (keywordEach [] X.env))) := by rfl) :
    PE X (.Call (.Attribute o m apos) (e :: es) [] pos) (tMeth C m (free sp) dvs E0 ta t) := by
  obtain ⟨⟨fd, ds, F1, F2, F3⟩, kp⟩ := F
  exact pe_meth he c hm (FnOk.free F1) (hr.mono hj) F2 F3 pass0 ha hst hpl ht
theorem pk_meth0 {pl : Sem Bool} (he : PE X o ta) (c : Cls X.K C) (hm : Meth X.K C m f) (F : FOk X.prog X.w X.K X.mg X.base j f ps dvs sp) (hr : Room k X.A) (hj : j ≤ k := by first | decide | omega)
    (ht : eval (.Call (.Attribute o m apos) [] [] pos) X.env = (do
      let ov ← eval o X.env
      standAt apos.atName
      let (f, first) ← holding [ov] (getMethod ov m pl)
      callWith pos f first (backTo pos (starEach [] X.env)) (backToKw pos (keywordEach [] X.env))) := by rfl) :
    PE X (.Call (.Attribute o m apos) [] [] pos) (tMeth C m (free sp) dvs E0 ta tNil) := by
  obtain ⟨⟨fd, ds, F1, F2, F3⟩, kp⟩ := F
  exact pe_meth0 he c hm (FnOk.free F1) (hr.mono hj) F2 F3 pass0 ht
theorem pk_make (M : Mk X.K C f) (F : FOk X.prog X.w X.K X.mg X.base j f ps dvs sp) (hr : Room k X.A) (hg : Gl X x) (hm : X.mg x = some (.ref C)) (ha : PA X (e :: es) t) (hj : j + 1 ≤ k := by first | decide | omega) (hdb : (x == ("__debug__" : Str)) = false := by decide)
    (he : starEach (e :: es) X.env = (false, eval e X.env) :: starEach es X.env := by rfl) (hpl : (backTo pos (starEach es X.env)).any (·.1) = false := by rfl) : PE X (.Call (.Name x p) (e :: es) [] pos) (tMake C (free sp) dvs E0 t) := by
  obtain ⟨⟨fd, ds, F1, F2, F3⟩, kp⟩ := F
  exact pe_make M (FnOk.free F1) (hr.mono hj) hg hm F2 F3 pass0 ha hdb he hpl
theorem pk_make0 (M : Mk X.K C f) (F : FOk X.prog X.w X.K X.mg X.base j f ps dvs sp) (hr : Room k X.A) (hg : Gl X x) (hm : X.mg x = some (.ref C)) (hj : j + 1 ≤ k := by first | decide | omega) (hdb : (x == ("__debug__" : Str)) = false := by decide) : PE X (.Call (.Name x p) [] [] pos) (tMake C (free sp) dvs E0 tNil) := by
  obtain ⟨⟨fd, ds, F1, F2, F3⟩, kp⟩ := F
  exact pe_make0 M (FnOk.free F1) (hr.mono hj) hg hm F2 F3 pass0 hdb
theorem pk_prop {pa : Addr} (he : PE X e ta) (c : Cls X.K C) (hp : PropOf X.K C m pa f) (F : FOk X.prog X.w X.K X.mg X.base j f ps dvs sp) (hr : Room k X.A) (hj : j + 1 ≤ k := by first | decide | omega) (hab : attributeBase e m X.env (eval e X.env) = eval e X.env := by rfl) :
    PE X (.Attribute e m pos) (tProp C (free sp) dvs E0 ta) := by
  obtain ⟨⟨fd, ds, F1, F2, F3⟩, kp⟩ := F
  exact pe_prop he c hp (FnOk.free F1) (hr.mono hj) F2 F3 pass0 hab
/-- a global's value -/
theorem pe_gref {a : Addr} (hg : Gl X x) (hm : X.mg x = some (.ref a)) (hd : (x == ("__debug__" : Str)) = false := by decide) : PE X (.Name x pos) (tC (.ref a)) := pe_glob hg hm rfl hd
theorem pe_gint {i : Int} (hg : Gl X x) (hm : ∃ t, X.mg x = some (.int i t)) (hd : (x == ("__debug__" : Str)) = false := by decide) : PE X (.Name x pos) (tC (.int i)) := by
  obtain ⟨t, hm⟩ := hm
  exact pe_glob hg hm ⟨t, rfl⟩ hd
theorem pe_gstr {z : Str} (hg : Gl X x) (hm : ∃ t, X.mg x = some (.str z t)) (hd : (x == ("__debug__" : Str)) = false := by decide) : PE X (.Name x pos) (tC (.str z)) := by
  obtain ⟨t, hm⟩ := hm
  exact pe_glob hg hm ⟨t, rfl⟩ hd
theorem pe_gty {n : String} (hg : Gl X x) (hm : X.mg x = none) (hv : bootBuiltins x = some (.type n)) (hn : x ≠ "__name__" := by decide) (hd : (x == ("__debug__" : Str)) = false := by decide) : PE X (.Name x pos) (tC (.ty n)) := pe_bltn hg hm hv rfl hn hd
end
end L2.EX
namespace L2.EX
open PySem PySem.Spec PyProof.Rows
/-! The text by places, the facts of the head by names. Printed by facts.py. -/
theorem partB_ok {K : Frg} {k : Str} {vs : List He.Dv} (h : partB K k vs = true) : PySem.W.nsIn K (He.ga K "PARTS") k = some (some (.ref (ptA K k))) ∧ ∀ H, SqT K H (ptA K k) (vs.map (He.Dv.v K)) := by
  obtain ⟨h1, h2⟩ := He.ba h
  refine ⟨He.eqO_ok h1, fun H => ?_⟩
  cases q : K.lookup (ptA K k) with
  | none => rw [q] at h2; cases h2
  | some o =>
    obtain ⟨oc, od, dt, osl⟩ := o
    rw [q] at h2
    cases oc with
    | type c =>
      cases dt with
      | seq its n =>
        obtain ⟨h3, h4⟩ := He.ba (show (decide (c = "tuple") && (decide (its.size ≤ sizeLine) && He.relAll (vs.map (He.Dv.v K)) its.toList)) = true from h2)
        obtain ⟨h5, h6⟩ := He.ba h4
        exact .inr ⟨_, its, n, q, congrArg Value.type (of_decide_eq_true h3), rfl, of_decide_eq_true h5, He.relAll_ok h6⟩
      | _ => cases h2
    | _ => cases dt <;> cases h2
/-- what the head tells -/
structure Tx (w : World) (K : Frg) (mg : Str → Option Value) : Prop where
  c : SaysZ fa fb fn ts w K
  glo : ∀ x, (He.Fa.glo x).ok K = true → mg x = some (.ref (He.ga K x))
  fre : ∀ x, (He.Fa.free x).ok K = true → mg x = none
  int : ∀ x i, (He.Fa.int x i).ok K = true → ∃ t, mg x = some (.int i t)
  str : ∀ x z, (He.Fa.str x z).ok K = true → ∃ t, mg x = some (.str z t)
section
variable {w : World} {K : Frg} {mg : Str → Option Value}
theorem Tx.g_is_letter (T : Tx w K mg) : mg "is_letter" = some (.ref (He.ga K "is_letter")) := T.glo _ (T.c.fact 0 (f := .glo "is_letter"))
theorem Tx.g_is_kind (T : Tx w K mg) : mg "is_kind" = some (.ref (He.ga K "is_kind")) := T.glo _ (T.c.fact 1 (f := .glo "is_kind"))
theorem Tx.g_is_label (T : Tx w K mg) : mg "is_label" = some (.ref (He.ga K "is_label")) := T.glo _ (T.c.fact 2 (f := .glo "is_label"))
theorem Tx.g_need_fault (T : Tx w K mg) : mg "need_fault" = some (.ref (He.ga K "need_fault")) := T.glo _ (T.c.fact 3 (f := .glo "need_fault"))
theorem Tx.g_need_fault_or_none (T : Tx w K mg) : mg "need_fault_or_none" = some (.ref (He.ga K "need_fault_or_none")) := T.glo _ (T.c.fact 4 (f := .glo "need_fault_or_none"))
theorem Tx.g_raise_under (T : Tx w K mg) : mg "raise_under" = some (.ref (He.ga K "raise_under")) := T.glo _ (T.c.fact 5 (f := .glo "raise_under"))
theorem Tx.g_with_cause (T : Tx w K mg) : mg "with_cause" = some (.ref (He.ga K "with_cause")) := T.glo _ (T.c.fact 6 (f := .glo "with_cause"))
theorem Tx.g_number_of (T : Tx w K mg) : mg "number_of" = some (.ref (He.ga K "number_of")) := T.glo _ (T.c.fact 7 (f := .glo "number_of"))
theorem Tx.g_rows_of (T : Tx w K mg) : mg "rows_of" = some (.ref (He.ga K "rows_of")) := T.glo _ (T.c.fact 8 (f := .glo "rows_of"))
theorem Tx.g_is_number (T : Tx w K mg) : mg "is_number" = some (.ref (He.ga K "is_number")) := T.glo _ (T.c.fact 9 (f := .glo "is_number"))
theorem Tx.g_is_name (T : Tx w K mg) : mg "is_name" = some (.ref (He.ga K "is_name")) := T.glo _ (T.c.fact 10 (f := .glo "is_name"))
theorem Tx.g_is_plain (T : Tx w K mg) : mg "is_plain" = some (.ref (He.ga K "is_plain")) := T.glo _ (T.c.fact 11 (f := .glo "is_plain"))
theorem Tx.g_s2_parts (T : Tx w K mg) : mg "s2_parts" = some (.ref (He.ga K "s2_parts")) := T.glo _ (T.c.fact 12 (f := .glo "s2_parts"))
theorem Tx.g_s2_wrong_place (T : Tx w K mg) : mg "s2_wrong_place" = some (.ref (He.ga K "s2_wrong_place")) := T.glo _ (T.c.fact 13 (f := .glo "s2_wrong_place"))
theorem Tx.g_known_kinds (T : Tx w K mg) : mg "known_kinds" = some (.ref (He.ga K "known_kinds")) := T.glo _ (T.c.fact 14 (f := .glo "known_kinds"))
theorem Tx.g_check_program (T : Tx w K mg) : mg "check_program" = some (.ref (He.ga K "check_program")) := T.glo _ (T.c.fact 15 (f := .glo "check_program"))
theorem Tx.g_l_begun (T : Tx w K mg) : mg "_law_begun" = some (.ref (He.ga K "_law_begun")) := T.glo _ (T.c.fact 16 (f := .glo "_law_begun"))
theorem Tx.g_l_next (T : Tx w K mg) : mg "_law_next" = some (.ref (He.ga K "_law_next")) := T.glo _ (T.c.fact 17 (f := .glo "_law_next"))
theorem Tx.g_l_pick (T : Tx w K mg) : mg "_law_pick" = some (.ref (He.ga K "_law_pick")) := T.glo _ (T.c.fact 18 (f := .glo "_law_pick"))
theorem Tx.g_l_tree (T : Tx w K mg) : mg "_law_tree" = some (.ref (He.ga K "_law_tree")) := T.glo _ (T.c.fact 19 (f := .glo "_law_tree"))
theorem Tx.g_l_fits (T : Tx w K mg) : mg "_law_fits" = some (.ref (He.ga K "_law_fits")) := T.glo _ (T.c.fact 20 (f := .glo "_law_fits"))
theorem Tx.g_l_fresh (T : Tx w K mg) : mg "_law_fresh" = some (.ref (He.ga K "_law_fresh")) := T.glo _ (T.c.fact 21 (f := .glo "_law_fresh"))
theorem Tx.g_l_made (T : Tx w K mg) : mg "_law_made" = some (.ref (He.ga K "_law_made")) := T.glo _ (T.c.fact 22 (f := .glo "_law_made"))
theorem Tx.g_l_raised (T : Tx w K mg) : mg "_law_raised" = some (.ref (He.ga K "_law_raised")) := T.glo _ (T.c.fact 23 (f := .glo "_law_raised"))
theorem Tx.g_l_at (T : Tx w K mg) : mg "_law_at" = some (.ref (He.ga K "_law_at")) := T.glo _ (T.c.fact 24 (f := .glo "_law_at"))
theorem Tx.g_l_raising (T : Tx w K mg) : mg "_law_raising" = some (.ref (He.ga K "_law_raising")) := T.glo _ (T.c.fact 25 (f := .glo "_law_raising"))
theorem Tx.g_l_try (T : Tx w K mg) : mg "_law_try" = some (.ref (He.ga K "_law_try")) := T.glo _ (T.c.fact 26 (f := .glo "_law_try"))
theorem Tx.g_l_statement (T : Tx w K mg) : mg "_law_statement" = some (.ref (He.ga K "_law_statement")) := T.glo _ (T.c.fact 27 (f := .glo "_law_statement"))
theorem Tx.g_l_body (T : Tx w K mg) : mg "_law_body" = some (.ref (He.ga K "_law_body")) := T.glo _ (T.c.fact 28 (f := .glo "_law_body"))
theorem Tx.g_l_number (T : Tx w K mg) : mg "_law_number" = some (.ref (He.ga K "_law_number")) := T.glo _ (T.c.fact 29 (f := .glo "_law_number"))
theorem Tx.g_l_rows (T : Tx w K mg) : mg "_law_rows" = some (.ref (He.ga K "_law_rows")) := T.glo _ (T.c.fact 30 (f := .glo "_law_rows"))
theorem Tx.g_l_same (T : Tx w K mg) : mg "_law_same" = some (.ref (He.ga K "_law_same")) := T.glo _ (T.c.fact 31 (f := .glo "_law_same"))
theorem Tx.g_l_throws (T : Tx w K mg) : mg "_law_throws" = some (.ref (He.ga K "_law_throws")) := T.glo _ (T.c.fact 32 (f := .glo "_law_throws"))
theorem Tx.g_l_nest (T : Tx w K mg) : mg "_law_nest" = some (.ref (He.ga K "_law_nest")) := T.glo _ (T.c.fact 33 (f := .glo "_law_nest"))
theorem Tx.g_l_turns (T : Tx w K mg) : mg "_law_turns" = some (.ref (He.ga K "_law_turns")) := T.glo _ (T.c.fact 34 (f := .glo "_law_turns"))
theorem Tx.g_law (T : Tx w K mg) : mg "law" = some (.ref (He.ga K "law")) := T.glo _ (T.c.fact 35 (f := .glo "law"))
theorem Tx.g_KindTree (T : Tx w K mg) : mg "KindTree" = some (.ref (He.ga K "KindTree")) := T.glo _ (T.c.fact 36 (f := .glo "KindTree"))
theorem Tx.g_Fault (T : Tx w K mg) : mg "Fault" = some (.ref (He.ga K "Fault")) := T.glo _ (T.c.fact 37 (f := .glo "Fault"))
theorem Tx.g_S2Check (T : Tx w K mg) : mg "S2Check" = some (.ref (He.ga K "S2Check")) := T.glo _ (T.c.fact 38 (f := .glo "S2Check"))
theorem Tx.g_Outcome (T : Tx w K mg) : mg "Outcome" = some (.ref (He.ga K "Outcome")) := T.glo _ (T.c.fact 39 (f := .glo "Outcome"))
theorem Tx.g_BodyFrame (T : Tx w K mg) : mg "BodyFrame" = some (.ref (He.ga K "BodyFrame")) := T.glo _ (T.c.fact 40 (f := .glo "BodyFrame"))
theorem Tx.g_TryFrame (T : Tx w K mg) : mg "TryFrame" = some (.ref (He.ga K "TryFrame")) := T.glo _ (T.c.fact 41 (f := .glo "TryFrame"))
theorem Tx.g_Activation (T : Tx w K mg) : mg "Activation" = some (.ref (He.ga K "Activation")) := T.glo _ (T.c.fact 42 (f := .glo "Activation"))
theorem Tx.g_Runner (T : Tx w K mg) : mg "Runner" = some (.ref (He.ga K "Runner")) := T.glo _ (T.c.fact 43 (f := .glo "Runner"))
theorem Tx.g_FIRST_KINDS (T : Tx w K mg) : mg "FIRST_KINDS" = some (.ref (He.ga K "FIRST_KINDS")) := T.glo _ (T.c.fact 44 (f := .glo "FIRST_KINDS"))
theorem Tx.g_FIRST_PARENTS (T : Tx w K mg) : mg "FIRST_PARENTS" = some (.ref (He.ga K "FIRST_PARENTS")) := T.glo _ (T.c.fact 45 (f := .glo "FIRST_PARENTS"))
theorem Tx.g_PARTS (T : Tx w K mg) : mg "PARTS" = some (.ref (He.ga K "PARTS")) := T.glo _ (T.c.fact 46 (f := .glo "PARTS"))
theorem Tx.g_BODIES (T : Tx w K mg) : mg "BODIES" = some (.ref (He.ga K "BODIES")) := T.glo _ (T.c.fact 47 (f := .glo "BODIES"))
theorem Tx.z_isinstance (T : Tx w K mg) : mg "isinstance" = none := T.fre _ (T.c.fact 48 (f := .free "isinstance"))
theorem Tx.z_str (T : Tx w K mg) : mg "str" = none := T.fre _ (T.c.fact 49 (f := .free "str"))
theorem Tx.z_len (T : Tx w K mg) : mg "len" = none := T.fre _ (T.c.fact 50 (f := .free "len"))
theorem Tx.z_all (T : Tx w K mg) : mg "all" = none := T.fre _ (T.c.fact 51 (f := .free "all"))
theorem Tx.z_ord (T : Tx w K mg) : mg "ord" = none := T.fre _ (T.c.fact 52 (f := .free "ord"))
theorem Tx.z_int (T : Tx w K mg) : mg "int" = none := T.fre _ (T.c.fact 53 (f := .free "int"))
theorem Tx.z_bool (T : Tx w K mg) : mg "bool" = none := T.fre _ (T.c.fact 54 (f := .free "bool"))
theorem Tx.z_tuple (T : Tx w K mg) : mg "tuple" = none := T.fre _ (T.c.fact 55 (f := .free "tuple"))
theorem Tx.z_dict (T : Tx w K mg) : mg "dict" = none := T.fre _ (T.c.fact 56 (f := .free "dict"))
theorem Tx.z_zip (T : Tx w K mg) : mg "zip" = none := T.fre _ (T.c.fact 57 (f := .free "zip"))
theorem Tx.z_enumerate (T : Tx w K mg) : mg "enumerate" = none := T.fre _ (T.c.fact 58 (f := .free "enumerate"))
theorem Tx.z_repr (T : Tx w K mg) : mg "repr" = none := T.fre _ (T.c.fact 59 (f := .free "repr"))
theorem Tx.z_sorted (T : Tx w K mg) : mg "sorted" = none := T.fre _ (T.c.fact 60 (f := .free "sorted"))
theorem Tx.z_list (T : Tx w K mg) : mg "list" = none := T.fre _ (T.c.fact 61 (f := .free "list"))
theorem Tx.z_max (T : Tx w K mg) : mg "max" = none := T.fre _ (T.c.fact 62 (f := .free "max"))
theorem Tx.z_min (T : Tx w K mg) : mg "min" = none := T.fre _ (T.c.fact 63 (f := .free "min"))
theorem Tx.z_range (T : Tx w K mg) : mg "range" = none := T.fre _ (T.c.fact 64 (f := .free "range"))
theorem Tx.z_super (T : Tx w K mg) : mg "super" = none := T.fre _ (T.c.fact 65 (f := .free "super"))
theorem Tx.i_MOST_LETTERS (T : Tx w K mg) : ∃ t, mg "MOST_LETTERS" = some (.int 12 t) := T.int _ _ (T.c.fact 66 (f := .int "MOST_LETTERS" 12))
theorem Tx.i_MOST_LABEL (T : Tx w K mg) : ∃ t, mg "MOST_LABEL" = some (.int 40 t) := T.int _ _ (T.c.fact 67 (f := .int "MOST_LABEL" 40))
theorem Tx.i_MOST_STATEMENTS (T : Tx w K mg) : ∃ t, mg "MOST_STATEMENTS" = some (.int 200 t) := T.int _ _ (T.c.fact 68 (f := .int "MOST_STATEMENTS" 200))
theorem Tx.i_MOST_ITEMS (T : Tx w K mg) : ∃ t, mg "MOST_ITEMS" = some (.int 12 t) := T.int _ _ (T.c.fact 69 (f := .int "MOST_ITEMS" 12))
theorem Tx.i_MOST_HANDLERS (T : Tx w K mg) : ∃ t, mg "MOST_HANDLERS" = some (.int 6 t) := T.int _ _ (T.c.fact 70 (f := .int "MOST_HANDLERS" 6))
theorem Tx.i_MOST_DEPTH (T : Tx w K mg) : ∃ t, mg "MOST_DEPTH" = some (.int 8 t) := T.int _ _ (T.c.fact 71 (f := .int "MOST_DEPTH" 8))
theorem Tx.i_MOST_TIMES (T : Tx w K mg) : ∃ t, mg "MOST_TIMES" = some (.int 5 t) := T.int _ _ (T.c.fact 72 (f := .int "MOST_TIMES" 5))
theorem Tx.i_MOST_NUMBER (T : Tx w K mg) : ∃ t, mg "MOST_NUMBER" = some (.int 1000000000 t) := T.int _ _ (T.c.fact 73 (f := .int "MOST_NUMBER" 1000000000))
theorem Tx.i_FIRST_LIMIT (T : Tx w K mg) : ∃ t, mg "FIRST_LIMIT" = some (.int 2000 t) := T.int _ _ (T.c.fact 74 (f := .int "FIRST_LIMIT" 2000))
theorem Tx.i_MOST_STEPS (T : Tx w K mg) : ∃ t, mg "MOST_STEPS" = some (.int 10000 t) := T.int _ _ (T.c.fact 75 (f := .int "MOST_STEPS" 10000))
theorem Tx.i_MOST_FUNCTIONS (T : Tx w K mg) : ∃ t, mg "MOST_FUNCTIONS" = some (.int 20 t) := T.int _ _ (T.c.fact 76 (f := .int "MOST_FUNCTIONS" 20))
theorem Tx.t_LETTERS (T : Tx w K mg) : ∃ t, mg "LETTERS" = some (.str "abcdefghijklmnopqrstuvwxyz" t) := T.str _ _ (T.c.fact 77 (f := .str "LETTERS" "abcdefghijklmnopqrstuvwxyz"))
theorem Tx.c_KindTree (T : Tx w K mg) : Cls K (a_KindTree K) := He.cls_ok (T.c.fact 78 (f := .cls "KindTree"))
theorem Tx.c_Fault (T : Tx w K mg) : Cls K (a_Fault K) := He.cls_ok (T.c.fact 79 (f := .cls "Fault"))
theorem Tx.c_S2Check (T : Tx w K mg) : Cls K (a_S2Check K) := He.cls_ok (T.c.fact 80 (f := .cls "S2Check"))
theorem Tx.c_Outcome (T : Tx w K mg) : Cls K (a_Outcome K) := He.cls_ok (T.c.fact 81 (f := .cls "Outcome"))
theorem Tx.c_BodyFrame (T : Tx w K mg) : Cls K (a_BodyFrame K) := He.cls_ok (T.c.fact 82 (f := .cls "BodyFrame"))
theorem Tx.c_TryFrame (T : Tx w K mg) : Cls K (a_TryFrame K) := He.cls_ok (T.c.fact 83 (f := .cls "TryFrame"))
theorem Tx.c_Activation (T : Tx w K mg) : Cls K (a_Activation K) := He.cls_ok (T.c.fact 84 (f := .cls "Activation"))
theorem Tx.c_Runner (T : Tx w K mg) : Cls K (a_Runner K) := He.cls_ok (T.c.fact 85 (f := .cls "Runner"))
theorem Tx.n_KindTree_s1_parents (T : Tx w K mg) : NoAttr K (a_KindTree K) "s1_parents" := He.noat_ok (T.c.fact 86 (f := .noat "KindTree" "s1_parents"))
theorem Tx.n_Fault_s1_kind (T : Tx w K mg) : NoAttr K (a_Fault K) "s1_kind" := He.noat_ok (T.c.fact 87 (f := .noat "Fault" "s1_kind"))
theorem Tx.n_Fault_s1_label (T : Tx w K mg) : NoAttr K (a_Fault K) "s1_label" := He.noat_ok (T.c.fact 88 (f := .noat "Fault" "s1_label"))
theorem Tx.n_Fault_s1_number (T : Tx w K mg) : NoAttr K (a_Fault K) "s1_number" := He.noat_ok (T.c.fact 89 (f := .noat "Fault" "s1_number"))
theorem Tx.n_Fault_s1_context (T : Tx w K mg) : NoAttr K (a_Fault K) "s1_context" := He.noat_ok (T.c.fact 90 (f := .noat "Fault" "s1_context"))
theorem Tx.n_Fault_s1_cause (T : Tx w K mg) : NoAttr K (a_Fault K) "s1_cause" := He.noat_ok (T.c.fact 91 (f := .noat "Fault" "s1_cause"))
theorem Tx.n_Fault_s1_hides (T : Tx w K mg) : NoAttr K (a_Fault K) "s1_hides" := He.noat_ok (T.c.fact 92 (f := .noat "Fault" "s1_hides"))
theorem Tx.n_S2Check_s2_known (T : Tx w K mg) : NoAttr K (a_S2Check K) "s2_known" := He.noat_ok (T.c.fact 93 (f := .noat "S2Check" "s2_known"))
theorem Tx.n_S2Check_s2_count (T : Tx w K mg) : NoAttr K (a_S2Check K) "s2_count" := He.noat_ok (T.c.fact 94 (f := .noat "S2Check" "s2_count"))
theorem Tx.n_Outcome_s3_way (T : Tx w K mg) : NoAttr K (a_Outcome K) "s3_way" := He.noat_ok (T.c.fact 95 (f := .noat "Outcome" "s3_way"))
theorem Tx.n_Outcome_s3_value (T : Tx w K mg) : NoAttr K (a_Outcome K) "s3_value" := He.noat_ok (T.c.fact 96 (f := .noat "Outcome" "s3_value"))
theorem Tx.n_Outcome_s3_fault (T : Tx w K mg) : NoAttr K (a_Outcome K) "s3_fault" := He.noat_ok (T.c.fact 97 (f := .noat "Outcome" "s3_fault"))
theorem Tx.n_Outcome_s3_text (T : Tx w K mg) : NoAttr K (a_Outcome K) "s3_text" := He.noat_ok (T.c.fact 98 (f := .noat "Outcome" "s3_text"))
theorem Tx.n_Outcome_s3_rows (T : Tx w K mg) : NoAttr K (a_Outcome K) "s3_rows" := He.noat_ok (T.c.fact 99 (f := .noat "Outcome" "s3_rows"))
theorem Tx.n_BodyFrame_s3_body (T : Tx w K mg) : NoAttr K (a_BodyFrame K) "s3_body" := He.noat_ok (T.c.fact 100 (f := .noat "BodyFrame" "s3_body"))
theorem Tx.n_BodyFrame_s3_place (T : Tx w K mg) : NoAttr K (a_BodyFrame K) "s3_place" := He.noat_ok (T.c.fact 101 (f := .noat "BodyFrame" "s3_place"))
theorem Tx.n_TryFrame_s3_statement (T : Tx w K mg) : NoAttr K (a_TryFrame K) "s3_statement" := He.noat_ok (T.c.fact 102 (f := .noat "TryFrame" "s3_statement"))
theorem Tx.n_TryFrame_s3_part (T : Tx w K mg) : NoAttr K (a_TryFrame K) "s3_part" := He.noat_ok (T.c.fact 103 (f := .noat "TryFrame" "s3_part"))
theorem Tx.n_TryFrame_s3_name (T : Tx w K mg) : NoAttr K (a_TryFrame K) "s3_name" := He.noat_ok (T.c.fact 104 (f := .noat "TryFrame" "s3_name"))
theorem Tx.n_TryFrame_s3_pending (T : Tx w K mg) : NoAttr K (a_TryFrame K) "s3_pending" := He.noat_ok (T.c.fact 105 (f := .noat "TryFrame" "s3_pending"))
theorem Tx.n_Activation_s3_frames (T : Tx w K mg) : NoAttr K (a_Activation K) "s3_frames" := He.noat_ok (T.c.fact 106 (f := .noat "Activation" "s3_frames"))
theorem Tx.n_Activation_s3_handled (T : Tx w K mg) : NoAttr K (a_Activation K) "s3_handled" := He.noat_ok (T.c.fact 107 (f := .noat "Activation" "s3_handled"))
theorem Tx.n_Runner_s3_tree (T : Tx w K mg) : NoAttr K (a_Runner K) "s3_tree" := He.noat_ok (T.c.fact 108 (f := .noat "Runner" "s3_tree"))
theorem Tx.n_Runner_s3_limit (T : Tx w K mg) : NoAttr K (a_Runner K) "s3_limit" := He.noat_ok (T.c.fact 109 (f := .noat "Runner" "s3_limit"))
theorem Tx.n_Runner_s3_is_spoiled (T : Tx w K mg) : NoAttr K (a_Runner K) "s3_is_spoiled" := He.noat_ok (T.c.fact 110 (f := .noat "Runner" "s3_is_spoiled"))
theorem Tx.n_Runner_s3_board (T : Tx w K mg) : NoAttr K (a_Runner K) "s3_board" := He.noat_ok (T.c.fact 111 (f := .noat "Runner" "s3_board"))
theorem Tx.n_Runner_s3_log (T : Tx w K mg) : NoAttr K (a_Runner K) "s3_log" := He.noat_ok (T.c.fact 112 (f := .noat "Runner" "s3_log"))
theorem Tx.n_Runner_s3_faults (T : Tx w K mg) : NoAttr K (a_Runner K) "s3_faults" := He.noat_ok (T.c.fact 113 (f := .noat "Runner" "s3_faults"))
theorem Tx.n_Runner_s3_steps (T : Tx w K mg) : NoAttr K (a_Runner K) "s3_steps" := He.noat_ok (T.c.fact 114 (f := .noat "Runner" "s3_steps"))
theorem Tx.n_Runner_s3_active (T : Tx w K mg) : NoAttr K (a_Runner K) "s3_active" := He.noat_ok (T.c.fact 115 (f := .noat "Runner" "s3_active"))
theorem Tx.n_Runner_s4_opened (T : Tx w K mg) : NoAttr K (a_Runner K) "s4_opened" := He.noat_ok (T.c.fact 116 (f := .noat "Runner" "s4_opened"))
theorem Tx.k_KindTree (T : Tx w K mg) : Mk K (a_KindTree K) (f_KindTree_init K) := He.mkr_ok (T.c.fact 117 (f := .mkr "KindTree"))
theorem Tx.m_KindTree_is_known (T : Tx w K mg) : Meth K (a_KindTree K) "is_known" (f_KindTree_is_known K) := He.meth_ok (T.c.fact 118 (f := .meth "KindTree" "is_known"))
theorem Tx.m_KindTree_s1_need (T : Tx w K mg) : Meth K (a_KindTree K) "s1_need" (f_KindTree_s1_need K) := He.meth_ok (T.c.fact 119 (f := .meth "KindTree" "s1_need"))
theorem Tx.m_KindTree_fits (T : Tx w K mg) : Meth K (a_KindTree K) "fits" (f_KindTree_fits K) := He.meth_ok (T.c.fact 120 (f := .meth "KindTree" "fits"))
theorem Tx.k_Fault (T : Tx w K mg) : Mk K (a_Fault K) (f_Fault_init K) := He.mkr_ok (T.c.fact 121 (f := .mkr "Fault"))
theorem Tx.k_S2Check (T : Tx w K mg) : Mk K (a_S2Check K) (f_S2Check_init K) := He.mkr_ok (T.c.fact 122 (f := .mkr "S2Check"))
theorem Tx.m_S2Check_s2_knows (T : Tx w K mg) : Meth K (a_S2Check K) "s2_knows" (f_S2Check_s2_knows K) := He.meth_ok (T.c.fact 123 (f := .meth "S2Check" "s2_knows"))
theorem Tx.m_S2Check_s2_item_fits (T : Tx w K mg) : Meth K (a_S2Check K) "s2_item_fits" (f_S2Check_s2_item_fits K) := He.meth_ok (T.c.fact 124 (f := .meth "S2Check" "s2_item_fits"))
theorem Tx.m_S2Check_s2_wrong_body (T : Tx w K mg) : Meth K (a_S2Check K) "s2_wrong_body" (f_S2Check_s2_wrong_body K) := He.meth_ok (T.c.fact 125 (f := .meth "S2Check" "s2_wrong_body"))
theorem Tx.m_S2Check_s2_wrong_statement (T : Tx w K mg) : Meth K (a_S2Check K) "s2_wrong_statement" (f_S2Check_s2_wrong_statement K) := He.meth_ok (T.c.fact 126 (f := .meth "S2Check" "s2_wrong_statement"))
theorem Tx.m_S2Check_s2_wrong_item (T : Tx w K mg) : Meth K (a_S2Check K) "s2_wrong_item" (f_S2Check_s2_wrong_item K) := He.meth_ok (T.c.fact 127 (f := .meth "S2Check" "s2_wrong_item"))
theorem Tx.m_S2Check_s2_wrong_handlers (T : Tx w K mg) : Meth K (a_S2Check K) "s2_wrong_handlers" (f_S2Check_s2_wrong_handlers K) := He.meth_ok (T.c.fact 128 (f := .meth "S2Check" "s2_wrong_handlers"))
theorem Tx.k_Outcome (T : Tx w K mg) : Mk K (a_Outcome K) (f_Outcome_init K) := He.mkr_ok (T.c.fact 129 (f := .mkr "Outcome"))
theorem Tx.k_BodyFrame (T : Tx w K mg) : Mk K (a_BodyFrame K) (f_BodyFrame_init K) := He.mkr_ok (T.c.fact 130 (f := .mkr "BodyFrame"))
theorem Tx.m_BodyFrame_step (T : Tx w K mg) : Meth K (a_BodyFrame K) "step" (f_BodyFrame_step K) := He.meth_ok (T.c.fact 131 (f := .meth "BodyFrame" "step"))
theorem Tx.m_BodyFrame_ended (T : Tx w K mg) : Meth K (a_BodyFrame K) "ended" (f_BodyFrame_ended K) := He.meth_ok (T.c.fact 132 (f := .meth "BodyFrame" "ended"))
theorem Tx.k_TryFrame (T : Tx w K mg) : Mk K (a_TryFrame K) (f_TryFrame_init K) := He.mkr_ok (T.c.fact 133 (f := .mkr "TryFrame"))
theorem Tx.m_TryFrame_s3_begin (T : Tx w K mg) : Meth K (a_TryFrame K) "s3_begin" (f_TryFrame_s3_begin K) := He.meth_ok (T.c.fact 134 (f := .meth "TryFrame" "s3_begin"))
theorem Tx.m_TryFrame_step (T : Tx w K mg) : Meth K (a_TryFrame K) "step" (f_TryFrame_step K) := He.meth_ok (T.c.fact 135 (f := .meth "TryFrame" "step"))
theorem Tx.m_TryFrame_ended (T : Tx w K mg) : Meth K (a_TryFrame K) "ended" (f_TryFrame_ended K) := He.meth_ok (T.c.fact 136 (f := .meth "TryFrame" "ended"))
theorem Tx.m_TryFrame_s3_is_handled (T : Tx w K mg) : Meth K (a_TryFrame K) "s3_is_handled" (f_TryFrame_s3_is_handled K) := He.meth_ok (T.c.fact 137 (f := .meth "TryFrame" "s3_is_handled"))
theorem Tx.k_Activation (T : Tx w K mg) : Mk K (a_Activation K) (f_Activation_init K) := He.mkr_ok (T.c.fact 138 (f := .mkr "Activation"))
theorem Tx.k_Runner (T : Tx w K mg) : Mk K (a_Runner K) (f_Runner_init K) := He.mkr_ok (T.c.fact 139 (f := .mkr "Runner"))
theorem Tx.m_Runner_s3_clear (T : Tx w K mg) : Meth K (a_Runner K) "s3_clear" (f_Runner_s3_clear K) := He.meth_ok (T.c.fact 140 (f := .meth "Runner" "s3_clear"))
theorem Tx.m_Runner_s3_run (T : Tx w K mg) : Meth K (a_Runner K) "s3_run" (f_Runner_s3_run K) := He.meth_ok (T.c.fact 141 (f := .meth "Runner" "s3_run"))
theorem Tx.m_Runner_s3_begin_statement (T : Tx w K mg) : Meth K (a_Runner K) "s3_begin_statement" (f_Runner_s3_begin_statement K) := He.meth_ok (T.c.fact 142 (f := .meth "Runner" "s3_begin_statement"))
theorem Tx.m_Runner_s3_now (T : Tx w K mg) : Meth K (a_Runner K) "s3_now" (f_Runner_s3_now K) := He.meth_ok (T.c.fact 143 (f := .meth "Runner" "s3_now"))
theorem Tx.m_Runner_s3_made (T : Tx w K mg) : Meth K (a_Runner K) "s3_made" (f_Runner_s3_made K) := He.meth_ok (T.c.fact 144 (f := .meth "Runner" "s3_made"))
theorem Tx.m_Runner_s3_raised (T : Tx w K mg) : Meth K (a_Runner K) "s3_raised" (f_Runner_s3_raised K) := He.meth_ok (T.c.fact 145 (f := .meth "Runner" "s3_raised"))
theorem Tx.m_Runner_s3_fail (T : Tx w K mg) : Meth K (a_Runner K) "s3_fail" (f_Runner_s3_fail K) := He.meth_ok (T.c.fact 146 (f := .meth "Runner" "s3_fail"))
theorem Tx.m_Runner_s3_call (T : Tx w K mg) : Meth K (a_Runner K) "s3_call" (f_Runner_s3_call K) := He.meth_ok (T.c.fact 147 (f := .meth "Runner" "s3_call"))
theorem Tx.m_Runner_s3_advance (T : Tx w K mg) : Meth K (a_Runner K) "s3_advance" (f_Runner_s3_advance K) := He.meth_ok (T.c.fact 148 (f := .meth "Runner" "s3_advance"))
theorem Tx.m_Runner_s3_fault_at (T : Tx w K mg) : Meth K (a_Runner K) "s3_fault_at" (f_Runner_s3_fault_at K) := He.meth_ok (T.c.fact 149 (f := .meth "Runner" "s3_fault_at"))
theorem Tx.m_Runner_s3_execute (T : Tx w K mg) : Meth K (a_Runner K) "s3_execute" (f_Runner_s3_execute K) := He.meth_ok (T.c.fact 150 (f := .meth "Runner" "s3_execute"))
theorem Tx.m_Runner_s3_raising (T : Tx w K mg) : Meth K (a_Runner K) "s3_raising" (f_Runner_s3_raising K) := He.meth_ok (T.c.fact 151 (f := .meth "Runner" "s3_raising"))
theorem Tx.m_Runner_run (T : Tx w K mg) : Meth K (a_Runner K) "run" (f_Runner_run K) := He.meth_ok (T.c.fact 152 (f := .meth "Runner" "run"))
theorem Tx.m_Runner_s6_check (T : Tx w K mg) : Meth K (a_Runner K) "s6_check" (f_Runner_s6_check K) := He.meth_ok (T.c.fact 153 (f := .meth "Runner" "s6_check"))
theorem Tx.p_KindTree_kinds (T : Tx w K mg) : PropOf K (a_KindTree K) "kinds" (He.ma K (a_KindTree K) "kinds") (f_KindTree_kinds K) := propB_ok (T.c.more 0 (f := fun K => propB K (a_KindTree K) "kinds"))
theorem Tx.p_Fault_kind (T : Tx w K mg) : PropOf K (a_Fault K) "kind" (He.ma K (a_Fault K) "kind") (f_Fault_kind K) := propB_ok (T.c.more 1 (f := fun K => propB K (a_Fault K) "kind"))
theorem Tx.p_Fault_label (T : Tx w K mg) : PropOf K (a_Fault K) "label" (He.ma K (a_Fault K) "label") (f_Fault_label K) := propB_ok (T.c.more 2 (f := fun K => propB K (a_Fault K) "label"))
theorem Tx.p_Fault_number (T : Tx w K mg) : PropOf K (a_Fault K) "number" (He.ma K (a_Fault K) "number") (f_Fault_number K) := propB_ok (T.c.more 3 (f := fun K => propB K (a_Fault K) "number"))
theorem Tx.p_Fault_context (T : Tx w K mg) : PropOf K (a_Fault K) "context" (He.ma K (a_Fault K) "context") (f_Fault_context K) := propB_ok (T.c.more 4 (f := fun K => propB K (a_Fault K) "context"))
theorem Tx.p_Fault_cause (T : Tx w K mg) : PropOf K (a_Fault K) "cause" (He.ma K (a_Fault K) "cause") (f_Fault_cause K) := propB_ok (T.c.more 5 (f := fun K => propB K (a_Fault K) "cause"))
theorem Tx.p_Fault_hides (T : Tx w K mg) : PropOf K (a_Fault K) "hides" (He.ma K (a_Fault K) "hides") (f_Fault_hides K) := propB_ok (T.c.more 6 (f := fun K => propB K (a_Fault K) "hides"))
theorem Tx.p_Outcome_way (T : Tx w K mg) : PropOf K (a_Outcome K) "way" (He.ma K (a_Outcome K) "way") (f_Outcome_way K) := propB_ok (T.c.more 7 (f := fun K => propB K (a_Outcome K) "way"))
theorem Tx.p_Outcome_returned (T : Tx w K mg) : PropOf K (a_Outcome K) "returned" (He.ma K (a_Outcome K) "returned") (f_Outcome_returned K) := propB_ok (T.c.more 8 (f := fun K => propB K (a_Outcome K) "returned"))
theorem Tx.p_Outcome_fault (T : Tx w K mg) : PropOf K (a_Outcome K) "fault" (He.ma K (a_Outcome K) "fault") (f_Outcome_fault K) := propB_ok (T.c.more 9 (f := fun K => propB K (a_Outcome K) "fault"))
theorem Tx.p_Runner_log (T : Tx w K mg) : PropOf K (a_Runner K) "log" (He.ma K (a_Runner K) "log") (f_Runner_log K) := propB_ok (T.c.more 10 (f := fun K => propB K (a_Runner K) "log"))
theorem Tx.p_Runner_faults (T : Tx w K mg) : PropOf K (a_Runner K) "faults" (He.ma K (a_Runner K) "faults") (f_Runner_faults K) := propB_ok (T.c.more 11 (f := fun K => propB K (a_Runner K) "faults"))
theorem Tx.p_Runner_names (T : Tx w K mg) : PropOf K (a_Runner K) "names" (He.ma K (a_Runner K) "names") (f_Runner_names K) := propB_ok (T.c.more 12 (f := fun K => propB K (a_Runner K) "names"))
theorem Tx.q_Fault (T : Tx w K mg) : CmpC K (a_Fault K) := cmpB_ok (T.c.more 13 (f := fun K => cmpB K (a_Fault K)))
theorem Tx.y_Fault (T : Tx w K mg) : TyC K (a_Fault K) := tycB_ok (T.c_Fault) (T.c.more 14 (f := fun K => tycB K (a_Fault K)))
theorem Tx.o_Fault (T : Tx w K mg) : PySem.W.kitOne K (.ref (a_Fault K)) (.ref (a_Fault K)) = some true := kitB2_ok (T.c.more 15 (f := fun K => kitB2 K (.ref (a_Fault K)) (.ref (a_Fault K)) true))
theorem Tx.y_KindTree (T : Tx w K mg) : TyC K (a_KindTree K) := tycB_ok (T.c_KindTree) (T.c.more 16 (f := fun K => tycB K (a_KindTree K)))
theorem Tx.o_KindTree (T : Tx w K mg) : PySem.W.kitOne K (.ref (a_KindTree K)) (.ref (a_KindTree K)) = some true := kitB2_ok (T.c.more 17 (f := fun K => kitB2 K (.ref (a_KindTree K)) (.ref (a_KindTree K)) true))
theorem Tx.oN_Fault (T : Tx w K mg) : PySem.W.kitOne K (.type "NoneType") (.ref (a_Fault K)) = some false := kitB2_ok (T.c.more 18 (f := fun K => kitB2 K (.type "NoneType") (.ref (a_Fault K)) false))
theorem Tx.u_Core_init (T : Tx w K mg) : SupM K (a_Runner K) (a_Runner K) "__init__" (f_Core_init K) := supmB_ok (T.c.more 19 (f := fun K => supmB K (a_Runner K) (a_Runner K) "__init__" (f_Core_init K)))
theorem Tx.u_WithCore_s3_execute (T : Tx w K mg) : SupM K (a_Runner K) (a_StackCore K) "s3_execute" (f_WithCore_s3_execute K) := supmB_ok (T.c.more 20 (f := fun K => supmB K (a_Runner K) (a_StackCore K) "s3_execute" (f_WithCore_s3_execute K)))
theorem Tx.u_Core_s3_execute (T : Tx w K mg) : SupM K (a_Runner K) (a_WithCore K) "s3_execute" (f_Core_s3_execute K) := supmB_ok (T.c.more 21 (f := fun K => supmB K (a_Runner K) (a_WithCore K) "s3_execute" (f_Core_s3_execute K)))
theorem Tx.u_Core_s3_clear (T : Tx w K mg) : SupM K (a_Runner K) (a_WithCore K) "s3_clear" (f_Core_s3_clear K) := supmB_ok (T.c.more 22 (f := fun K => supmB K (a_Runner K) (a_WithCore K) "s3_clear" (f_Core_s3_clear K)))
theorem Tx.v_Runner_init (T : Tx w K mg) : supB K (f_Runner_init K) (a_Runner K) PySem.Challenge.pw_exitstacks_k27_whole_raised_again_and_ag.main.file = true := id (T.c.more 23 (f := fun K => supB K (f_Runner_init K) (a_Runner K) PySem.Challenge.pw_exitstacks_k27_whole_raised_again_and_ag.main.file))
theorem Tx.w_Runner_init (T : Tx w K mg) : (PySem.W.clsIn K (a_Runner K)).isSome = true := id (T.c.more 24 (f := fun K => (PySem.W.clsIn K (a_Runner K)).isSome))
theorem Tx.v_Runner_s3_clear (T : Tx w K mg) : supB K (f_Runner_s3_clear K) (a_WithCore K) PySem.Challenge.pw_exitstacks_k27_whole_raised_again_and_ag.main.file = true := id (T.c.more 25 (f := fun K => supB K (f_Runner_s3_clear K) (a_WithCore K) PySem.Challenge.pw_exitstacks_k27_whole_raised_again_and_ag.main.file))
theorem Tx.w_Runner_s3_clear (T : Tx w K mg) : (PySem.W.clsIn K (a_WithCore K)).isSome = true := id (T.c.more 26 (f := fun K => (PySem.W.clsIn K (a_WithCore K)).isSome))
theorem Tx.v_Runner_s3_execute (T : Tx w K mg) : supB K (f_Runner_s3_execute K) (a_StackCore K) PySem.Challenge.pw_exitstacks_k27_whole_raised_again_and_ag.main.file = true := id (T.c.more 27 (f := fun K => supB K (f_Runner_s3_execute K) (a_StackCore K) PySem.Challenge.pw_exitstacks_k27_whole_raised_again_and_ag.main.file))
theorem Tx.w_Runner_s3_execute (T : Tx w K mg) : (PySem.W.clsIn K (a_StackCore K)).isSome = true := id (T.c.more 28 (f := fun K => (PySem.W.clsIn K (a_StackCore K)).isSome))
theorem Tx.v_WithCore_s3_execute (T : Tx w K mg) : supB K (f_WithCore_s3_execute K) (a_WithCore K) PySem.Challenge.pw_exitstacks_k27_whole_raised_again_and_ag.main.file = true := id (T.c.more 29 (f := fun K => supB K (f_WithCore_s3_execute K) (a_WithCore K) PySem.Challenge.pw_exitstacks_k27_whole_raised_again_and_ag.main.file))
theorem Tx.w_WithCore_s3_execute (T : Tx w K mg) : (PySem.W.clsIn K (a_WithCore K)).isSome = true := id (T.c.more 30 (f := fun K => (PySem.W.clsIn K (a_WithCore K)).isSome))
theorem Tx.e_any (T : Tx w K mg) : PySem.W.nsIn K cStatics "thirdparty.any" = some none := He.eqO_ok (T.c.more 31 (f := fun K => He.eqO (PySem.W.nsIn K cStatics "thirdparty.any") (some none)))
theorem Tx.tu_FIRST_KINDS (T : Tx w K mg) : He.tupB K "FIRST_KINDS" [.str "Base", .str "Exit", .str "Error", .str "Stop", .str "Name", .str "State"] = true := id (T.c.more 32 (f := fun K => He.tupB K "FIRST_KINDS" [.str "Base", .str "Exit", .str "Error", .str "Stop", .str "Name", .str "State"]))
theorem Tx.tu_FIRST_PARENTS (T : Tx w K mg) : He.tupB K "FIRST_PARENTS" [.non, .str "Base", .str "Base", .str "Error", .str "Error", .str "Error"] = true := id (T.c.more 33 (f := fun K => He.tupB K "FIRST_PARENTS" [.non, .str "Base", .str "Base", .str "Error", .str "Error", .str "Error"]))
theorem Tx.tu_BODIES (T : Tx w K mg) : He.tupB K "BODIES" [.str "body", .str "round", .str "function", .str "made"] = true := id (T.c.more 34 (f := fun K => He.tupB K "BODIES" [.str "body", .str "round", .str "function", .str "made"]))
theorem Tx.pt_note (T : Tx w K mg) : partB K "note" [.str "plain"] = true := id (T.c.more 35 (f := fun K => partB K "note" [.str "plain"]))
theorem Tx.pt_again (T : Tx w K mg) : partB K "again" [] = true := id (T.c.more 36 (f := fun K => partB K "again" []))
theorem Tx.pt_raise (T : Tx w K mg) : partB K "raise" [.str "kind", .str "label", .str "source"] = true := id (T.c.more 37 (f := fun K => partB K "raise" [.str "kind", .str "label", .str "source"]))
theorem Tx.pt_throw (T : Tx w K mg) : partB K "throw" [.str "name", .str "source"] = true := id (T.c.more 38 (f := fun K => partB K "throw" [.str "name", .str "source"]))
theorem Tx.pt_try (T : Tx w K mg) : partB K "try" [.str "body", .str "handlers", .str "body", .str "body"] = true := id (T.c.more 39 (f := fun K => partB K "try" [.str "body", .str "handlers", .str "body", .str "body"]))
theorem Tx.d_is_letter (T : Tx w K mg) : ∃ fd, FunD K r_is_letter.name r_is_letter.qual r_is_letter.params r_is_letter.body r_is_letter.scope (r_is_letter.dvs K) (r_is_letter.kws K) (f_is_letter K) fd := RD.funD (d := r_is_letter) (T.c.df 0 (d := r_is_letter)).1 (T.c.df 0 (d := r_is_letter)).2
theorem Tx.d_is_kind (T : Tx w K mg) : ∃ fd, FunD K r_is_kind.name r_is_kind.qual r_is_kind.params r_is_kind.body r_is_kind.scope (r_is_kind.dvs K) (r_is_kind.kws K) (f_is_kind K) fd := RD.funD (d := r_is_kind) (T.c.df 1 (d := r_is_kind)).1 (T.c.df 1 (d := r_is_kind)).2
theorem Tx.d_is_label (T : Tx w K mg) : ∃ fd, FunD K r_is_label.name r_is_label.qual r_is_label.params r_is_label.body r_is_label.scope (r_is_label.dvs K) (r_is_label.kws K) (f_is_label K) fd := RD.funD (d := r_is_label) (T.c.df 2 (d := r_is_label)).1 (T.c.df 2 (d := r_is_label)).2
theorem Tx.d_need_fault (T : Tx w K mg) : ∃ fd, FunD K r_need_fault.name r_need_fault.qual r_need_fault.params r_need_fault.body r_need_fault.scope (r_need_fault.dvs K) (r_need_fault.kws K) (f_need_fault K) fd := RD.funD (d := r_need_fault) (T.c.df 3 (d := r_need_fault)).1 (T.c.df 3 (d := r_need_fault)).2
theorem Tx.d_need_fault_or_none (T : Tx w K mg) : ∃ fd, FunD K r_need_fault_or_none.name r_need_fault_or_none.qual r_need_fault_or_none.params r_need_fault_or_none.body r_need_fault_or_none.scope (r_need_fault_or_none.dvs K) (r_need_fault_or_none.kws K) (f_need_fault_or_none K) fd := RD.funD (d := r_need_fault_or_none) (T.c.df 4 (d := r_need_fault_or_none)).1 (T.c.df 4 (d := r_need_fault_or_none)).2
theorem Tx.d_raise_under (T : Tx w K mg) : ∃ fd, FunD K r_raise_under.name r_raise_under.qual r_raise_under.params r_raise_under.body r_raise_under.scope (r_raise_under.dvs K) (r_raise_under.kws K) (f_raise_under K) fd := RD.funD (d := r_raise_under) (T.c.df 5 (d := r_raise_under)).1 (T.c.df 5 (d := r_raise_under)).2
theorem Tx.d_with_cause (T : Tx w K mg) : ∃ fd, FunD K r_with_cause.name r_with_cause.qual r_with_cause.params r_with_cause.body r_with_cause.scope (r_with_cause.dvs K) (r_with_cause.kws K) (f_with_cause K) fd := RD.funD (d := r_with_cause) (T.c.df 6 (d := r_with_cause)).1 (T.c.df 6 (d := r_with_cause)).2
theorem Tx.d_number_of (T : Tx w K mg) : ∃ fd, FunD K r_number_of.name r_number_of.qual r_number_of.params r_number_of.body r_number_of.scope (r_number_of.dvs K) (r_number_of.kws K) (f_number_of K) fd := RD.funD (d := r_number_of) (T.c.df 7 (d := r_number_of)).1 (T.c.df 7 (d := r_number_of)).2
theorem Tx.d_rows_of (T : Tx w K mg) : ∃ fd, FunD K r_rows_of.name r_rows_of.qual r_rows_of.params r_rows_of.body r_rows_of.scope (r_rows_of.dvs K) (r_rows_of.kws K) (f_rows_of K) fd := RD.funD (d := r_rows_of) (T.c.df 8 (d := r_rows_of)).1 (T.c.df 8 (d := r_rows_of)).2
theorem Tx.d_is_number (T : Tx w K mg) : ∃ fd, FunD K r_is_number.name r_is_number.qual r_is_number.params r_is_number.body r_is_number.scope (r_is_number.dvs K) (r_is_number.kws K) (f_is_number K) fd := RD.funD (d := r_is_number) (T.c.df 9 (d := r_is_number)).1 (T.c.df 9 (d := r_is_number)).2
theorem Tx.d_is_name (T : Tx w K mg) : ∃ fd, FunD K r_is_name.name r_is_name.qual r_is_name.params r_is_name.body r_is_name.scope (r_is_name.dvs K) (r_is_name.kws K) (f_is_name K) fd := RD.funD (d := r_is_name) (T.c.df 10 (d := r_is_name)).1 (T.c.df 10 (d := r_is_name)).2
theorem Tx.d_is_plain (T : Tx w K mg) : ∃ fd, FunD K r_is_plain.name r_is_plain.qual r_is_plain.params r_is_plain.body r_is_plain.scope (r_is_plain.dvs K) (r_is_plain.kws K) (f_is_plain K) fd := RD.funD (d := r_is_plain) (T.c.df 11 (d := r_is_plain)).1 (T.c.df 11 (d := r_is_plain)).2
theorem Tx.d_s2_parts (T : Tx w K mg) : ∃ fd, FunD K r_s2_parts.name r_s2_parts.qual r_s2_parts.params r_s2_parts.body r_s2_parts.scope (r_s2_parts.dvs K) (r_s2_parts.kws K) (f_s2_parts K) fd := RD.funD (d := r_s2_parts) (T.c.df 12 (d := r_s2_parts)).1 (T.c.df 12 (d := r_s2_parts)).2
theorem Tx.d_s2_wrong_place (T : Tx w K mg) : ∃ fd, FunD K r_s2_wrong_place.name r_s2_wrong_place.qual r_s2_wrong_place.params r_s2_wrong_place.body r_s2_wrong_place.scope (r_s2_wrong_place.dvs K) (r_s2_wrong_place.kws K) (f_s2_wrong_place K) fd := RD.funD (d := r_s2_wrong_place) (T.c.df 13 (d := r_s2_wrong_place)).1 (T.c.df 13 (d := r_s2_wrong_place)).2
theorem Tx.d_known_kinds (T : Tx w K mg) : ∃ fd, FunD K r_known_kinds.name r_known_kinds.qual r_known_kinds.params r_known_kinds.body r_known_kinds.scope (r_known_kinds.dvs K) (r_known_kinds.kws K) (f_known_kinds K) fd := RD.funD (d := r_known_kinds) (T.c.df 14 (d := r_known_kinds)).1 (T.c.df 14 (d := r_known_kinds)).2
theorem Tx.d_check_program (T : Tx w K mg) : ∃ fd, FunD K r_check_program.name r_check_program.qual r_check_program.params r_check_program.body r_check_program.scope (r_check_program.dvs K) (r_check_program.kws K) (f_check_program K) fd := RD.funD (d := r_check_program) (T.c.df 15 (d := r_check_program)).1 (T.c.df 15 (d := r_check_program)).2
theorem Tx.d_l_begun (T : Tx w K mg) : ∃ fd, FunD K r_l_begun.name r_l_begun.qual r_l_begun.params r_l_begun.body r_l_begun.scope (r_l_begun.dvs K) (r_l_begun.kws K) (f_l_begun K) fd := RD.funD (d := r_l_begun) (T.c.df 16 (d := r_l_begun)).1 (T.c.df 16 (d := r_l_begun)).2
theorem Tx.d_l_next (T : Tx w K mg) : ∃ fd, FunD K r_l_next.name r_l_next.qual r_l_next.params r_l_next.body r_l_next.scope (r_l_next.dvs K) (r_l_next.kws K) (f_l_next K) fd := RD.funD (d := r_l_next) (T.c.df 17 (d := r_l_next)).1 (T.c.df 17 (d := r_l_next)).2
theorem Tx.d_l_pick (T : Tx w K mg) : ∃ fd, FunD K r_l_pick.name r_l_pick.qual r_l_pick.params r_l_pick.body r_l_pick.scope (r_l_pick.dvs K) (r_l_pick.kws K) (f_l_pick K) fd := RD.funD (d := r_l_pick) (T.c.df 18 (d := r_l_pick)).1 (T.c.df 18 (d := r_l_pick)).2
theorem Tx.d_l_tree (T : Tx w K mg) : ∃ fd, FunD K r_l_tree.name r_l_tree.qual r_l_tree.params r_l_tree.body r_l_tree.scope (r_l_tree.dvs K) (r_l_tree.kws K) (f_l_tree K) fd := RD.funD (d := r_l_tree) (T.c.df 19 (d := r_l_tree)).1 (T.c.df 19 (d := r_l_tree)).2
theorem Tx.d_l_fits (T : Tx w K mg) : ∃ fd, FunD K r_l_fits.name r_l_fits.qual r_l_fits.params r_l_fits.body r_l_fits.scope (r_l_fits.dvs K) (r_l_fits.kws K) (f_l_fits K) fd := RD.funD (d := r_l_fits) (T.c.df 20 (d := r_l_fits)).1 (T.c.df 20 (d := r_l_fits)).2
theorem Tx.d_l_fresh (T : Tx w K mg) : ∃ fd, FunD K r_l_fresh.name r_l_fresh.qual r_l_fresh.params r_l_fresh.body r_l_fresh.scope (r_l_fresh.dvs K) (r_l_fresh.kws K) (f_l_fresh K) fd := RD.funD (d := r_l_fresh) (T.c.df 21 (d := r_l_fresh)).1 (T.c.df 21 (d := r_l_fresh)).2
theorem Tx.d_l_made (T : Tx w K mg) : ∃ fd, FunD K r_l_made.name r_l_made.qual r_l_made.params r_l_made.body r_l_made.scope (r_l_made.dvs K) (r_l_made.kws K) (f_l_made K) fd := RD.funD (d := r_l_made) (T.c.df 22 (d := r_l_made)).1 (T.c.df 22 (d := r_l_made)).2
theorem Tx.d_l_raised (T : Tx w K mg) : ∃ fd, FunD K r_l_raised.name r_l_raised.qual r_l_raised.params r_l_raised.body r_l_raised.scope (r_l_raised.dvs K) (r_l_raised.kws K) (f_l_raised K) fd := RD.funD (d := r_l_raised) (T.c.df 23 (d := r_l_raised)).1 (T.c.df 23 (d := r_l_raised)).2
theorem Tx.d_l_at (T : Tx w K mg) : ∃ fd, FunD K r_l_at.name r_l_at.qual r_l_at.params r_l_at.body r_l_at.scope (r_l_at.dvs K) (r_l_at.kws K) (f_l_at K) fd := RD.funD (d := r_l_at) (T.c.df 24 (d := r_l_at)).1 (T.c.df 24 (d := r_l_at)).2
theorem Tx.d_l_raising (T : Tx w K mg) : ∃ fd, FunD K r_l_raising.name r_l_raising.qual r_l_raising.params r_l_raising.body r_l_raising.scope (r_l_raising.dvs K) (r_l_raising.kws K) (f_l_raising K) fd := RD.funD (d := r_l_raising) (T.c.df 25 (d := r_l_raising)).1 (T.c.df 25 (d := r_l_raising)).2
theorem Tx.d_l_try (T : Tx w K mg) : ∃ fd, FunD K r_l_try.name r_l_try.qual r_l_try.params r_l_try.body r_l_try.scope (r_l_try.dvs K) (r_l_try.kws K) (f_l_try K) fd := RD.funD (d := r_l_try) (T.c.df 26 (d := r_l_try)).1 (T.c.df 26 (d := r_l_try)).2
theorem Tx.d_l_statement (T : Tx w K mg) : ∃ fd, FunD K r_l_statement.name r_l_statement.qual r_l_statement.params r_l_statement.body r_l_statement.scope (r_l_statement.dvs K) (r_l_statement.kws K) (f_l_statement K) fd := RD.funD (d := r_l_statement) (T.c.df 27 (d := r_l_statement)).1 (T.c.df 27 (d := r_l_statement)).2
theorem Tx.d_l_body (T : Tx w K mg) : ∃ fd, FunD K r_l_body.name r_l_body.qual r_l_body.params r_l_body.body r_l_body.scope (r_l_body.dvs K) (r_l_body.kws K) (f_l_body K) fd := RD.funD (d := r_l_body) (T.c.df 28 (d := r_l_body)).1 (T.c.df 28 (d := r_l_body)).2
theorem Tx.d_l_number (T : Tx w K mg) : ∃ fd, FunD K r_l_number.name r_l_number.qual r_l_number.params r_l_number.body r_l_number.scope (r_l_number.dvs K) (r_l_number.kws K) (f_l_number K) fd := RD.funD (d := r_l_number) (T.c.df 29 (d := r_l_number)).1 (T.c.df 29 (d := r_l_number)).2
theorem Tx.d_l_rows (T : Tx w K mg) : ∃ fd, FunD K r_l_rows.name r_l_rows.qual r_l_rows.params r_l_rows.body r_l_rows.scope (r_l_rows.dvs K) (r_l_rows.kws K) (f_l_rows K) fd := RD.funD (d := r_l_rows) (T.c.df 30 (d := r_l_rows)).1 (T.c.df 30 (d := r_l_rows)).2
theorem Tx.d_l_same (T : Tx w K mg) : ∃ fd, FunD K r_l_same.name r_l_same.qual r_l_same.params r_l_same.body r_l_same.scope (r_l_same.dvs K) (r_l_same.kws K) (f_l_same K) fd := RD.funD (d := r_l_same) (T.c.df 31 (d := r_l_same)).1 (T.c.df 31 (d := r_l_same)).2
theorem Tx.d_l_throws (T : Tx w K mg) : ∃ fd, FunD K r_l_throws.name r_l_throws.qual r_l_throws.params r_l_throws.body r_l_throws.scope (r_l_throws.dvs K) (r_l_throws.kws K) (f_l_throws K) fd := RD.funD (d := r_l_throws) (T.c.df 32 (d := r_l_throws)).1 (T.c.df 32 (d := r_l_throws)).2
theorem Tx.d_l_nest (T : Tx w K mg) : ∃ fd, FunD K r_l_nest.name r_l_nest.qual r_l_nest.params r_l_nest.body r_l_nest.scope (r_l_nest.dvs K) (r_l_nest.kws K) (f_l_nest K) fd := RD.funD (d := r_l_nest) (T.c.df 33 (d := r_l_nest)).1 (T.c.df 33 (d := r_l_nest)).2
theorem Tx.d_l_turns (T : Tx w K mg) : ∃ fd, FunD K r_l_turns.name r_l_turns.qual r_l_turns.params r_l_turns.body r_l_turns.scope (r_l_turns.dvs K) (r_l_turns.kws K) (f_l_turns K) fd := RD.funD (d := r_l_turns) (T.c.df 34 (d := r_l_turns)).1 (T.c.df 34 (d := r_l_turns)).2
theorem Tx.d_law (T : Tx w K mg) : ∃ fd, FunD K r_law.name r_law.qual r_law.params r_law.body r_law.scope (r_law.dvs K) (r_law.kws K) (f_law K) fd := RD.funD (d := r_law) (T.c.df 35 (d := r_law)).1 (T.c.df 35 (d := r_law)).2
theorem Tx.d_KindTree_init (T : Tx w K mg) : ∃ fd, FunD K r_KindTree_init.name r_KindTree_init.qual r_KindTree_init.params r_KindTree_init.body r_KindTree_init.scope (r_KindTree_init.dvs K) (r_KindTree_init.kws K) (f_KindTree_init K) fd := RD.funD (d := r_KindTree_init) (T.c.df 36 (d := r_KindTree_init)).1 (T.c.df 36 (d := r_KindTree_init)).2
theorem Tx.d_KindTree_is_known (T : Tx w K mg) : ∃ fd, FunD K r_KindTree_is_known.name r_KindTree_is_known.qual r_KindTree_is_known.params r_KindTree_is_known.body r_KindTree_is_known.scope (r_KindTree_is_known.dvs K) (r_KindTree_is_known.kws K) (f_KindTree_is_known K) fd := RD.funD (d := r_KindTree_is_known) (T.c.df 37 (d := r_KindTree_is_known)).1 (T.c.df 37 (d := r_KindTree_is_known)).2
theorem Tx.d_KindTree_s1_need (T : Tx w K mg) : ∃ fd, FunD K r_KindTree_s1_need.name r_KindTree_s1_need.qual r_KindTree_s1_need.params r_KindTree_s1_need.body r_KindTree_s1_need.scope (r_KindTree_s1_need.dvs K) (r_KindTree_s1_need.kws K) (f_KindTree_s1_need K) fd := RD.funD (d := r_KindTree_s1_need) (T.c.df 38 (d := r_KindTree_s1_need)).1 (T.c.df 38 (d := r_KindTree_s1_need)).2
theorem Tx.d_KindTree_fits (T : Tx w K mg) : ∃ fd, FunD K r_KindTree_fits.name r_KindTree_fits.qual r_KindTree_fits.params r_KindTree_fits.body r_KindTree_fits.scope (r_KindTree_fits.dvs K) (r_KindTree_fits.kws K) (f_KindTree_fits K) fd := RD.funD (d := r_KindTree_fits) (T.c.df 39 (d := r_KindTree_fits)).1 (T.c.df 39 (d := r_KindTree_fits)).2
theorem Tx.d_Fault_init (T : Tx w K mg) : ∃ fd, FunD K r_Fault_init.name r_Fault_init.qual r_Fault_init.params r_Fault_init.body r_Fault_init.scope (r_Fault_init.dvs K) (r_Fault_init.kws K) (f_Fault_init K) fd := RD.funD (d := r_Fault_init) (T.c.df 40 (d := r_Fault_init)).1 (T.c.df 40 (d := r_Fault_init)).2
theorem Tx.d_S2Check_init (T : Tx w K mg) : ∃ fd, FunD K r_S2Check_init.name r_S2Check_init.qual r_S2Check_init.params r_S2Check_init.body r_S2Check_init.scope (r_S2Check_init.dvs K) (r_S2Check_init.kws K) (f_S2Check_init K) fd := RD.funD (d := r_S2Check_init) (T.c.df 41 (d := r_S2Check_init)).1 (T.c.df 41 (d := r_S2Check_init)).2
theorem Tx.d_S2Check_s2_knows (T : Tx w K mg) : ∃ fd, FunD K r_S2Check_s2_knows.name r_S2Check_s2_knows.qual r_S2Check_s2_knows.params r_S2Check_s2_knows.body r_S2Check_s2_knows.scope (r_S2Check_s2_knows.dvs K) (r_S2Check_s2_knows.kws K) (f_S2Check_s2_knows K) fd := RD.funD (d := r_S2Check_s2_knows) (T.c.df 42 (d := r_S2Check_s2_knows)).1 (T.c.df 42 (d := r_S2Check_s2_knows)).2
theorem Tx.d_S2Check_s2_item_fits (T : Tx w K mg) : ∃ fd, FunD K r_S2Check_s2_item_fits.name r_S2Check_s2_item_fits.qual r_S2Check_s2_item_fits.params r_S2Check_s2_item_fits.body r_S2Check_s2_item_fits.scope (r_S2Check_s2_item_fits.dvs K) (r_S2Check_s2_item_fits.kws K) (f_S2Check_s2_item_fits K) fd := RD.funD (d := r_S2Check_s2_item_fits) (T.c.df 43 (d := r_S2Check_s2_item_fits)).1 (T.c.df 43 (d := r_S2Check_s2_item_fits)).2
theorem Tx.d_S2Check_s2_wrong_body (T : Tx w K mg) : ∃ fd, FunD K r_S2Check_s2_wrong_body.name r_S2Check_s2_wrong_body.qual r_S2Check_s2_wrong_body.params r_S2Check_s2_wrong_body.body r_S2Check_s2_wrong_body.scope (r_S2Check_s2_wrong_body.dvs K) (r_S2Check_s2_wrong_body.kws K) (f_S2Check_s2_wrong_body K) fd := RD.funD (d := r_S2Check_s2_wrong_body) (T.c.df 44 (d := r_S2Check_s2_wrong_body)).1 (T.c.df 44 (d := r_S2Check_s2_wrong_body)).2
theorem Tx.d_S2Check_s2_wrong_statement (T : Tx w K mg) : ∃ fd, FunD K r_S2Check_s2_wrong_statement.name r_S2Check_s2_wrong_statement.qual r_S2Check_s2_wrong_statement.params r_S2Check_s2_wrong_statement.body r_S2Check_s2_wrong_statement.scope (r_S2Check_s2_wrong_statement.dvs K) (r_S2Check_s2_wrong_statement.kws K) (f_S2Check_s2_wrong_statement K) fd := RD.funD (d := r_S2Check_s2_wrong_statement) (T.c.df 45 (d := r_S2Check_s2_wrong_statement)).1 (T.c.df 45 (d := r_S2Check_s2_wrong_statement)).2
theorem Tx.d_S2Check_s2_wrong_item (T : Tx w K mg) : ∃ fd, FunD K r_S2Check_s2_wrong_item.name r_S2Check_s2_wrong_item.qual r_S2Check_s2_wrong_item.params r_S2Check_s2_wrong_item.body r_S2Check_s2_wrong_item.scope (r_S2Check_s2_wrong_item.dvs K) (r_S2Check_s2_wrong_item.kws K) (f_S2Check_s2_wrong_item K) fd := RD.funD (d := r_S2Check_s2_wrong_item) (T.c.df 46 (d := r_S2Check_s2_wrong_item)).1 (T.c.df 46 (d := r_S2Check_s2_wrong_item)).2
theorem Tx.d_S2Check_s2_wrong_handlers (T : Tx w K mg) : ∃ fd, FunD K r_S2Check_s2_wrong_handlers.name r_S2Check_s2_wrong_handlers.qual r_S2Check_s2_wrong_handlers.params r_S2Check_s2_wrong_handlers.body r_S2Check_s2_wrong_handlers.scope (r_S2Check_s2_wrong_handlers.dvs K) (r_S2Check_s2_wrong_handlers.kws K) (f_S2Check_s2_wrong_handlers K) fd := RD.funD (d := r_S2Check_s2_wrong_handlers) (T.c.df 47 (d := r_S2Check_s2_wrong_handlers)).1 (T.c.df 47 (d := r_S2Check_s2_wrong_handlers)).2
theorem Tx.d_Outcome_init (T : Tx w K mg) : ∃ fd, FunD K r_Outcome_init.name r_Outcome_init.qual r_Outcome_init.params r_Outcome_init.body r_Outcome_init.scope (r_Outcome_init.dvs K) (r_Outcome_init.kws K) (f_Outcome_init K) fd := RD.funD (d := r_Outcome_init) (T.c.df 48 (d := r_Outcome_init)).1 (T.c.df 48 (d := r_Outcome_init)).2
theorem Tx.d_BodyFrame_init (T : Tx w K mg) : ∃ fd, FunD K r_BodyFrame_init.name r_BodyFrame_init.qual r_BodyFrame_init.params r_BodyFrame_init.body r_BodyFrame_init.scope (r_BodyFrame_init.dvs K) (r_BodyFrame_init.kws K) (f_BodyFrame_init K) fd := RD.funD (d := r_BodyFrame_init) (T.c.df 49 (d := r_BodyFrame_init)).1 (T.c.df 49 (d := r_BodyFrame_init)).2
theorem Tx.d_BodyFrame_step (T : Tx w K mg) : ∃ fd, FunD K r_BodyFrame_step.name r_BodyFrame_step.qual r_BodyFrame_step.params r_BodyFrame_step.body r_BodyFrame_step.scope (r_BodyFrame_step.dvs K) (r_BodyFrame_step.kws K) (f_BodyFrame_step K) fd := RD.funD (d := r_BodyFrame_step) (T.c.df 50 (d := r_BodyFrame_step)).1 (T.c.df 50 (d := r_BodyFrame_step)).2
theorem Tx.d_BodyFrame_ended (T : Tx w K mg) : ∃ fd, FunD K r_BodyFrame_ended.name r_BodyFrame_ended.qual r_BodyFrame_ended.params r_BodyFrame_ended.body r_BodyFrame_ended.scope (r_BodyFrame_ended.dvs K) (r_BodyFrame_ended.kws K) (f_BodyFrame_ended K) fd := RD.funD (d := r_BodyFrame_ended) (T.c.df 51 (d := r_BodyFrame_ended)).1 (T.c.df 51 (d := r_BodyFrame_ended)).2
theorem Tx.d_TryFrame_init (T : Tx w K mg) : ∃ fd, FunD K r_TryFrame_init.name r_TryFrame_init.qual r_TryFrame_init.params r_TryFrame_init.body r_TryFrame_init.scope (r_TryFrame_init.dvs K) (r_TryFrame_init.kws K) (f_TryFrame_init K) fd := RD.funD (d := r_TryFrame_init) (T.c.df 52 (d := r_TryFrame_init)).1 (T.c.df 52 (d := r_TryFrame_init)).2
theorem Tx.d_TryFrame_s3_begin (T : Tx w K mg) : ∃ fd, FunD K r_TryFrame_s3_begin.name r_TryFrame_s3_begin.qual r_TryFrame_s3_begin.params r_TryFrame_s3_begin.body r_TryFrame_s3_begin.scope (r_TryFrame_s3_begin.dvs K) (r_TryFrame_s3_begin.kws K) (f_TryFrame_s3_begin K) fd := RD.funD (d := r_TryFrame_s3_begin) (T.c.df 53 (d := r_TryFrame_s3_begin)).1 (T.c.df 53 (d := r_TryFrame_s3_begin)).2
theorem Tx.d_TryFrame_step (T : Tx w K mg) : ∃ fd, FunD K r_TryFrame_step.name r_TryFrame_step.qual r_TryFrame_step.params r_TryFrame_step.body r_TryFrame_step.scope (r_TryFrame_step.dvs K) (r_TryFrame_step.kws K) (f_TryFrame_step K) fd := RD.funD (d := r_TryFrame_step) (T.c.df 54 (d := r_TryFrame_step)).1 (T.c.df 54 (d := r_TryFrame_step)).2
theorem Tx.d_TryFrame_ended (T : Tx w K mg) : ∃ fd, FunD K r_TryFrame_ended.name r_TryFrame_ended.qual r_TryFrame_ended.params r_TryFrame_ended.body r_TryFrame_ended.scope (r_TryFrame_ended.dvs K) (r_TryFrame_ended.kws K) (f_TryFrame_ended K) fd := RD.funD (d := r_TryFrame_ended) (T.c.df 55 (d := r_TryFrame_ended)).1 (T.c.df 55 (d := r_TryFrame_ended)).2
theorem Tx.d_TryFrame_s3_is_handled (T : Tx w K mg) : ∃ fd, FunD K r_TryFrame_s3_is_handled.name r_TryFrame_s3_is_handled.qual r_TryFrame_s3_is_handled.params r_TryFrame_s3_is_handled.body r_TryFrame_s3_is_handled.scope (r_TryFrame_s3_is_handled.dvs K) (r_TryFrame_s3_is_handled.kws K) (f_TryFrame_s3_is_handled K) fd := RD.funD (d := r_TryFrame_s3_is_handled) (T.c.df 56 (d := r_TryFrame_s3_is_handled)).1 (T.c.df 56 (d := r_TryFrame_s3_is_handled)).2
theorem Tx.d_Activation_init (T : Tx w K mg) : ∃ fd, FunD K r_Activation_init.name r_Activation_init.qual r_Activation_init.params r_Activation_init.body r_Activation_init.scope (r_Activation_init.dvs K) (r_Activation_init.kws K) (f_Activation_init K) fd := RD.funD (d := r_Activation_init) (T.c.df 57 (d := r_Activation_init)).1 (T.c.df 57 (d := r_Activation_init)).2
theorem Tx.d_Runner_init (T : Tx w K mg) : ∃ fd G, SFun PySem.Challenge.pw_exitstacks_k27_whole_raised_again_and_ag K r_Runner_init.name r_Runner_init.qual r_Runner_init.params r_Runner_init.body r_Runner_init.scope (a_Runner K) (r_Runner_init.dvs K) (r_Runner_init.kws K) (f_Runner_init K) fd G ∧ G.name = r_Runner_init.name ∧ G.qual = r_Runner_init.qual ∧ G.params = r_Runner_init.params ∧ G.body = r_Runner_init.body ∧ G.scope = r_Runner_init.scope := RD.sfun (d := r_Runner_init) (T.c.df 58 (d := r_Runner_init)).1 (T.c.df 58 (d := r_Runner_init)).2 (T.v_Runner_init)
theorem Tx.d_Runner_s3_clear (T : Tx w K mg) : ∃ fd G, SFun PySem.Challenge.pw_exitstacks_k27_whole_raised_again_and_ag K r_Runner_s3_clear.name r_Runner_s3_clear.qual r_Runner_s3_clear.params r_Runner_s3_clear.body r_Runner_s3_clear.scope (a_WithCore K) (r_Runner_s3_clear.dvs K) (r_Runner_s3_clear.kws K) (f_Runner_s3_clear K) fd G ∧ G.name = r_Runner_s3_clear.name ∧ G.qual = r_Runner_s3_clear.qual ∧ G.params = r_Runner_s3_clear.params ∧ G.body = r_Runner_s3_clear.body ∧ G.scope = r_Runner_s3_clear.scope := RD.sfun (d := r_Runner_s3_clear) (T.c.df 59 (d := r_Runner_s3_clear)).1 (T.c.df 59 (d := r_Runner_s3_clear)).2 (T.v_Runner_s3_clear)
theorem Tx.d_Runner_s3_run (T : Tx w K mg) : ∃ fd, FunD K r_Runner_s3_run.name r_Runner_s3_run.qual r_Runner_s3_run.params r_Runner_s3_run.body r_Runner_s3_run.scope (r_Runner_s3_run.dvs K) (r_Runner_s3_run.kws K) (f_Runner_s3_run K) fd := RD.funD (d := r_Runner_s3_run) (T.c.df 60 (d := r_Runner_s3_run)).1 (T.c.df 60 (d := r_Runner_s3_run)).2
theorem Tx.d_Runner_s3_begin_statement (T : Tx w K mg) : ∃ fd, FunD K r_Runner_s3_begin_statement.name r_Runner_s3_begin_statement.qual r_Runner_s3_begin_statement.params r_Runner_s3_begin_statement.body r_Runner_s3_begin_statement.scope (r_Runner_s3_begin_statement.dvs K) (r_Runner_s3_begin_statement.kws K) (f_Runner_s3_begin_statement K) fd := RD.funD (d := r_Runner_s3_begin_statement) (T.c.df 61 (d := r_Runner_s3_begin_statement)).1 (T.c.df 61 (d := r_Runner_s3_begin_statement)).2
theorem Tx.d_Runner_s3_now (T : Tx w K mg) : ∃ fd, FunD K r_Runner_s3_now.name r_Runner_s3_now.qual r_Runner_s3_now.params r_Runner_s3_now.body r_Runner_s3_now.scope (r_Runner_s3_now.dvs K) (r_Runner_s3_now.kws K) (f_Runner_s3_now K) fd := RD.funD (d := r_Runner_s3_now) (T.c.df 62 (d := r_Runner_s3_now)).1 (T.c.df 62 (d := r_Runner_s3_now)).2
theorem Tx.d_Runner_s3_made (T : Tx w K mg) : ∃ fd, FunD K r_Runner_s3_made.name r_Runner_s3_made.qual r_Runner_s3_made.params r_Runner_s3_made.body r_Runner_s3_made.scope (r_Runner_s3_made.dvs K) (r_Runner_s3_made.kws K) (f_Runner_s3_made K) fd := RD.funD (d := r_Runner_s3_made) (T.c.df 63 (d := r_Runner_s3_made)).1 (T.c.df 63 (d := r_Runner_s3_made)).2
theorem Tx.d_Runner_s3_raised (T : Tx w K mg) : ∃ fd, FunD K r_Runner_s3_raised.name r_Runner_s3_raised.qual r_Runner_s3_raised.params r_Runner_s3_raised.body r_Runner_s3_raised.scope (r_Runner_s3_raised.dvs K) (r_Runner_s3_raised.kws K) (f_Runner_s3_raised K) fd := RD.funD (d := r_Runner_s3_raised) (T.c.df 64 (d := r_Runner_s3_raised)).1 (T.c.df 64 (d := r_Runner_s3_raised)).2
theorem Tx.d_Runner_s3_fail (T : Tx w K mg) : ∃ fd, FunD K r_Runner_s3_fail.name r_Runner_s3_fail.qual r_Runner_s3_fail.params r_Runner_s3_fail.body r_Runner_s3_fail.scope (r_Runner_s3_fail.dvs K) (r_Runner_s3_fail.kws K) (f_Runner_s3_fail K) fd := RD.funD (d := r_Runner_s3_fail) (T.c.df 65 (d := r_Runner_s3_fail)).1 (T.c.df 65 (d := r_Runner_s3_fail)).2
theorem Tx.d_Runner_s3_call (T : Tx w K mg) : ∃ fd, FunD K r_Runner_s3_call.name r_Runner_s3_call.qual r_Runner_s3_call.params r_Runner_s3_call.body r_Runner_s3_call.scope (r_Runner_s3_call.dvs K) (r_Runner_s3_call.kws K) (f_Runner_s3_call K) fd := RD.funD (d := r_Runner_s3_call) (T.c.df 66 (d := r_Runner_s3_call)).1 (T.c.df 66 (d := r_Runner_s3_call)).2
theorem Tx.d_Runner_s3_advance (T : Tx w K mg) : ∃ fd, FunD K r_Runner_s3_advance.name r_Runner_s3_advance.qual r_Runner_s3_advance.params r_Runner_s3_advance.body r_Runner_s3_advance.scope (r_Runner_s3_advance.dvs K) (r_Runner_s3_advance.kws K) (f_Runner_s3_advance K) fd := RD.funD (d := r_Runner_s3_advance) (T.c.df 67 (d := r_Runner_s3_advance)).1 (T.c.df 67 (d := r_Runner_s3_advance)).2
theorem Tx.d_Runner_s3_fault_at (T : Tx w K mg) : ∃ fd, FunD K r_Runner_s3_fault_at.name r_Runner_s3_fault_at.qual r_Runner_s3_fault_at.params r_Runner_s3_fault_at.body r_Runner_s3_fault_at.scope (r_Runner_s3_fault_at.dvs K) (r_Runner_s3_fault_at.kws K) (f_Runner_s3_fault_at K) fd := RD.funD (d := r_Runner_s3_fault_at) (T.c.df 68 (d := r_Runner_s3_fault_at)).1 (T.c.df 68 (d := r_Runner_s3_fault_at)).2
theorem Tx.d_Runner_s3_execute (T : Tx w K mg) : ∃ fd G, SFun PySem.Challenge.pw_exitstacks_k27_whole_raised_again_and_ag K r_Runner_s3_execute.name r_Runner_s3_execute.qual r_Runner_s3_execute.params r_Runner_s3_execute.body r_Runner_s3_execute.scope (a_StackCore K) (r_Runner_s3_execute.dvs K) (r_Runner_s3_execute.kws K) (f_Runner_s3_execute K) fd G ∧ G.name = r_Runner_s3_execute.name ∧ G.qual = r_Runner_s3_execute.qual ∧ G.params = r_Runner_s3_execute.params ∧ G.body = r_Runner_s3_execute.body ∧ G.scope = r_Runner_s3_execute.scope := RD.sfun (d := r_Runner_s3_execute) (T.c.df 69 (d := r_Runner_s3_execute)).1 (T.c.df 69 (d := r_Runner_s3_execute)).2 (T.v_Runner_s3_execute)
theorem Tx.d_Runner_s3_raising (T : Tx w K mg) : ∃ fd, FunD K r_Runner_s3_raising.name r_Runner_s3_raising.qual r_Runner_s3_raising.params r_Runner_s3_raising.body r_Runner_s3_raising.scope (r_Runner_s3_raising.dvs K) (r_Runner_s3_raising.kws K) (f_Runner_s3_raising K) fd := RD.funD (d := r_Runner_s3_raising) (T.c.df 70 (d := r_Runner_s3_raising)).1 (T.c.df 70 (d := r_Runner_s3_raising)).2
theorem Tx.d_Runner_run (T : Tx w K mg) : ∃ fd, FunD K r_Runner_run.name r_Runner_run.qual r_Runner_run.params r_Runner_run.body r_Runner_run.scope (r_Runner_run.dvs K) (r_Runner_run.kws K) (f_Runner_run K) fd := RD.funD (d := r_Runner_run) (T.c.df 71 (d := r_Runner_run)).1 (T.c.df 71 (d := r_Runner_run)).2
theorem Tx.d_Runner_s6_check (T : Tx w K mg) : ∃ fd, FunD K r_Runner_s6_check.name r_Runner_s6_check.qual r_Runner_s6_check.params r_Runner_s6_check.body r_Runner_s6_check.scope (r_Runner_s6_check.dvs K) (r_Runner_s6_check.kws K) (f_Runner_s6_check K) fd := RD.funD (d := r_Runner_s6_check) (T.c.df 72 (d := r_Runner_s6_check)).1 (T.c.df 72 (d := r_Runner_s6_check)).2
theorem Tx.d_Core_init (T : Tx w K mg) : ∃ fd, FunD K r_Core_init.name r_Core_init.qual r_Core_init.params r_Core_init.body r_Core_init.scope (r_Core_init.dvs K) (r_Core_init.kws K) (f_Core_init K) fd := RD.funD (d := r_Core_init) (T.c.df 73 (d := r_Core_init)).1 (T.c.df 73 (d := r_Core_init)).2
theorem Tx.d_WithCore_s3_execute (T : Tx w K mg) : ∃ fd G, SFun PySem.Challenge.pw_exitstacks_k27_whole_raised_again_and_ag K r_WithCore_s3_execute.name r_WithCore_s3_execute.qual r_WithCore_s3_execute.params r_WithCore_s3_execute.body r_WithCore_s3_execute.scope (a_WithCore K) (r_WithCore_s3_execute.dvs K) (r_WithCore_s3_execute.kws K) (f_WithCore_s3_execute K) fd G ∧ G.name = r_WithCore_s3_execute.name ∧ G.qual = r_WithCore_s3_execute.qual ∧ G.params = r_WithCore_s3_execute.params ∧ G.body = r_WithCore_s3_execute.body ∧ G.scope = r_WithCore_s3_execute.scope := RD.sfun (d := r_WithCore_s3_execute) (T.c.df 74 (d := r_WithCore_s3_execute)).1 (T.c.df 74 (d := r_WithCore_s3_execute)).2 (T.v_WithCore_s3_execute)
theorem Tx.d_Core_s3_execute (T : Tx w K mg) : ∃ fd, FunD K r_Core_s3_execute.name r_Core_s3_execute.qual r_Core_s3_execute.params r_Core_s3_execute.body r_Core_s3_execute.scope (r_Core_s3_execute.dvs K) (r_Core_s3_execute.kws K) (f_Core_s3_execute K) fd := RD.funD (d := r_Core_s3_execute) (T.c.df 75 (d := r_Core_s3_execute)).1 (T.c.df 75 (d := r_Core_s3_execute)).2
theorem Tx.d_Core_s3_clear (T : Tx w K mg) : ∃ fd, FunD K r_Core_s3_clear.name r_Core_s3_clear.qual r_Core_s3_clear.params r_Core_s3_clear.body r_Core_s3_clear.scope (r_Core_s3_clear.dvs K) (r_Core_s3_clear.kws K) (f_Core_s3_clear K) fd := RD.funD (d := r_Core_s3_clear) (T.c.df 76 (d := r_Core_s3_clear)).1 (T.c.df 76 (d := r_Core_s3_clear)).2
theorem Tx.d_KindTree_kinds (T : Tx w K mg) : ∃ fd, FunD K r_KindTree_kinds.name r_KindTree_kinds.qual r_KindTree_kinds.params r_KindTree_kinds.body r_KindTree_kinds.scope (r_KindTree_kinds.dvs K) (r_KindTree_kinds.kws K) (f_KindTree_kinds K) fd := RD.funD (d := r_KindTree_kinds) (T.c.df 77 (d := r_KindTree_kinds)).1 (T.c.df 77 (d := r_KindTree_kinds)).2
theorem Tx.d_Fault_kind (T : Tx w K mg) : ∃ fd, FunD K r_Fault_kind.name r_Fault_kind.qual r_Fault_kind.params r_Fault_kind.body r_Fault_kind.scope (r_Fault_kind.dvs K) (r_Fault_kind.kws K) (f_Fault_kind K) fd := RD.funD (d := r_Fault_kind) (T.c.df 78 (d := r_Fault_kind)).1 (T.c.df 78 (d := r_Fault_kind)).2
theorem Tx.d_Fault_label (T : Tx w K mg) : ∃ fd, FunD K r_Fault_label.name r_Fault_label.qual r_Fault_label.params r_Fault_label.body r_Fault_label.scope (r_Fault_label.dvs K) (r_Fault_label.kws K) (f_Fault_label K) fd := RD.funD (d := r_Fault_label) (T.c.df 79 (d := r_Fault_label)).1 (T.c.df 79 (d := r_Fault_label)).2
theorem Tx.d_Fault_number (T : Tx w K mg) : ∃ fd, FunD K r_Fault_number.name r_Fault_number.qual r_Fault_number.params r_Fault_number.body r_Fault_number.scope (r_Fault_number.dvs K) (r_Fault_number.kws K) (f_Fault_number K) fd := RD.funD (d := r_Fault_number) (T.c.df 80 (d := r_Fault_number)).1 (T.c.df 80 (d := r_Fault_number)).2
theorem Tx.d_Fault_context (T : Tx w K mg) : ∃ fd, FunD K r_Fault_context.name r_Fault_context.qual r_Fault_context.params r_Fault_context.body r_Fault_context.scope (r_Fault_context.dvs K) (r_Fault_context.kws K) (f_Fault_context K) fd := RD.funD (d := r_Fault_context) (T.c.df 81 (d := r_Fault_context)).1 (T.c.df 81 (d := r_Fault_context)).2
theorem Tx.d_Fault_cause (T : Tx w K mg) : ∃ fd, FunD K r_Fault_cause.name r_Fault_cause.qual r_Fault_cause.params r_Fault_cause.body r_Fault_cause.scope (r_Fault_cause.dvs K) (r_Fault_cause.kws K) (f_Fault_cause K) fd := RD.funD (d := r_Fault_cause) (T.c.df 82 (d := r_Fault_cause)).1 (T.c.df 82 (d := r_Fault_cause)).2
theorem Tx.d_Fault_hides (T : Tx w K mg) : ∃ fd, FunD K r_Fault_hides.name r_Fault_hides.qual r_Fault_hides.params r_Fault_hides.body r_Fault_hides.scope (r_Fault_hides.dvs K) (r_Fault_hides.kws K) (f_Fault_hides K) fd := RD.funD (d := r_Fault_hides) (T.c.df 83 (d := r_Fault_hides)).1 (T.c.df 83 (d := r_Fault_hides)).2
theorem Tx.d_Outcome_way (T : Tx w K mg) : ∃ fd, FunD K r_Outcome_way.name r_Outcome_way.qual r_Outcome_way.params r_Outcome_way.body r_Outcome_way.scope (r_Outcome_way.dvs K) (r_Outcome_way.kws K) (f_Outcome_way K) fd := RD.funD (d := r_Outcome_way) (T.c.df 84 (d := r_Outcome_way)).1 (T.c.df 84 (d := r_Outcome_way)).2
theorem Tx.d_Outcome_returned (T : Tx w K mg) : ∃ fd, FunD K r_Outcome_returned.name r_Outcome_returned.qual r_Outcome_returned.params r_Outcome_returned.body r_Outcome_returned.scope (r_Outcome_returned.dvs K) (r_Outcome_returned.kws K) (f_Outcome_returned K) fd := RD.funD (d := r_Outcome_returned) (T.c.df 85 (d := r_Outcome_returned)).1 (T.c.df 85 (d := r_Outcome_returned)).2
theorem Tx.d_Outcome_fault (T : Tx w K mg) : ∃ fd, FunD K r_Outcome_fault.name r_Outcome_fault.qual r_Outcome_fault.params r_Outcome_fault.body r_Outcome_fault.scope (r_Outcome_fault.dvs K) (r_Outcome_fault.kws K) (f_Outcome_fault K) fd := RD.funD (d := r_Outcome_fault) (T.c.df 86 (d := r_Outcome_fault)).1 (T.c.df 86 (d := r_Outcome_fault)).2
theorem Tx.d_Runner_log (T : Tx w K mg) : ∃ fd, FunD K r_Runner_log.name r_Runner_log.qual r_Runner_log.params r_Runner_log.body r_Runner_log.scope (r_Runner_log.dvs K) (r_Runner_log.kws K) (f_Runner_log K) fd := RD.funD (d := r_Runner_log) (T.c.df 87 (d := r_Runner_log)).1 (T.c.df 87 (d := r_Runner_log)).2
theorem Tx.d_Runner_faults (T : Tx w K mg) : ∃ fd, FunD K r_Runner_faults.name r_Runner_faults.qual r_Runner_faults.params r_Runner_faults.body r_Runner_faults.scope (r_Runner_faults.dvs K) (r_Runner_faults.kws K) (f_Runner_faults K) fd := RD.funD (d := r_Runner_faults) (T.c.df 88 (d := r_Runner_faults)).1 (T.c.df 88 (d := r_Runner_faults)).2
theorem Tx.d_Runner_names (T : Tx w K mg) : ∃ fd, FunD K r_Runner_names.name r_Runner_names.qual r_Runner_names.params r_Runner_names.body r_Runner_names.scope (r_Runner_names.dvs K) (r_Runner_names.kws K) (f_Runner_names K) fd := RD.funD (d := r_Runner_names) (T.c.df 89 (d := r_Runner_names)).1 (T.c.df 89 (d := r_Runner_names)).2
theorem Tx.parts (T : Tx w K mg) : ∃ es n, KDict K w (He.ga K "PARTS") es n := T.c.tab 0
end
theorem sc_is_letter : FnScope ["character"] ["character"] (defScope s_is_letter) := ⟨rfl, rfl, rfl, by decide +kernel, rfl, by decide +kernel, by decide +kernel⟩
theorem sc_is_kind : FnScope ["value", "character"] ["value"] (defScope s_is_kind) := ⟨rfl, rfl, rfl, by decide +kernel, rfl, by decide +kernel, by decide +kernel⟩
theorem sc_is_label : FnScope ["value", "character"] ["value"] (defScope s_is_label) := ⟨rfl, rfl, rfl, by decide +kernel, rfl, by decide +kernel, by decide +kernel⟩
theorem sc_need_fault : FnScope ["value"] ["value"] (defScope s_need_fault) := ⟨rfl, rfl, rfl, by decide +kernel, rfl, by decide +kernel, by decide +kernel⟩
theorem sc_need_fault_or_none : FnScope ["value"] ["value"] (defScope s_need_fault_or_none) := ⟨rfl, rfl, rfl, by decide +kernel, rfl, by decide +kernel, by decide +kernel⟩
theorem sc_raise_under : FnScope ["fault", "handled", "here"] ["fault", "handled"] (defScope s_raise_under) := ⟨rfl, rfl, rfl, by decide +kernel, rfl, by decide +kernel, by decide +kernel⟩
theorem sc_with_cause : FnScope ["fault", "source"] ["fault", "source"] (defScope s_with_cause) := ⟨rfl, rfl, rfl, by decide +kernel, rfl, by decide +kernel, by decide +kernel⟩
theorem sc_number_of : FnScope ["fault"] ["fault"] (defScope s_number_of) := ⟨rfl, rfl, rfl, by decide +kernel, rfl, by decide +kernel, by decide +kernel⟩
theorem sc_rows_of : FnScope ["fault", "found", "at", "other", "f"] ["fault"] (defScope s_rows_of) := ⟨rfl, rfl, rfl, by decide +kernel, rfl, by decide +kernel, by decide +kernel⟩
theorem sc_is_number : FnScope ["value"] ["value"] (defScope s_is_number) := ⟨rfl, rfl, rfl, by decide +kernel, rfl, by decide +kernel, by decide +kernel⟩
theorem sc_is_name : FnScope ["value", "letter"] ["value"] (defScope s_is_name) := ⟨rfl, rfl, rfl, by decide +kernel, rfl, by decide +kernel, by decide +kernel⟩
theorem sc_is_plain : FnScope ["value"] ["value"] (defScope s_is_plain) := ⟨rfl, rfl, rfl, by decide +kernel, rfl, by decide +kernel, by decide +kernel⟩
theorem sc_s2_parts : FnScope ["statement", "parts"] ["statement"] (defScope s_s2_parts) := ⟨rfl, rfl, rfl, by decide +kernel, rfl, by decide +kernel, by decide +kernel⟩
theorem sc_s2_wrong_place : FnScope ["program", "known", "check", "wrong"] ["program", "known"] (defScope s_s2_wrong_place) := ⟨rfl, rfl, rfl, by decide +kernel, rfl, by decide +kernel, by decide +kernel⟩
theorem sc_known_kinds : FnScope ["tree"] ["tree"] (defScope s_known_kinds) := ⟨rfl, rfl, rfl, by decide +kernel, rfl, by decide +kernel, by decide +kernel⟩
theorem sc_check_program : FnScope ["program", "tree", "wrong"] ["program", "tree"] (defScope s_check_program) := ⟨rfl, rfl, rfl, by decide +kernel, rfl, by decide +kernel, by decide +kernel⟩
theorem sc_l_begun : FnScope ["_law_script", "_law_mixed", "_law_k", "_law_cell"] ["_law_script"] (defScope s_l_begun) := ⟨rfl, rfl, rfl, by decide +kernel, rfl, by decide +kernel, by decide +kernel⟩
theorem sc_l_next : FnScope ["_law_draw", "_law_below", "_law_great", "_law_at_here", "_law_found", "_law_mixed"] ["_law_draw", "_law_below"] (defScope s_l_next) := ⟨rfl, rfl, rfl, by decide +kernel, rfl, by decide +kernel, by decide +kernel⟩
theorem sc_l_pick : FnScope ["_law_draw", "_law_some"] ["_law_draw", "_law_some"] (defScope s_l_pick) := ⟨rfl, rfl, rfl, by decide +kernel, rfl, by decide +kernel, by decide +kernel⟩
theorem sc_l_tree : FnScope [] [] (defScope s_l_tree) := ⟨rfl, rfl, rfl, by decide +kernel, rfl, by decide +kernel, by decide +kernel⟩
theorem sc_l_fits : FnScope ["_law_one", "_law_some", "_law_above"] ["_law_one", "_law_some"] (defScope s_l_fits) := ⟨rfl, rfl, rfl, by decide +kernel, rfl, by decide +kernel, by decide +kernel⟩
theorem sc_l_fresh : FnScope ["_law_most"] ["_law_most"] (defScope s_l_fresh) := ⟨rfl, rfl, rfl, by decide +kernel, rfl, by decide +kernel, by decide +kernel⟩
theorem sc_l_made : FnScope ["_law_m", "_law_one", "_law_text"] ["_law_m", "_law_one", "_law_text"] (defScope s_l_made) := ⟨rfl, rfl, rfl, by decide +kernel, rfl, by decide +kernel, by decide +kernel⟩
theorem sc_l_raised : FnScope ["_law_m", "_law_f", "_law_h", "_law_here", "_law_far"] ["_law_m", "_law_f"] (defScope s_l_raised) := ⟨rfl, rfl, rfl, by decide +kernel, rfl, by decide +kernel, by decide +kernel⟩
theorem sc_l_at : FnScope ["_law_m", "_law_name"] ["_law_m", "_law_name"] (defScope s_l_at) := ⟨rfl, rfl, rfl, by decide +kernel, rfl, by decide +kernel, by decide +kernel⟩
theorem sc_l_raising : FnScope ["_law_m", "_law_s", "_law_far", "_law_needed", "_law_name", "_law_f"] ["_law_m", "_law_s"] (defScope s_l_raising) := ⟨rfl, rfl, rfl, by decide +kernel, rfl, by decide +kernel, by decide +kernel⟩
theorem sc_l_try : FnScope ["_law_m", "_law_s", "_law_ending", "_law_some", "_law_row", "_law_name", "_law_last"] ["_law_m", "_law_s"] (defScope s_l_try) := ⟨rfl, rfl, rfl, by decide +kernel, rfl, by decide +kernel, by decide +kernel⟩
theorem sc_l_statement : FnScope ["_law_m", "_law_s", "_law_f"] ["_law_m", "_law_s"] (defScope s_l_statement) := ⟨rfl, rfl, rfl, by decide +kernel, rfl, by decide +kernel, by decide +kernel⟩
theorem sc_l_body : FnScope ["_law_m", "_law_body_here", "_law_s", "_law_ending"] ["_law_m", "_law_body_here"] (defScope s_l_body) := ⟨rfl, rfl, rfl, by decide +kernel, rfl, by decide +kernel, by decide +kernel⟩
theorem sc_l_number : FnScope ["_law_f"] ["_law_f"] (defScope s_l_number) := ⟨rfl, rfl, rfl, by decide +kernel, rfl, by decide +kernel, by decide +kernel⟩
theorem sc_l_rows : FnScope ["_law_some", "_law_f"] ["_law_some"] (defScope s_l_rows) := ⟨rfl, rfl, rfl, by decide +kernel, rfl, by decide +kernel, by decide +kernel⟩
theorem sc_l_same : FnScope ["_law_box", "_law_told", "_law_m", "_law_ending", "_law_due", "_law_name"] ["_law_box", "_law_told", "_law_m", "_law_ending"] (defScope s_l_same) := ⟨rfl, rfl, rfl, by decide +kernel, rfl, by decide +kernel, by decide +kernel⟩
theorem sc_l_throws : FnScope ["_law_draw", "_law_known", "_law_found", "_law_turn", "_law_name", "_law_far", "_law_one"] ["_law_draw", "_law_known"] (defScope s_l_throws) := ⟨rfl, rfl, rfl, by decide +kernel, rfl, by decide +kernel, by decide +kernel⟩
theorem sc_l_nest : FnScope ["_law_draw", "_law_known", "_law_deep", "_law_name", "_law_end", "_law_first", "_law_inner", "_law_rest"] ["_law_draw", "_law_known", "_law_deep"] (defScope s_l_nest) := ⟨rfl, rfl, rfl, by decide +kernel, rfl, by decide +kernel, by decide +kernel⟩
theorem sc_l_turns : FnScope ["_law_f", "_law_seen", "_law_here"] ["_law_f"] (defScope s_l_turns) := ⟨rfl, rfl, rfl, by decide +kernel, rfl, by decide +kernel, by decide +kernel⟩
theorem sc_law : FnScope ["_law_script", "_law_draw", "_law_turn", "_law_program_so", "_law_m", "_law_box", "_law_told", "_law_f"] ["_law_script"] (defScope s_law) := ⟨rfl, rfl, rfl, by decide +kernel, rfl, by decide +kernel, by decide +kernel⟩
theorem sc_KindTree_init : FnScope ["self", "pairs", "index", "pair"] ["self", "pairs"] (defScope s_KindTree_init) := ⟨rfl, rfl, rfl, by decide +kernel, rfl, by decide +kernel, by decide +kernel⟩
theorem sc_KindTree_is_known : FnScope ["self", "kind"] ["self", "kind"] (defScope s_KindTree_is_known) := ⟨rfl, rfl, rfl, by decide +kernel, rfl, by decide +kernel, by decide +kernel⟩
theorem sc_KindTree_s1_need : FnScope ["self", "kind"] ["self", "kind"] (defScope s_KindTree_s1_need) := ⟨rfl, rfl, rfl, by decide +kernel, rfl, by decide +kernel, by decide +kernel⟩
theorem sc_KindTree_fits : FnScope ["self", "kind", "kinds", "one"] ["self", "kind", "kinds"] (defScope s_KindTree_fits) := ⟨rfl, rfl, rfl, by decide +kernel, rfl, by decide +kernel, by decide +kernel⟩
theorem sc_Fault_init : FnScope ["self", "kind", "label", "number"] ["self", "kind", "label", "number"] (defScope s_Fault_init) := ⟨rfl, rfl, rfl, by decide +kernel, rfl, by decide +kernel, by decide +kernel⟩
theorem sc_S2Check_init : FnScope ["self", "known"] ["self", "known"] (defScope s_S2Check_init) := ⟨rfl, rfl, rfl, by decide +kernel, rfl, by decide +kernel, by decide +kernel⟩
theorem sc_S2Check_s2_knows : FnScope ["self", "value"] ["self", "value"] (defScope s_S2Check_s2_knows) := ⟨rfl, rfl, rfl, by decide +kernel, rfl, by decide +kernel, by decide +kernel⟩
theorem sc_S2Check_s2_item_fits : FnScope ["self", "sort", "value", "one"] ["self", "sort", "value"] (defScope s_S2Check_s2_item_fits) := ⟨rfl, rfl, rfl, by decide +kernel, rfl, by decide +kernel, by decide +kernel⟩
theorem sc_S2Check_s2_wrong_body : FnScope ["self", "body", "path", "scene", "index", "statement", "wrong"] ["self", "body", "path", "scene"] (defScope s_S2Check_s2_wrong_body) := ⟨rfl, rfl, rfl, by decide +kernel, rfl, by decide +kernel, by decide +kernel⟩
theorem sc_S2Check_s2_wrong_statement : FnScope ["self", "statement", "path", "scene", "depth", "in_loop", "in_made", "parts", "index", "sort", "wrong"] ["self", "statement", "path", "scene"] (defScope s_S2Check_s2_wrong_statement) := ⟨rfl, rfl, rfl, by decide +kernel, rfl, by decide +kernel, by decide +kernel⟩
theorem sc_S2Check_s2_wrong_item : FnScope ["self", "sort", "value", "path", "scene", "depth", "in_loop", "in_made", "within", "is_made", "parts", "index", "inner", "wrong"] ["self", "sort", "value", "path", "scene"] (defScope s_S2Check_s2_wrong_item) := ⟨rfl, rfl, rfl, by decide +kernel, rfl, by decide +kernel, by decide +kernel⟩
theorem sc_S2Check_s2_wrong_handlers : FnScope ["self", "handlers", "path", "scene", "number", "handler", "place", "index", "sort", "wrong"] ["self", "handlers", "path", "scene"] (defScope s_S2Check_s2_wrong_handlers) := ⟨rfl, rfl, rfl, by decide +kernel, rfl, by decide +kernel, by decide +kernel⟩
theorem sc_Outcome_init : FnScope ["self", "way", "value", "fault"] ["self", "way", "value", "fault"] (defScope s_Outcome_init) := ⟨rfl, rfl, rfl, by decide +kernel, rfl, by decide +kernel, by decide +kernel⟩
theorem sc_BodyFrame_init : FnScope ["self", "body"] ["self", "body"] (defScope s_BodyFrame_init) := ⟨rfl, rfl, rfl, by decide +kernel, rfl, by decide +kernel, by decide +kernel⟩
theorem sc_BodyFrame_step : FnScope ["self", "runner", "activation", "statement"] ["self", "runner", "activation"] (defScope s_BodyFrame_step) := ⟨rfl, rfl, rfl, by decide +kernel, rfl, by decide +kernel, by decide +kernel⟩
theorem sc_BodyFrame_ended : FnScope ["self", "runner", "activation", "ending"] ["self", "runner", "activation", "ending"] (defScope s_BodyFrame_ended) := ⟨rfl, rfl, rfl, by decide +kernel, rfl, by decide +kernel, by decide +kernel⟩
theorem sc_TryFrame_init : FnScope ["self", "statement"] ["self", "statement"] (defScope s_TryFrame_init) := ⟨rfl, rfl, rfl, by decide +kernel, rfl, by decide +kernel, by decide +kernel⟩
theorem sc_TryFrame_s3_begin : FnScope ["self", "activation", "part", "body"] ["self", "activation", "part", "body"] (defScope s_TryFrame_s3_begin) := ⟨rfl, rfl, rfl, by decide +kernel, rfl, by decide +kernel, by decide +kernel⟩
theorem sc_TryFrame_step : FnScope ["self", "runner", "activation"] ["self", "runner", "activation"] (defScope s_TryFrame_step) := ⟨rfl, rfl, rfl, by decide +kernel, rfl, by decide +kernel, by decide +kernel⟩
theorem sc_TryFrame_ended : FnScope ["self", "runner", "activation", "ending"] ["self", "runner", "activation", "ending"] (defScope s_TryFrame_ended) := ⟨rfl, rfl, rfl, by decide +kernel, rfl, by decide +kernel, by decide +kernel⟩
theorem sc_TryFrame_s3_is_handled : FnScope ["self", "runner", "activation", "fault", "kinds", "name", "body"] ["self", "runner", "activation", "fault"] (defScope s_TryFrame_s3_is_handled) := ⟨rfl, rfl, rfl, by decide +kernel, rfl, by decide +kernel, by decide +kernel⟩
theorem sc_Activation_init : FnScope ["self", "body"] ["self", "body"] (defScope s_Activation_init) := ⟨rfl, rfl, rfl, by decide +kernel, rfl, by decide +kernel, by decide +kernel⟩
theorem sc_Runner_s3_run : FnScope ["self", "program", "way", "value"] ["self", "program"] (defScope s_Runner_s3_run) := ⟨rfl, rfl, rfl, by decide +kernel, rfl, by decide +kernel, by decide +kernel⟩
theorem sc_Runner_s3_begin_statement : FnScope ["self"] ["self"] (defScope s_Runner_s3_begin_statement) := ⟨rfl, rfl, rfl, by decide +kernel, rfl, by decide +kernel, by decide +kernel⟩
theorem sc_Runner_s3_now : FnScope ["self", "activation"] ["self"] (defScope s_Runner_s3_now) := ⟨rfl, rfl, rfl, by decide +kernel, rfl, by decide +kernel, by decide +kernel⟩
theorem sc_Runner_s3_made : FnScope ["self", "kind", "label", "fault"] ["self", "kind", "label"] (defScope s_Runner_s3_made) := ⟨rfl, rfl, rfl, by decide +kernel, rfl, by decide +kernel, by decide +kernel⟩
theorem sc_Runner_s3_raised : FnScope ["self", "fault"] ["self", "fault"] (defScope s_Runner_s3_raised) := ⟨rfl, rfl, rfl, by decide +kernel, rfl, by decide +kernel, by decide +kernel⟩
theorem sc_Runner_s3_fail : FnScope ["self", "kind", "label"] ["self", "kind", "label"] (defScope s_Runner_s3_fail) := ⟨rfl, rfl, rfl, by decide +kernel, rfl, by decide +kernel, by decide +kernel⟩
theorem sc_Runner_s3_call : FnScope ["self", "body"] ["self", "body"] (defScope s_Runner_s3_call) := ⟨rfl, rfl, rfl, by decide +kernel, rfl, by decide +kernel, by decide +kernel⟩
theorem sc_Runner_s3_advance : FnScope ["self", "activation", "ending", "frames"] ["self", "activation", "ending"] (defScope s_Runner_s3_advance) := ⟨rfl, rfl, rfl, by decide +kernel, rfl, by decide +kernel, by decide +kernel⟩
theorem sc_Runner_s3_fault_at : FnScope ["self", "name", "found"] ["self", "name"] (defScope s_Runner_s3_fault_at) := ⟨rfl, rfl, rfl, by decide +kernel, rfl, by decide +kernel, by decide +kernel⟩
theorem sc_Runner_s3_raising : FnScope ["self", "statement", "fault", "is_raise", "has_source", "name"] ["self", "statement"] (defScope s_Runner_s3_raising) := ⟨rfl, rfl, rfl, by decide +kernel, rfl, by decide +kernel, by decide +kernel⟩
theorem sc_Runner_run : FnScope ["self", "program"] ["self", "program"] (defScope s_Runner_run) := ⟨rfl, rfl, rfl, by decide +kernel, rfl, by decide +kernel, by decide +kernel⟩
theorem sc_Runner_s6_check : FnScope ["self", "program"] ["self", "program"] (defScope s_Runner_s6_check) := ⟨rfl, rfl, rfl, by decide +kernel, rfl, by decide +kernel, by decide +kernel⟩
theorem sc_Core_init : FnScope ["self", "tree", "limit"] ["self", "tree", "limit"] (defScope s_Core_init) := ⟨rfl, rfl, rfl, by decide +kernel, rfl, by decide +kernel, by decide +kernel⟩
theorem sc_Core_s3_execute : FnScope ["self", "activation", "statement", "fault"] ["self", "activation", "statement"] (defScope s_Core_s3_execute) := ⟨rfl, rfl, rfl, by decide +kernel, rfl, by decide +kernel, by decide +kernel⟩
theorem sc_Core_s3_clear : FnScope ["self"] ["self"] (defScope s_Core_s3_clear) := ⟨rfl, rfl, rfl, by decide +kernel, rfl, by decide +kernel, by decide +kernel⟩
theorem sc_KindTree_kinds : FnScope ["self"] ["self"] (defScope s_KindTree_kinds) := ⟨rfl, rfl, rfl, by decide +kernel, rfl, by decide +kernel, by decide +kernel⟩
theorem sc_Fault_kind : FnScope ["self"] ["self"] (defScope s_Fault_kind) := ⟨rfl, rfl, rfl, by decide +kernel, rfl, by decide +kernel, by decide +kernel⟩
theorem sc_Fault_label : FnScope ["self"] ["self"] (defScope s_Fault_label) := ⟨rfl, rfl, rfl, by decide +kernel, rfl, by decide +kernel, by decide +kernel⟩
theorem sc_Fault_number : FnScope ["self"] ["self"] (defScope s_Fault_number) := ⟨rfl, rfl, rfl, by decide +kernel, rfl, by decide +kernel, by decide +kernel⟩
theorem sc_Fault_context : FnScope ["self"] ["self"] (defScope s_Fault_context) := ⟨rfl, rfl, rfl, by decide +kernel, rfl, by decide +kernel, by decide +kernel⟩
theorem sc_Fault_cause : FnScope ["self"] ["self"] (defScope s_Fault_cause) := ⟨rfl, rfl, rfl, by decide +kernel, rfl, by decide +kernel, by decide +kernel⟩
theorem sc_Fault_hides : FnScope ["self"] ["self"] (defScope s_Fault_hides) := ⟨rfl, rfl, rfl, by decide +kernel, rfl, by decide +kernel, by decide +kernel⟩
theorem sc_Outcome_way : FnScope ["self"] ["self"] (defScope s_Outcome_way) := ⟨rfl, rfl, rfl, by decide +kernel, rfl, by decide +kernel, by decide +kernel⟩
theorem sc_Outcome_returned : FnScope ["self"] ["self"] (defScope s_Outcome_returned) := ⟨rfl, rfl, rfl, by decide +kernel, rfl, by decide +kernel, by decide +kernel⟩
theorem sc_Outcome_fault : FnScope ["self"] ["self"] (defScope s_Outcome_fault) := ⟨rfl, rfl, rfl, by decide +kernel, rfl, by decide +kernel, by decide +kernel⟩
theorem sc_Runner_log : FnScope ["self"] ["self"] (defScope s_Runner_log) := ⟨rfl, rfl, rfl, by decide +kernel, rfl, by decide +kernel, by decide +kernel⟩
theorem sc_Runner_faults : FnScope ["self"] ["self"] (defScope s_Runner_faults) := ⟨rfl, rfl, rfl, by decide +kernel, rfl, by decide +kernel, by decide +kernel⟩
theorem sc_Runner_names : FnScope ["self"] ["self"] (defScope s_Runner_names) := ⟨rfl, rfl, rfl, by decide +kernel, rfl, by decide +kernel, by decide +kernel⟩
end L2.EX
namespace L2.EX
open PySem PySem.Spec PyProof.Rows
/-! Memory of one's own: l the cells (addresses with what stands there), H0 what lies outside and is kept. -/
structure Own (H0 H : Hp) (l : List (Addr × HO)) : Prop where
  same : ∀ b o, H0 b = some o → H b = some o
  out : ∀ p ∈ l, H0 p.1 = none
  nd : (l.map (·.1)).Nodup
  at_ : ∀ p ∈ l, H p.1 = some p.2
section
variable {H0 H H' : Hp} {l l' A B B' : List (Addr × HO)} {a p : Addr} {o o' : HO}
theorem Own.get (w : Own H0 H l) (i : Nat) (h : l[i]? = some (a, o)) : H a = some o := w.at_ (a, o) (List.mem_of_getElem? h)
theorem Own.nil (h : ∀ b o, H0 b = some o → H b = some o) : Own H0 H [] := ⟨h, fun p hp => absurd hp (List.not_mem_nil), List.nodup_nil, fun p hp => absurd hp (List.not_mem_nil)⟩
theorem Own.refl : Own H H [] := .nil fun _ _ h => h
theorem Own.fresh (w : Own H0 H l) (h : H p = none) : H0 p = none ∧ p ∉ l.map (·.1) := by
  refine ⟨?_, fun m => ?_⟩
  · cases q : H0 p with
    | none => rfl
    | some o => rw [w.same p o q] at h; cases h
  · obtain ⟨c, hc, e⟩ := List.mem_map.mp m
    rw [← e, w.at_ c hc] at h
    cases h
/-- a new object outside the cells -/
theorem Own.tmp (w : Own H0 H l) (h : H p = none) : Own H0 (upd H p o) l :=
  ⟨fun b u e => by rw [upd_ne (ne_of_none (w.same b u e) h)]; exact w.same b u e, w.out, w.nd, fun c hc => by rw [upd_ne (ne_of_none (w.at_ c hc) h)]; exact w.at_ c hc⟩
/-- a new cell in front -/
theorem Own.new (w : Own H0 H l) (h : H p = none) : Own H0 (upd H p o) ((p, o) :: l) := by
  obtain ⟨f1, f2⟩ := w.fresh h
  have t := w.tmp (o := o) h
  refine ⟨t.same, fun c hc => ?_, List.nodup_cons.mpr ⟨f2, w.nd⟩, fun c hc => ?_⟩
  · rcases List.mem_cons.mp hc with e | m
    · rw [e]; exact f1
    · exact w.out c m
  · rcases List.mem_cons.mp hc with e | m
    · rw [e]; exact upd_same
    · exact t.at_ c m
theorem Own.sub (w : Own H0 H l) (h : ∀ c ∈ l', c ∈ l) (n : (l'.map (·.1)).Nodup) : Own H0 H l' := ⟨w.same, fun c hc => w.out c (h c hc), n, fun c hc => w.at_ c (h c hc)⟩
theorem Own.perm (w : Own H0 H l) (h : l'.Perm l) : Own H0 H l' := w.sub (fun c hc => h.mem_iff.mp hc) ((h.map _).nodup_iff.mpr w.nd)
theorem Own.sublist (w : Own H0 H l) (h : l'.Sublist l) : Own H0 H l' := w.sub (fun c hc => h.subset hc) (w.nd.sublist (h.map _))
theorem Own.tail (w : Own H0 H ((a, o) :: l)) : Own H0 H l := w.sublist (List.sublist_cons_self _ _)
theorem Own.erase (w : Own H0 H l) (i : Nat) : Own H0 H (l.eraseIdx i) := w.sublist (List.eraseIdx_sublist ..)
/-- the i-th cell is written -/
theorem Own.set (w : Own H0 H l) (i : Nat) (h : l[i]? = some (a, o)) : Own H0 (upd H a o') (l.set i (a, o')) := by
  have hi : i < l.length := (List.getElem?_eq_some_iff.mp h).1
  have ei : l[i] = (a, o) := (List.getElem?_eq_some_iff.mp h).2
  have keys : (l.set i (a, o')).map (·.1) = l.map (·.1) := by
    rw [List.map_set]
    refine List.ext_getElem (by simp) fun j h1 h2 => ?_
    rw [List.getElem_set]
    by_cases e : i = j
    · subst e
      rw [if_pos rfl]
      simp [ei]
    · rw [if_neg e]
  have mem : ∀ c ∈ l.set i (a, o'), ∃ u, (c.1, u) ∈ l := fun c hc => by
    have m : c.1 ∈ (l.set i (a, o')).map (·.1) := List.mem_map.mpr ⟨c, hc, rfl⟩
    rw [keys] at m
    obtain ⟨d, hd, e⟩ := List.mem_map.mp m
    exact ⟨d.2, by rw [← e]; exact hd⟩
  have hm : (a, o) ∈ l := List.mem_of_getElem? h
  refine ⟨fun b u e => ?_, fun c hc => ?_, by rw [keys]; exact w.nd, fun c hc => ?_⟩
  · have : b ≠ a := fun z => by rw [z, w.out _ hm] at e; cases e
    rw [upd_ne this]
    exact w.same b u e
  · obtain ⟨u, hu⟩ := mem c hc
    exact w.out (c.1, u) hu
  · obtain ⟨j, hj, ej⟩ := List.mem_iff_getElem.mp hc
    rw [List.getElem_set] at ej
    have hj' : j < l.length := by simpa using hj
    by_cases e : i = j
    · rw [if_pos e] at ej
      rw [← ej]
      exact upd_same
    · rw [if_neg e] at ej
      have nk : c.1 ≠ a := fun z => by
        have q1 : (l.map (·.1))[i]'(by simpa using hi) = a := by simp [ei]
        have q2 : (l.map (·.1))[j]'(by simpa using hj') = a := by simp [ej, z]
        exact e ((List.getElem_inj w.nd).mp (q1.trans q2.symm))
      rw [upd_ne nk]
      exact w.at_ c (by rw [← ej]; exact List.getElem_mem _)
theorem Own.set0 (w : Own H0 H ((a, o) :: l)) : Own H0 (upd H a o') ((a, o') :: l) := w.set 0 rfl
/-- what does not belong to the cells -/
def cut (H : Hp) (l : List (Addr × HO)) : Hp := fun b => if b ∈ l.map (·.1) then none else H b
theorem Own.cut (w : Own H0 H (A ++ B)) : Own (EX.cut H B) H B := by
  have nd : (A.map (·.1) ++ B.map (·.1)).Nodup := by rw [← List.map_append]; exact w.nd
  refine ⟨fun b u e => ?_, fun c hc => ?_, (List.nodup_append.mp nd).2.1, fun c hc => w.at_ c (List.mem_append_right _ hc)⟩
  · unfold EX.cut at e
    split at e
    · cases e
    · exact e
  · unfold EX.cut
    rw [if_pos (List.mem_map.mpr ⟨c, hc, rfl⟩)]
/-- behind a call that had the cells B -/
theorem Own.back (w : Own H0 H (A ++ B)) (k : Own (EX.cut H B) H' B') : Own H0 H' (A ++ B') := by
  have nd : (A.map (·.1) ++ B.map (·.1)).Nodup := by rw [← List.map_append]; exact w.nd
  obtain ⟨n1, n2, n3⟩ := List.nodup_append.mp nd
  have outB : ∀ b u, H0 b = some u → EX.cut H B b = some u := fun b u e => by
    unfold EX.cut
    rw [if_neg (fun m => ?_)]
    · exact w.same b u e
    · obtain ⟨c, hc, e2⟩ := List.mem_map.mp m
      rw [← e2, w.out c (List.mem_append_right _ hc)] at e
      cases e
  have atA : ∀ c ∈ A, EX.cut H B c.1 = some c.2 := fun c hc => by
    unfold EX.cut
    rw [if_neg (fun m => n3 _ (List.mem_map.mpr ⟨c, hc, rfl⟩) _ m rfl)]
    exact w.at_ c (List.mem_append_left _ hc)
  refine ⟨fun b u e => k.same b u (outB b u e), fun c hc => ?_, ?_, fun c hc => ?_⟩
  · rcases List.mem_append.mp hc with m | m
    · exact w.out c (List.mem_append_left _ m)
    · cases q : H0 c.1 with
      | none => rfl
      | some u =>
        have z := outB _ u q
        rw [k.out c m] at z
        cases z
  · rw [List.map_append]
    refine List.nodup_append.mpr ⟨n1, k.nd, fun x hx y hy e => ?_⟩
    subst e
    obtain ⟨c, hc, e2⟩ := List.mem_map.mp hx
    obtain ⟨d, hd, e3⟩ := List.mem_map.mp hy
    have z := atA c hc
    rw [e2, ← e3, k.out d hd] at z
    cases z
  · rcases List.mem_append.mp hc with m | m
    · exact k.same _ _ (atA c m)
    · exact k.at_ c m
/-- the whole as the own -/
theorem Own.all (w : Own H0 H l) : Own (EX.cut H l) H l := Own.cut (A := []) w
theorem Own.backAll (w : Own H0 H l) (k : Own (EX.cut H l) H' l') : Own H0 H' l' := Own.back (A := []) w k
/-- a thing outside the cells is kept -/
theorem Own.keep (w : Own H0 H l) (k : Own (EX.cut H l) H' l') {b : Addr} {u : HO} (e : H b = some u) (n : b ∉ l.map (·.1)) : H' b = some u := k.same b u (by unfold EX.cut; rw [if_neg n]; exact e)
end
/-- the new instance and its dict -/
theorem Own.made {H0 H : Hp} {l : List (Addr × HO)} {x dx C : Addr} {fs : List (Str × V)} (w : Own H0 H l) (hx : H x = none) (hd : H dx = none) (n : dx ≠ x) : Own H0 (upd (upd H dx (.own x)) x (.ins C dx fs)) ((x, .ins C dx fs) :: l) :=
  (w.tmp hd).new (by rw [upd_ne (Ne.symm n)]; exact hx)
theorem TP.made {H : Hp} {x dx : Addr} {o u : HO} (hx : H x = none) (hd : H dx = none) (n : dx ≠ x) : TP H (L2.upd (L2.upd H dx o) x u) := (TP.new hd).trans (TP.new (by rw [upd_ne (Ne.symm n)]; exact hx))
theorem ex_tp {H H' : Hp} (a : Evl.Ex H H') : TP H H' := fun p xs h => a p _ h
theorem Own.grow {H0 H H' : Hp} {l : List (Addr × HO)} (w : Own H0 H l) (e : Evl.Ex H H') : Own H0 H' l := ⟨fun b o h => e b o (w.same b o h), w.out, w.nd, fun p hp => e _ _ (w.at_ p hp)⟩
/-- the turns of a comprehension whose walk has n items: by a word of the turn's number and the heap -/
theorem lc_by {J : It} {g : TG} {tt : TT} {te : TE} {vs : List Nat} {σ : L2.St} {H1 : Hp} {D : Addr} {Qd : Hp → Prop} (n : Nat) (Pv : Nat → Hp → Prop) (h0 : Pv 0 (L2.upd H1 D (.lst []))) (hgo : ∀ i H, i < n → Pv i H → J.go i H) (hstop : ∀ H, Pv n H → J.stop n H)
    (hs : ∀ i x H H', i < n → Pv i H → J.yld i H x H' → g x (wipe σ vs) H' fun σ2 H2 => wipe σ2 vs = wipe σ vs ∧ tt σ2 H2 fun b H3 =>
      if b = true then te σ2 H3 fun y H4 => ∃ acc, H4 D = some (.lst acc) ∧ acc.length < sizeLine ∧ Pv (i + 1) (L2.upd H4 D (.lst (acc ++ [y]))) else Pv (i + 1) H3) (hd : ∀ H, Pv n H → Qd H) :
    ∃ W : Nat → Nat → Hp → Prop, (∃ m, W 0 m (L2.upd H1 D (.lst []))) ∧ ∀ i m H, W i m H →
      (J.stop i H ∧ Qd H) ∨ (J.go i H ∧ ∃ Nx : Hp → Prop, (∀ H', Nx H' → ∃ m', m' < m ∧ W (i + 1) m' H') ∧ ∀ x H', J.yld i H x H' → g x (wipe σ vs) H' fun σ2 H2 => wipe σ2 vs = wipe σ vs ∧ tt σ2 H2 fun b H3 =>
        if b = true then te σ2 H3 fun y H4 => ∃ acc, H4 D = some (.lst acc) ∧ acc.length < sizeLine ∧ Nx (L2.upd H4 D (.lst (acc ++ [y]))) else Nx H3) := by
  refine ⟨fun i m H => m = n - i ∧ i ≤ n ∧ Pv i H, ⟨n, by simp, Nat.zero_le _, h0⟩, ?_⟩
  rintro i m H ⟨rfl, hi, p⟩
  by_cases hlt : i < n
  · exact .inr ⟨hgo i H hlt p, Pv (i + 1), fun H' p' => ⟨n - (i + 1), by omega, rfl, hlt, p'⟩, fun x H' y => hs i x H H' hlt p y⟩
  · have e : i = n := by omega
    subst e
    exact .inl ⟨hstop H p, hd H p⟩
end L2.EX
namespace L2.EX
open PySem
/-! The plain model: drawn programs as data, one fault's row, the run as one function, the machine of frames as a relation of small steps; both agree. -/
inductive Sim where
  | raise (k l : Str) (src : Option (Option Str))
  | throw (n : Str) (src : Option (Option Str))
  | again
  | note (i : Int)
inductive Bdy where
  | nil
  | sim (x : Sim) (r : Bdy)
  | tri (x : Sim) (nm : Option Str) (h r : Bdy)
structure FR where
  kind : Str
  label : Str
  ctx : Option Nat
  cause : Option Nat
  hides : Bool
inductive Evt where
  | fault (n : Nat) (k l : Str)
  | note (i : Int)
structure PS where
  rows : List FR
  log : List Evt
  board : List (Str × Nat)
  hand : List Nat
  steps : Nat
def bget (b : List (Str × Nat)) (k : Str) : Option Nat := (b.find? fun p => decide (p.1 = k)).map (·.2)
def bput (b : List (Str × Nat)) (k : Str) (n : Nat) : List (Str × Nat) := if (b.any fun p => decide (p.1 = k)) = true then b.map (fun p => if p.1 = k then (p.1, n) else p) else b ++ [(k, n)]
def bdrop (b : List (Str × Nat)) (k : Str) : List (Str × Nat) := b.filter fun p => decide (p.1 ≠ k)
def ctxOf (rows : List FR) (i : Nat) : Option Nat := (rows[i]?).bind (·.ctx)
def setCtx (rows : List FR) (i : Nat) (c : Option Nat) : List FR := rows.modify i fun r => { r with ctx := c }
def setCause (rows : List FR) (i : Nat) (c : Option Nat) : List FR := rows.modify i fun r => { r with cause := c, hides := true }
/-- from h along the contexts to the last one ahead of f -/
inductive EndP (rows : List FR) (f : Nat) : Nat → Nat → Prop
  | stop {h : Nat} (q : ctxOf rows h = none ∨ ctxOf rows h = some f) : EndP rows f h h
  | go {h c e : Nat} (q : ctxOf rows h = some c) (n : c ≠ f) (t : EndP rows f c e) : EndP rows f h e
theorem EndP.uniq {rows : List FR} {f h e e' : Nat} (a : EndP rows f h e) (b : EndP rows f h e') : e = e' := by
  induction a generalizing e' with
  | stop q =>
    cases b with
    | stop _ => rfl
    | go q2 n _ =>
      rcases q with q | q
      · rw [q] at q2; cases q2
      · rw [q] at q2; exact absurd (Option.some.inj q2).symm n
  | go q n t ih =>
    cases b with
    | stop q2 =>
      rcases q2 with q2 | q2
      · rw [q] at q2; cases q2
      · rw [q] at q2; exact absurd (Option.some.inj q2) n
    | go q2 _ t2 =>
      rw [q] at q2
      cases q2
      exact ih t2
open Classical in
noncomputable def endp (rows : List FR) (f h : Nat) : Nat := if x : ∃ e, EndP rows f h e then x.choose else h
theorem endp_eq {rows : List FR} {f h e : Nat} (a : EndP rows f h e) : endp rows f h = e := by
  unfold endp
  rw [dif_pos ⟨e, a⟩]
  exact (Exists.choose_spec (⟨e, a⟩ : ∃ e, EndP rows f h e)).uniq a
noncomputable def raised (s : PS) (f : Nat) : PS := match s.hand.getLast? with
  | none => s
  | some h => if h = f then s else { s with rows := setCtx (setCtx s.rows (endp s.rows f h) none) f (some h) }
def made (s : PS) (k l : Str) : PS := { s with rows := s.rows ++ [⟨k, l, none, none, false⟩], log := s.log ++ [.fault s.rows.length k l] }
noncomputable def fail (s : PS) (k l : Str) : Option Nat × PS := (some s.rows.length, raised (made s k l) s.rows.length)
def missing (b : List (Str × Nat)) (src : Option (Option Str)) : Option Str := match src with
  | some (some n) => if (bget b n).isSome = true then none else some n
  | _ => none
noncomputable def finR (s : PS) (f : Nat) (src : Option (Option Str)) : Option Nat × PS := (some f, raised (match src with
  | none => s
  | some o => { s with rows := setCause s.rows f (o.bind (bget s.board)) }) f)
def tick (s : PS) : PS := { s with steps := s.steps + 1 }
noncomputable def execS (x : Sim) (s : PS) : Option Nat × PS := match x with
  | .note i => (none, { s with log := s.log ++ [.note i] })
  | .again => (match s.hand.getLast? with
    | some h => (some h, s)
    | none => fail s "State" "nothing handled")
  | .raise k l src => (match missing s.board src with
    | some n => fail s "Name" n
    | none => finR (made s k l) s.rows.length src)
  | .throw n src => (match bget s.board n with
    | none => fail s "Name" n
    | some f => (match missing s.board src with
      | some m => fail s "Name" m
      | none => finR s f src))
def bputO (nm : Option Str) (f : Nat) (b : List (Str × Nat)) : List (Str × Nat) := match nm with
  | none => b
  | some n => bput b n f
def bdropO (nm : Option Str) (b : List (Str × Nat)) : List (Str × Nat) := match nm with
  | none => b
  | some n => bdrop b n
def pushB (nm : Option Str) (f : Nat) (s : PS) : PS := { s with board := bputO nm f s.board, hand := s.hand ++ [f] }
def popB (nm : Option Str) (s : PS) : PS := { s with board := bdropO nm s.board, hand := s.hand.dropLast }
noncomputable def exec : Bdy → PS → Option Nat × PS
  | .nil, s => (none, s)
  | .sim x r, s => match execS x (tick s) with
    | (none, s1) => exec r s1
    | (some f, s1) => (some f, s1)
  | .tri x nm h r, s => match execS x (tick (tick s)) with
    | (none, s1) => (none, s1)
    | (some f, s1) => match exec h (pushB nm f s1) with
      | (none, s3) => exec r (popB nm s3)
      | (some g, s3) => (some g, popB nm s3)
/-- a statement that always ends in a fault -/
def Sim.hot : Sim → Bool
  | .note _ => false
  | _ => true
def Bdy.hot : Bdy → Bool
  | .nil => true
  | .sim _ r => r.hot
  | .tri x _ h r => x.hot && (h.hot && r.hot)
theorem execS_hot {x : Sim} (h : x.hot = true) (s : PS) : ∃ f s1, execS x s = (some f, s1) := by
  cases x with
  | note i => cases h
  | again =>
    show ∃ f s1, (match s.hand.getLast? with | some h => (some h, s) | none => fail s "State" "nothing handled") = (some f, s1)
    cases s.hand.getLast? with
    | some h => exact ⟨_, _, rfl⟩
    | none => exact ⟨_, _, rfl⟩
  | raise k l src =>
    show ∃ f s1, (match missing s.board src with | some n => fail s "Name" n | none => finR (made s k l) s.rows.length src) = (some f, s1)
    cases missing s.board src with
    | some n => exact ⟨_, _, rfl⟩
    | none => exact ⟨_, _, rfl⟩
  | throw n src =>
    show ∃ f s1, (match bget s.board n with | none => fail s "Name" n | some f => (match missing s.board src with | some m => fail s "Name" m | none => finR s f src)) = (some f, s1)
    cases bget s.board n with
    | none => exact ⟨_, _, rfl⟩
    | some f =>
      show ∃ f1 s1, (match missing s.board src with | some m => fail s "Name" m | none => finR s f src) = (some f1, s1)
      cases missing s.board src with
      | some n => exact ⟨_, _, rfl⟩
      | none => exact ⟨_, _, rfl⟩
/-! ### the machine of frames -/
inductive Fm where
  | body (r : Bdy)
  | tri0 (x : Sim) (nm : Option Str) (h : Bdy)
  | triB (x : Sim) (nm : Option Str) (h : Bdy)
  | triH (nm : Option Str)
  | triF (pend : Option Nat)
/-- the ending: none yet, at the end, a fault -/
inductive En where
  | go | fin | flt (f : Nat)
def En.of : Option Nat → En
  | none => .fin
  | some f => .flt f
def pushE (o : Option Nat) (s : PS) : PS := match o with
  | none => s
  | some g => { s with hand := s.hand ++ [g] }
def popE (o : Option Nat) (s : PS) : PS := match o with
  | none => s
  | some _ => { s with hand := s.hand.dropLast }
inductive Run (out : Option Nat × PS) : Nat → En → List Fm → PS → Prop
  | last {o : Option Nat} {fm : Fm} {s : PS} (h : out = (o, s)) : Run out 1 (En.of o) [fm] s
  | bnil {m : Nat} {F : List Fm} {s : PS} (k : Run out m .fin (.body .nil :: F) s) : Run out (m + 1) .go (.body .nil :: F) s
  | bnote {m : Nat} {x : Sim} {r : Bdy} {F : List Fm} {s s1 : PS} (e : execS x (tick s) = (none, s1)) (k : Run out m .go (.body r :: F) s1) : Run out (m + 1) .go (.body (.sim x r) :: F) s
  | bflt {m f : Nat} {x : Sim} {r : Bdy} {F : List Fm} {s s1 : PS} (e : execS x (tick s) = (some f, s1)) (k : Run out m (.flt f) (.body r :: F) s1) : Run out (m + 1) .go (.body (.sim x r) :: F) s
  | btry {m : Nat} {x : Sim} {nm : Option Str} {h r : Bdy} {F : List Fm} {s : PS} (k : Run out m .go (.tri0 x nm h :: .body r :: F) (tick s)) : Run out (m + 1) .go (.body (.tri x nm h r) :: F) s
  | t0 {m : Nat} {x : Sim} {nm : Option Str} {h : Bdy} {F : List Fm} {s : PS} (k : Run out m .go (.body (.sim x .nil) :: .triB x nm h :: F) s) : Run out (m + 1) .go (.tri0 x nm h :: F) s
  | pb0 {m : Nat} {fm : Fm} {r : Bdy} {F : List Fm} {s : PS} (k : Run out m .go (.body r :: F) s) : Run out (m + 1) .fin (fm :: .body r :: F) s
  | pbf {m f : Nat} {fm : Fm} {r : Bdy} {F : List Fm} {s : PS} (k : Run out m (.flt f) (.body r :: F) s) : Run out (m + 1) (.flt f) (fm :: .body r :: F) s
  | ptb {m f : Nat} {fm : Fm} {x : Sim} {nm : Option Str} {h : Bdy} {F : List Fm} {s : PS} (k : Run out m .go (.body h :: .triH nm :: F) (pushB nm f s)) : Run out (m + 1) (.flt f) (fm :: .triB x nm h :: F) s
  | pth {m : Nat} {o : Option Nat} {fm : Fm} {nm : Option Str} {F : List Fm} {s : PS} (k : Run out m .go (.body .nil :: .triF o :: F) (pushE o (popB nm s))) : Run out (m + 1) (En.of o) (fm :: .triH nm :: F) s
  | ptf {m : Nat} {o : Option Nat} {fm : Fm} {F : List Fm} {s : PS} (k : Run out m (En.of o) (.triF o :: F) (popE o s)) : Run out (m + 1) .fin (fm :: .triF o :: F) s
theorem popE_pushE (o : Option Nat) (s : PS) : popE o (pushE o s) = s := by
  cases o with
  | none => rfl
  | some g =>
    show { s with hand := (s.hand ++ [g]).dropLast } = s
    rw [List.dropLast_concat]
theorem run_of (out : Option Nat × PS) : ∀ (b : Bdy) (s : PS) (F : List Fm), b.hot = true → (∀ fm, ∃ m, Run out m (En.of (exec b s).1) (fm :: F) (exec b s).2) → ∃ m, Run out m .go (.body b :: F) s
  | .nil, s, F, _, h => by
    obtain ⟨m, k⟩ := h (.body .nil)
    exact ⟨m + 1, .bnil k⟩
  | .sim x r, s, F, hb, h => by
    cases e : execS x (tick s) with
    | mk o s1 =>
      cases o with
      | none =>
        have e2 : exec (.sim x r) s = exec r s1 := by
          show (match execS x (tick s) with | (none, s1) => exec r s1 | (some f, s1) => (some f, s1)) = exec r s1
          rw [e]
        rw [e2] at h
        obtain ⟨m, k⟩ := run_of out r s1 F hb h
        exact ⟨m + 1, .bnote e k⟩
      | some f =>
        have e2 : exec (.sim x r) s = (some f, s1) := by
          show (match execS x (tick s) with | (none, s1) => exec r s1 | (some f, s1) => (some f, s1)) = _
          rw [e]
        rw [e2] at h
        obtain ⟨m, k⟩ := h (.body r)
        exact ⟨m + 1, .bflt e k⟩
  | .tri x nm hh r, s, F, hb, h => by
    have hb1 : x.hot = true ∧ (hh.hot && r.hot) = true := Bool.and_eq_true_iff.mp hb
    have hb2 := Bool.and_eq_true_iff.mp hb1.2
    obtain ⟨f, s1, e⟩ := execS_hot hb1.1 (tick (tick s))
    have e2 : exec (.tri x nm hh r) s = (match exec hh (pushB nm f s1) with | (none, s3) => exec r (popB nm s3) | (some g, s3) => (some g, popB nm s3)) := by
      show (match execS x (tick (tick s)) with | (none, s1) => (none, s1) | (some f, s1) => match exec hh (pushB nm f s1) with | (none, s3) => exec r (popB nm s3) | (some g, s3) => (some g, popB nm s3)) = _
      rw [e]
    rw [e2] at h
    have inner : ∀ fm, ∃ m, Run out m (En.of (exec hh (pushB nm f s1)).1) (fm :: .triH nm :: .body r :: F) (exec hh (pushB nm f s1)).2 := by
      intro fm
      have next : ∃ m, Run out m (En.of (exec hh (pushB nm f s1)).1) (.triF (exec hh (pushB nm f s1)).1 :: .body r :: F) (popB nm (exec hh (pushB nm f s1)).2) := by
        cases e3 : exec hh (pushB nm f s1) with
        | mk o s3 =>
          rw [e3] at h
          cases o with
          | none =>
            obtain ⟨m, k⟩ := run_of out r (popB nm s3) F hb2.2 h
            exact ⟨m + 1, .pb0 k⟩
          | some g =>
            obtain ⟨m, k⟩ := h (.body r)
            exact ⟨m + 1, .pbf k⟩
      obtain ⟨m, k⟩ := next
      refine ⟨m + 1 + 1 + 1, .pth (.bnil (.ptf ?_))⟩
      rw [popE_pushE]
      exact k
    obtain ⟨m, k⟩ := run_of out hh (pushB nm f s1) (.triH nm :: .body r :: F) hb2.1 inner
    exact ⟨m + 1 + 1 + 1 + 1, .btry (.t0 (.bflt e (.ptb k)))⟩
theorem run_all (b : Bdy) (s : PS) (hb : b.hot = true) : ∃ m, Run (exec b s) m .go [.body b] s := run_of _ b s [] hb fun _ => ⟨1, .last rfl⟩
end L2.EX
namespace L2.EX
open PySem
/-! The plain model keeps its bounds: the contexts never come back, the addresses are there, as many rows and entries as steps at most, no new name is left on the board. -/
structure WF (k j : Nat) (s : PS) : Prop where
  brd : ∀ p ∈ s.board, p.2 < s.rows.length
  hnd : ∀ f ∈ s.hand, f < s.rows.length
  ctx : ∀ i c, ctxOf s.rows i = some c → c < s.rows.length
  cau : ∀ (i : Nat) (r : FR) (c : Nat), s.rows[i]? = some r → r.cause = some c → c < s.rows.length
  rnk : ∃ r : Nat → Nat, ∀ i c, ctxOf s.rows i = some c → r c < r i
  nr : s.rows.length + k ≤ s.steps
  nl : s.log.length + k ≤ s.steps
  nb : s.board.length + j ≤ s.steps
theorem ctxOf_setCtx (rows : List FR) (i : Nat) (c : Option Nat) (j : Nat) : ctxOf (setCtx rows i c) j = if j = i ∧ i < rows.length then c else ctxOf rows j := by
  unfold ctxOf setCtx
  rw [List.getElem?_modify]
  by_cases h : i = j
  · subst h
    by_cases hl : i < rows.length
    · rw [if_pos ⟨rfl, hl⟩, List.getElem?_eq_getElem hl]
      simp
    · rw [if_neg (fun z => hl z.2), List.getElem?_eq_none (by omega)]
      rfl
  · rw [if_neg (fun z => h z.1.symm)]
    cases rows[j]? with
    | none => rfl
    | some r => simp [h]
theorem len_setCtx (rows : List FR) (i : Nat) (c : Option Nat) : (setCtx rows i c).length = rows.length := List.length_modify ..
theorem len_setCause (rows : List FR) (i : Nat) (c : Option Nat) : (setCause rows i c).length = rows.length := List.length_modify ..
theorem ctxOf_setCause (rows : List FR) (i : Nat) (c : Option Nat) (j : Nat) : ctxOf (setCause rows i c) j = ctxOf rows j := by
  unfold ctxOf setCause
  rw [List.getElem?_modify]
  cases rows[j]? with
  | none => rfl
  | some r => by_cases h : i = j <;> simp [h]
theorem cause_setCtx {rows : List FR} {i j : Nat} {c : Option Nat} {r : FR} (h : (setCtx rows i c)[j]? = some r) : ∃ r', rows[j]? = some r' ∧ r'.cause = r.cause := by
  unfold setCtx at h
  rw [List.getElem?_modify] at h
  cases q : rows[j]? with
  | none => rw [q] at h; cases h
  | some r' =>
    rw [q] at h
    refine ⟨r', rfl, ?_⟩
    by_cases e : i = j
    · simp [e] at h; rw [← h]
    · simp [e] at h; rw [← h]
theorem cause_setCause {rows : List FR} {i j : Nat} {c : Option Nat} {r : FR} (h : (setCause rows i c)[j]? = some r) : (∃ r', rows[j]? = some r' ∧ r'.cause = r.cause) ∨ r.cause = c := by
  unfold setCause at h
  rw [List.getElem?_modify] at h
  cases q : rows[j]? with
  | none => rw [q] at h; cases h
  | some r' =>
    rw [q] at h
    by_cases e : i = j
    · simp [e] at h; rw [← h]; exact .inr rfl
    · simp [e] at h; rw [← h]; exact .inl ⟨r', rfl, rfl⟩
theorem ctxOf_snoc (rows : List FR) (k l : Str) (i : Nat) : ctxOf (rows ++ [⟨k, l, none, none, false⟩]) i = ctxOf rows i := by
  unfold ctxOf
  by_cases h : i < rows.length
  · rw [List.getElem?_append_left h]
  · rw [List.getElem?_append_right (by omega), List.getElem?_eq_none (l := rows) (by omega)]
    cases e : i - rows.length with
    | zero => rfl
    | succ n => rfl
theorem endp_ex {rows : List FR} {f : Nat} {r : Nat → Nat} (hr : ∀ i c, ctxOf rows i = some c → r c < r i) : ∀ (n h : Nat), r h ≤ n → ∃ e, EndP rows f h e
  | n, h, hn => by
    cases q : ctxOf rows h with
    | none => exact ⟨h, .stop (.inl q)⟩
    | some c =>
      by_cases e : c = f
      · subst e
        exact ⟨h, .stop (.inr q)⟩
      · have lt := hr h c q
        cases n with
        | zero => omega
        | succ n =>
          obtain ⟨e', t⟩ := endp_ex (f := f) hr n c (by omega)
          exact ⟨e', .go q e t⟩
/-- on the way from h -/
inductive On (rows : List FR) (f h : Nat) : Nat → Prop
  | head : On rows f h h
  | next {i c : Nat} (o : On rows f h i) (q : ctxOf rows i = some c) (n : c ≠ f) : On rows f h c
theorem On.ne {rows : List FR} {f h i : Nat} (o : On rows f h i) (hf : h ≠ f) : i ≠ f := by
  cases o with
  | head => exact hf
  | next _ _ n => exact n
theorem On.endp {rows : List FR} {f h i e : Nat} (o : On rows f h i) (t : EndP rows f h e) : EndP rows f i e := by
  induction o with
  | head => exact t
  | next o q n ih =>
    cases ih with
    | stop q2 =>
      rcases q2 with q2 | q2
      · rw [q] at q2; cases q2
      · rw [q] at q2; exact absurd (Option.some.inj q2) n
    | go q2 _ t2 =>
      rw [q] at q2
      cases q2
      exact t2
theorem EndP.on {rows : List FR} {f h e : Nat} (t : EndP rows f h e) : ∀ {g}, On rows f g h → On rows f g e := by
  induction t with
  | stop _ => exact fun o => o
  | go q n _ ih => exact fun o => ih (.next o q n)
theorem EndP.lt {rows : List FR} {f h e : Nat} (t : EndP rows f h e) (hc : ∀ i c, ctxOf rows i = some c → c < rows.length) (hh : h < rows.length) : e < rows.length := by
  induction t with
  | stop _ => exact hh
  | go q _ _ ih => exact ih (hc _ _ q)
theorem rank_raise {rows : List FR} {f h e : Nat} {r : Nat → Nat} (hr : ∀ i c, ctxOf rows i = some c → r c < r i) (t : EndP rows f h e) (hf : h ≠ f) (he : e < rows.length) :
    ∃ r' : Nat → Nat, ∀ i c, ctxOf (setCtx (setCtx rows e none) f (some h)) i = some c → r' c < r' i := by
  classical
  refine ⟨fun i => if On rows f h i then r i else r i + r h + 1, fun i c q => ?_⟩
  rw [ctxOf_setCtx, ctxOf_setCtx, len_setCtx] at q
  by_cases c1 : i = f ∧ f < rows.length
  · rw [if_pos c1] at q
    have ec : h = c := Option.some.inj q
    subst ec
    show (if On rows f h h then _ else _) < (if On rows f h i then _ else _)
    rw [if_pos On.head, if_neg (fun o => (o.ne hf) c1.1)]
    omega
  · rw [if_neg c1] at q
    by_cases c2 : i = e ∧ e < rows.length
    · rw [if_pos c2] at q; cases q
    · rw [if_neg c2] at q
      have lt := hr i c q
      have ie : i ≠ e := fun z => c2 ⟨z, he⟩
      show (if On rows f h c then _ else _) < (if On rows f h i then _ else _)
      by_cases oi : On rows f h i
      · have oc : On rows f h c := by
          by_cases cf : c = f
          · subst cf
            have t2 := oi.endp t
            cases t2 with
            | stop _ => exact absurd rfl ie
            | go q2 n _ =>
              rw [q] at q2
              exact absurd (Option.some.inj q2).symm n
          · exact .next oi q cf
        rw [if_pos oi, if_pos oc]
        exact lt
      · rw [if_neg oi]
        by_cases oc : On rows f h c
        · rw [if_pos oc]; omega
        · rw [if_neg oc]; omega
section
variable {k j : Nat} {s : PS}
theorem WF.made (w : WF (k + 1) j s) (kd l : Str) : WF k j (made s kd l) := by
  obtain ⟨h1, h2, h3, h4, ⟨r, h5⟩, h6, h7, h8⟩ := w
  have hl : (s.rows ++ [(⟨kd, l, none, none, false⟩ : FR)]).length = s.rows.length + 1 := by simp
  refine ⟨fun p hp => ?_, fun f hf => ?_, fun i c q => ?_, fun i r c q e => ?_, ⟨r, fun i c q => ?_⟩, ?_, ?_, h8⟩
  · show p.2 < (s.rows ++ [(⟨kd, l, none, none, false⟩ : FR)]).length
    have := h1 p hp; omega
  · show f < (s.rows ++ [(⟨kd, l, none, none, false⟩ : FR)]).length
    have := h2 f hf; omega
  · show c < (s.rows ++ [(⟨kd, l, none, none, false⟩ : FR)]).length
    have q : ctxOf (s.rows ++ [(⟨kd, l, none, none, false⟩ : FR)]) i = some c := q
    rw [ctxOf_snoc] at q
    have := h3 i c q; omega
  · show c < (s.rows ++ [(⟨kd, l, none, none, false⟩ : FR)]).length
    have q : (s.rows ++ [(⟨kd, l, none, none, false⟩ : FR)])[i]? = some r := q
    by_cases hi : i < s.rows.length
    · rw [List.getElem?_append_left hi] at q
      have := h4 i r c q e; omega
    · rw [List.getElem?_append_right (by omega)] at q
      cases e2 : i - s.rows.length with
      | zero =>
        rw [e2] at q
        have q := Option.some.inj q
        rw [← q] at e; cases e
      | succ n => rw [e2] at q; cases q
  · have q : ctxOf (s.rows ++ [(⟨kd, l, none, none, false⟩ : FR)]) i = some c := q
    rw [ctxOf_snoc] at q
    exact h5 i c q
  · show (s.rows ++ [(⟨kd, l, none, none, false⟩ : FR)]).length + k ≤ s.steps
    omega
  · show (s.log ++ [Evt.fault s.rows.length kd l]).length + k ≤ s.steps
    rw [List.length_append]
    simp
    omega
theorem WF.raised (w : WF k j s) {f : Nat} (hf : f < s.rows.length) : WF k j (raised s f) := by
  obtain ⟨h1, h2, h3, h4, ⟨r, h5⟩, h6, h7, h8⟩ := id w
  unfold EX.raised
  cases q : s.hand.getLast? with
  | none => exact w
  | some h =>
    show WF k j (if h = f then s else { s with rows := setCtx (setCtx s.rows (endp s.rows f h) none) f (some h) })
    by_cases e : h = f
    · rw [if_pos e]; exact w
    · rw [if_neg e]
      have hh : h < s.rows.length := h2 h (List.mem_of_getLast? q)
      obtain ⟨e', t⟩ := endp_ex (f := f) h5 (r h) h (Nat.le_refl _)
      have ee := endp_eq t
      have he := t.lt h3 hh
      have hl : (setCtx (setCtx s.rows (endp s.rows f h) none) f (some h)).length = s.rows.length := by rw [len_setCtx, len_setCtx]
      refine ⟨fun p hp => by show p.2 < _; rw [hl]; exact h1 p hp, fun g hg => by show g < _; rw [hl]; exact h2 g hg, fun i c q2 => ?_, fun i r2 c q2 e2 => ?_, ?_, by show _ + k ≤ _; rw [hl]; exact h6, h7, h8⟩
      · show c < (setCtx (setCtx s.rows (endp s.rows f h) none) f (some h)).length
        rw [hl]
        have q2 : ctxOf (setCtx (setCtx s.rows (endp s.rows f h) none) f (some h)) i = some c := q2
        rw [ctxOf_setCtx, ctxOf_setCtx] at q2
        split at q2
        · cases q2; exact hh
        · split at q2
          · cases q2
          · exact h3 i c q2
      · show c < (setCtx (setCtx s.rows (endp s.rows f h) none) f (some h)).length
        rw [hl]
        obtain ⟨r3, q3, e3⟩ := cause_setCtx q2
        obtain ⟨r4, q4, e4⟩ := cause_setCtx q3
        exact h4 i r4 c q4 (by rw [e4, e3, e2])
      · rw [ee]
        exact rank_raise h5 t e he
theorem WF.cause (w : WF k j s) {f : Nat} {c : Option Nat} (hc : ∀ d, c = some d → d < s.rows.length) : WF k j { s with rows := setCause s.rows f c } := by
  obtain ⟨h1, h2, h3, h4, ⟨r, h5⟩, h6, h7, h8⟩ := w
  have hl := len_setCause s.rows f c
  refine ⟨fun p hp => by show p.2 < _; rw [hl]; exact h1 p hp, fun g hg => by show g < _; rw [hl]; exact h2 g hg, fun i d q => ?_, fun i r2 d q2 e2 => ?_, ⟨r, fun i d q => ?_⟩, by show _ + k ≤ _; rw [hl]; exact h6, h7, h8⟩
  · show d < (setCause s.rows f c).length
    have q : ctxOf (setCause s.rows f c) i = some d := q
    rw [ctxOf_setCause] at q
    rw [hl]
    exact h3 i d q
  · show d < (setCause s.rows f c).length
    rw [hl]
    rcases cause_setCause q2 with ⟨r3, q3, e3⟩ | e3
    · exact h4 i r3 d q3 (by rw [e3, e2])
    · exact hc d (by rw [← e3, e2])
  · have q : ctxOf (setCause s.rows f c) i = some d := q
    rw [ctxOf_setCause] at q
    exact h5 i d q
theorem WF.mono {k' j' : Nat} (w : WF k j s) (h : k' ≤ k) (h2 : j' ≤ j) : WF k' j' s := ⟨w.brd, w.hnd, w.ctx, w.cau, w.rnk, by have := w.nr; omega, by have := w.nl; omega, by have := w.nb; omega⟩
theorem bget_mem {b : List (Str × Nat)} {x : Str} {n : Nat} (h : bget b x = some n) : ∃ p ∈ b, p.2 = n := by
  unfold bget at h
  cases q : b.find? fun p => decide (p.1 = x) with
  | none => rw [q] at h; cases h
  | some p =>
    rw [q] at h
    exact ⟨p, List.mem_of_find?_eq_some q, Option.some.inj h⟩
theorem WF.bget (w : WF k j s) {x : Str} {n : Nat} (h : bget s.board x = some n) : n < s.rows.length := by
  obtain ⟨p, hp, e⟩ := bget_mem h
  rw [← e]
  exact w.brd p hp
theorem made_len (s : PS) (a b : Str) : (made s a b).rows.length = s.rows.length + 1 := by
  show (s.rows ++ [_]).length = _
  simp
theorem WF.fail (w : WF (k + 1) j s) (a b : Str) : WF k j (fail s a b).2 := (w.made a b).raised (by rw [made_len]; omega)
theorem WF.finR (w : WF k j s) {f : Nat} (hf : f < s.rows.length) (src : Option (Option Str)) : WF k j (finR s f src).2 := by
  cases src with
  | none => exact w.raised hf
  | some o =>
    refine WF.raised (s := { s with rows := setCause s.rows f (o.bind (EX.bget s.board)) }) (w.cause fun d hd => ?_) (by show f < (setCause _ _ _).length; rw [len_setCause]; exact hf)
    cases o with
    | none => cases hd
    | some n => exact w.bget hd
theorem WF.execS (w : WF (k + 1) j s) (x : Sim) : WF k j (execS x s).2 := by
  cases x with
  | note i =>
    refine ⟨w.brd, w.hnd, w.ctx, w.cau, w.rnk, by have := w.nr; show s.rows.length + k ≤ s.steps; omega, ?_, w.nb⟩
    show (s.log ++ [Evt.note i]).length + k ≤ s.steps
    have := w.nl
    simp
    omega
  | again =>
    show WF k j (match s.hand.getLast? with | some h => (some h, s) | none => EX.fail s "State" "nothing handled").2
    cases s.hand.getLast? with
    | some h => exact w.mono (by omega) (Nat.le_refl _)
    | none => exact w.fail _ _
  | raise a l src =>
    show WF k j (match missing s.board src with | some n => EX.fail s "Name" n | none => EX.finR (EX.made s a l) s.rows.length src).2
    cases missing s.board src with
    | some n => exact w.fail _ _
    | none => exact (w.made a l).finR (by rw [made_len]; omega) src
  | throw n src =>
    show WF k j (match EX.bget s.board n with | none => EX.fail s "Name" n | some f => (match missing s.board src with | some m => EX.fail s "Name" m | none => EX.finR s f src)).2
    cases q : EX.bget s.board n with
    | none => exact w.fail _ _
    | some f =>
      show WF k j (match missing s.board src with | some m => EX.fail s "Name" m | none => EX.finR s f src).2
      cases missing s.board src with
      | some n => exact w.fail _ _
      | none => exact (w.mono (by omega) (Nat.le_refl _)).finR (w.bget q) src
/-- the fault that comes out stands among the rows -/
theorem raised_len (s : PS) (f : Nat) : (raised s f).rows.length = s.rows.length := by
  unfold raised
  cases s.hand.getLast? with
  | none => rfl
  | some h =>
    show (if h = f then s else { s with rows := setCtx (setCtx s.rows (endp s.rows f h) none) f (some h) }).rows.length = _
    by_cases e : h = f
    · rw [if_pos e]
    · rw [if_neg e]
      show (setCtx _ _ _).length = _
      rw [len_setCtx, len_setCtx]
theorem fail_lt (s : PS) (a b : Str) : s.rows.length < (fail s a b).2.rows.length := by
  show _ < (raised (made s a b) s.rows.length).rows.length
  rw [raised_len, made_len]; omega
theorem finR_len (s : PS) (f : Nat) (src : Option (Option Str)) : (finR s f src).2.rows.length = s.rows.length := by
  cases src with
  | none => exact raised_len s f
  | some o =>
    show (raised _ f).rows.length = _
    rw [raised_len]
    exact len_setCause ..
theorem execS_lt (w : WF k j s) (x : Sim) {f : Nat} (h : (execS x s).1 = some f) : f < (execS x s).2.rows.length := by
  cases x with
  | note i => cases h
  | again =>
    have h : (match s.hand.getLast? with | some h => (some h, s) | none => EX.fail s "State" "nothing handled").1 = some f := h
    show f < (match s.hand.getLast? with | some h => (some h, s) | none => EX.fail s "State" "nothing handled").2.rows.length
    cases q : s.hand.getLast? with
    | some g =>
      rw [q] at h
      have h : some g = some f := h
      rw [← Option.some.inj h]
      exact w.hnd g (List.mem_of_getLast? q)
    | none =>
      rw [q] at h
      cases h
      exact fail_lt ..
  | raise a l src =>
    have h : (match missing s.board src with | some n => EX.fail s "Name" n | none => EX.finR (EX.made s a l) s.rows.length src).1 = some f := h
    show f < (match missing s.board src with | some n => EX.fail s "Name" n | none => EX.finR (EX.made s a l) s.rows.length src).2.rows.length
    cases q : missing s.board src with
    | some n => rw [q] at h; cases h; exact fail_lt ..
    | none => rw [q] at h; cases h; show _ < (EX.finR _ _ _).2.rows.length; rw [finR_len, made_len]; omega
  | throw n src =>
    have h : (match EX.bget s.board n with | none => EX.fail s "Name" n | some f => (match missing s.board src with | some m => EX.fail s "Name" m | none => EX.finR s f src)).1 = some f := h
    show f < (match EX.bget s.board n with | none => EX.fail s "Name" n | some f => (match missing s.board src with | some m => EX.fail s "Name" m | none => EX.finR s f src)).2.rows.length
    cases q : EX.bget s.board n with
    | none => rw [q] at h; cases h; exact fail_lt ..
    | some g =>
      rw [q] at h
      have h : (match missing s.board src with | some m => EX.fail s "Name" m | none => EX.finR s g src).1 = some f := h
      show f < (match missing s.board src with | some m => EX.fail s "Name" m | none => EX.finR s g src).2.rows.length
      cases q2 : missing s.board src with
      | some n => rw [q2] at h; cases h; exact fail_lt ..
      | none => rw [q2] at h; cases h; show _ < (EX.finR _ _ _).2.rows.length; rw [finR_len]; exact w.bget q
theorem WF.tick (w : WF k j s) : WF (k + 1) (j + 1) (tick s) := ⟨w.brd, w.hnd, w.ctx, w.cau, w.rnk, by have := w.nr; show _ ≤ s.steps + 1; show s.rows.length + (k + 1) ≤ _; omega, by have := w.nl; show s.log.length + (k + 1) ≤ s.steps + 1; omega, by have := w.nb; show s.board.length + (j + 1) ≤ s.steps + 1; omega⟩
theorem bput_mem {b : List (Str × Nat)} {x : Str} {n : Nat} {p : Str × Nat} (h : p ∈ bput b x n) : p ∈ b ∨ p = (x, n) := by
  unfold bput at h
  split at h
  · obtain ⟨q, hq, e⟩ := List.mem_map.mp h
    by_cases c : q.1 = x
    · rw [if_pos c] at e
      exact .inr (by rw [← e, c])
    · rw [if_neg c] at e
      exact .inl (by rw [← e]; exact hq)
  · rcases List.mem_append.mp h with m | m
    · exact .inl m
    · exact .inr (List.mem_singleton.mp m)
theorem bput_len (b : List (Str × Nat)) (x : Str) (n : Nat) : (bput b x n).length ≤ b.length + 1 := by
  unfold bput
  split
  · rw [List.length_map]; omega
  · simp
theorem WF.pushB (w : WF k (j + 1) s) (nm : Option Str) {f : Nat} (hf : f < s.rows.length) : WF k j (pushB nm f s) := by
  refine ⟨fun p hp => ?_, fun g hg => ?_, w.ctx, w.cau, w.rnk, w.nr, w.nl, ?_⟩
  · show p.2 < s.rows.length
    have hp : p ∈ bputO nm f s.board := hp
    cases nm with
    | none => exact w.brd p hp
    | some n =>
      rcases bput_mem hp with m | m
      · exact w.brd p m
      · rw [m]; exact hf
  · show g < s.rows.length
    rcases List.mem_append.mp hg with m | m
    · exact w.hnd g m
    · rw [List.mem_singleton.mp m]; exact hf
  · show (bputO nm f s.board).length + j ≤ s.steps
    have := w.nb
    cases nm with
    | none => show s.board.length + j ≤ _; omega
    | some n =>
      have := bput_len s.board n f
      show (bput s.board n f).length + j ≤ _
      omega
theorem WF.popB (w : WF k j s) (nm : Option Str) : WF k j (popB nm s) := by
  have sub : ∀ p ∈ bdropO nm s.board, p ∈ s.board := fun p hp => by
    cases nm with
    | none => exact hp
    | some n => exact (List.mem_filter.mp hp).1
  refine ⟨fun p hp => w.brd p (sub p hp), fun g hg => w.hnd g (List.dropLast_subset _ hg), w.ctx, w.cau, w.rnk, w.nr, w.nl, ?_⟩
  show (bdropO nm s.board).length + j ≤ s.steps
  have := w.nb
  cases nm with
  | none => exact this
  | some n =>
    have := List.length_filter_le (fun p : Str × Nat => decide (p.1 ≠ n)) s.board
    show (s.board.filter _).length + j ≤ _
    omega
end
/-- how many statements -/
def Bdy.size : Bdy → Nat
  | .nil => 0
  | .sim _ r => r.size + 1
  | .tri _ _ h r => h.size + r.size + 2
theorem finR_steps (s : PS) (f : Nat) (src : Option (Option Str)) : (finR s f src).2.steps = s.steps ∧ (finR s f src).2.board = s.board ∧ (finR s f src).2.hand = s.hand := by
  have key : ∀ (s : PS) f, (raised s f).steps = s.steps ∧ (raised s f).board = s.board ∧ (raised s f).hand = s.hand := fun s f => by
    unfold raised
    cases s.hand.getLast? with
    | none => exact ⟨rfl, rfl, rfl⟩
    | some h =>
      show (if h = f then s else _).steps = _ ∧ (if h = f then s else _).board = _ ∧ (if h = f then s else _).hand = _
      by_cases e : h = f
      · rw [if_pos e]; exact ⟨rfl, rfl, rfl⟩
      · rw [if_neg e]; exact ⟨rfl, rfl, rfl⟩
  cases src with
  | none => exact key s f
  | some o => exact key _ f
theorem fail_steps (s : PS) (a b : Str) : (fail s a b).2.steps = s.steps ∧ (fail s a b).2.board = s.board ∧ (fail s a b).2.hand = s.hand := finR_steps (made s a b) s.rows.length none
/-- a simple statement leaves steps, board and hand -/
theorem execS_keeps (x : Sim) (s : PS) : (execS x s).2.steps = s.steps ∧ (execS x s).2.board = s.board ∧ (execS x s).2.hand = s.hand := by
  cases x with
  | note i => exact ⟨rfl, rfl, rfl⟩
  | again =>
    show (match s.hand.getLast? with | some h => (some h, s) | none => fail s "State" "nothing handled").2.steps = _ ∧ (match s.hand.getLast? with | some h => (some h, s) | none => fail s "State" "nothing handled").2.board = _ ∧ (match s.hand.getLast? with | some h => (some h, s) | none => fail s "State" "nothing handled").2.hand = _
    cases s.hand.getLast? with
    | some h => exact ⟨rfl, rfl, rfl⟩
    | none => exact fail_steps ..
  | raise a l src =>
    have e : execS (.raise a l src) s = (match missing s.board src with | some n => fail s "Name" n | none => finR (made s a l) s.rows.length src) := rfl
    rw [e]
    cases missing s.board src with
    | some n => exact fail_steps s _ n
    | none => exact finR_steps (made s a l) s.rows.length src
  | throw n src =>
    have e : execS (.throw n src) s = (match bget s.board n with | none => fail s "Name" n | some f => (match missing s.board src with | some m => fail s "Name" m | none => finR s f src)) := rfl
    rw [e]
    cases bget s.board n with
    | none => exact fail_steps s _ n
    | some f =>
      show (match missing s.board src with | some m => fail s "Name" m | none => finR s f src).2.steps = _ ∧ (match missing s.board src with | some m => fail s "Name" m | none => finR s f src).2.board = _ ∧ (match missing s.board src with | some m => fail s "Name" m | none => finR s f src).2.hand = _
      cases missing s.board src with
      | some n => exact fail_steps s _ n
      | none => exact finR_steps s f src
theorem exec_steps : ∀ (b : Bdy) (s : PS), (exec b s).2.steps ≤ s.steps + b.size
  | .nil, s => Nat.le_refl _
  | .sim x r, s => by
    unfold exec
    have h1 := (execS_keeps x (tick s)).1
    cases e : execS x (tick s) with
    | mk o s1 =>
      rw [e] at h1
      have h1 : s1.steps = s.steps + 1 := h1
      show (match (o, s1) with | (none, s1) => exec r s1 | (some f, s1) => (some f, s1)).2.steps ≤ s.steps + (r.size + 1)
      cases o with
      | none => have := exec_steps r s1; show (exec r s1).2.steps ≤ _; omega
      | some f => show s1.steps ≤ _; omega
  | .tri x nm h r, s => by
    unfold exec
    have h1 := (execS_keeps x (tick (tick s))).1
    cases e : execS x (tick (tick s)) with
    | mk o s1 =>
      rw [e] at h1
      have h1 : s1.steps = s.steps + 1 + 1 := h1
      show (match (o, s1) with | (none, s1) => (none, s1) | (some f, s1) => match exec h (pushB nm f s1) with | (none, s3) => exec r (popB nm s3) | (some g, s3) => (some g, popB nm s3)).2.steps ≤ s.steps + (h.size + r.size + 2)
      cases o with
      | none => show s1.steps ≤ _; omega
      | some f =>
        have h2 := exec_steps h (pushB nm f s1)
        show (match exec h (pushB nm f s1) with | (none, s3) => exec r (popB nm s3) | (some g, s3) => (some g, popB nm s3)).2.steps ≤ _
        cases e2 : exec h (pushB nm f s1) with
        | mk o2 s3 =>
          rw [e2] at h2
          have h2 : s3.steps ≤ s1.steps + h.size := h2
          cases o2 with
          | none =>
            have h3 := exec_steps r (popB nm s3)
            have h3 : (exec r (popB nm s3)).2.steps ≤ s3.steps + r.size := h3
            show (exec r (popB nm s3)).2.steps ≤ _
            omega
          | some g => show s3.steps ≤ _; omega
theorem WF.exec : ∀ (b : Bdy) (s : PS), b.hot = true → WF 0 0 s → WF 0 0 (exec b s).2 ∧ ∀ f, (exec b s).1 = some f → f < (exec b s).2.rows.length
  | .nil, s, _, w => ⟨w, fun f h => nomatch h⟩
  | .sim x r, s, hb, w => by
    have w1 := w.tick.execS x
    have l1 := fun f => execS_lt w.tick x (f := f)
    unfold EX.exec
    cases e : EX.execS x (EX.tick s) with
    | mk o s1 =>
      rw [e] at w1 l1
      show WF 0 0 (match (o, s1) with | (none, s1) => EX.exec r s1 | (some f, s1) => (some f, s1)).2 ∧ ∀ f, (match (o, s1) with | (none, s1) => EX.exec r s1 | (some f, s1) => (some f, s1)).1 = some f → f < (match (o, s1) with | (none, s1) => EX.exec r s1 | (some f, s1) => (some f, s1)).2.rows.length
      cases o with
      | none => exact WF.exec r s1 hb (w1.mono (Nat.le_refl _) (by omega))
      | some f => exact ⟨w1.mono (Nat.le_refl _) (by omega), l1⟩
  | .tri x nm h r, s, hb, w => by
    have hb1 : x.hot = true ∧ (h.hot && r.hot) = true := Bool.and_eq_true_iff.mp hb
    have hb2 := Bool.and_eq_true_iff.mp hb1.2
    have w1 := w.tick.tick.execS x
    have l1 := fun f => execS_lt w.tick.tick x (f := f)
    obtain ⟨f, s1, e⟩ := execS_hot hb1.1 (EX.tick (EX.tick s))
    have e2 : EX.exec (.tri x nm h r) s = (match EX.exec h (EX.pushB nm f s1) with | (none, s3) => EX.exec r (EX.popB nm s3) | (some g, s3) => (some g, EX.popB nm s3)) := by
      show (match EX.execS x (EX.tick (EX.tick s)) with | (none, s1) => (none, s1) | (some f, s1) => match EX.exec h (EX.pushB nm f s1) with | (none, s3) => EX.exec r (EX.popB nm s3) | (some g, s3) => (some g, EX.popB nm s3)) = _
      rw [e]
    rw [e2]
    rw [e] at w1 l1
    have w2 := WF.exec h (EX.pushB nm f s1) hb2.1 ((w1.mono (k' := 0) (j' := 1) (by omega) (by omega)).pushB nm (l1 f rfl))
    cases e3 : EX.exec h (EX.pushB nm f s1) with
    | mk o2 s3 =>
      rw [e3] at w2
      have w3 := w2.1.popB nm
      cases o2 with
      | none => exact WF.exec r (EX.popB nm s3) hb2.2 w3
      | some g => exact ⟨w3, w2.2⟩
/-- no new name is left -/
theorem exec_board : ∀ (b : Bdy) (s : PS), b.hot = true → ∀ p ∈ (exec b s).2.board, ∃ q ∈ s.board, q.1 = p.1
  | .nil, s, _, p, hp => ⟨p, hp, rfl⟩
  | .sim x r, s, hb, p, hp => by
    unfold exec at hp
    have h1 := (execS_keeps x (tick s)).2.1
    cases e : execS x (tick s) with
    | mk o s1 =>
      rw [e] at h1 hp
      have h1 : s1.board = s.board := h1
      cases o with
      | none =>
        replace h1 : s1.board = s.board := h1
        obtain ⟨q, hq, e1⟩ := exec_board r s1 hb p hp
        exact ⟨q, by rw [← h1]; exact hq, e1⟩
      | some f =>
        have h2 : s1.board = s.board := h1
        exact ⟨p, by rw [← h2]; exact hp, rfl⟩
  | .tri x nm h r, s, hb, p, hp => by
    have hb1 : x.hot = true ∧ (h.hot && r.hot) = true := Bool.and_eq_true_iff.mp hb
    have hb2 := Bool.and_eq_true_iff.mp hb1.2
    have h1 := (execS_keeps x (tick (tick s))).2.1
    obtain ⟨f, s1, e⟩ := execS_hot hb1.1 (tick (tick s))
    have e2 : exec (.tri x nm h r) s = (match exec h (pushB nm f s1) with | (none, s3) => exec r (popB nm s3) | (some g, s3) => (some g, popB nm s3)) := by
      show (match execS x (tick (tick s)) with | (none, s1) => (none, s1) | (some f, s1) => match exec h (pushB nm f s1) with | (none, s3) => exec r (popB nm s3) | (some g, s3) => (some g, popB nm s3)) = _
      rw [e]
    rw [e2] at hp
    rw [e] at h1
    have h1 : s1.board = s.board := h1
    have back : ∀ s3, (exec h (pushB nm f s1)).2 = s3 → ∀ p ∈ (popB nm s3).board, ∃ q ∈ s.board, q.1 = p.1 := fun s3 e3 p hp => by
      have hp : p ∈ bdropO nm s3.board := hp
      have ih := exec_board h (pushB nm f s1) hb2.1
      rw [e3] at ih
      cases nm with
      | none =>
        obtain ⟨q, hq, e4⟩ := ih p hp
        exact ⟨q, by rw [← h1]; exact hq, e4⟩
      | some n =>
        obtain ⟨m1, m2⟩ := List.mem_filter.mp hp
        obtain ⟨q, hq, e4⟩ := ih p m1
        have hq : q ∈ bput s1.board n f := hq
        rcases bput_mem hq with z | z
        · exact ⟨q, by rw [← h1]; exact z, e4⟩
        · have m3 : p.1 ≠ n := of_decide_eq_true m2
          exact absurd (by rw [← e4, z]) m3
    cases e3 : exec h (pushB nm f s1) with
    | mk o2 s3 =>
      rw [e3] at hp
      have bk := back s3 (by rw [e3])
      cases o2 with
      | none =>
        obtain ⟨q, hq, e4⟩ := exec_board r (popB nm s3) hb2.2 p hp
        obtain ⟨q2, hq2, e5⟩ := bk q hq
        exact ⟨q2, hq2, by rw [e5, e4]⟩
      | some g => exact bk p hp
end L2.EX
namespace L2.EX
open PySem PySem.Spec PyProof.Rows Evl
/-! What a reading evaluates to (Evl), widened: fields, properties, methods, tests over signs, comprehensions over a text or a tuple. -/
section
variable {K : PySem.W.Frag} {σ : L2.St} {H H' : Hp} {ta tb te tx tc : TE} {t u : TT} {x y z v : V} {r : R2} {a C dx : Addr} {fs : List (Str × V)} {f : Str}
theorem ev_fld (h : Ev te σ H (.ref a)) (ho : H a = some (.ins C dx fs)) (c : Cls K C) (n : NoAttr K C f) (l : fs.lookup f = some v) : Ev (tFld K te f) σ H v := fun H1 e _ q =>
  h H1 e _ fun H2 e2 => ⟨a, C, dx, fs, v, rfl, (e.trans e2) a _ ho, c, n, l, q H2 e2⟩
theorem ev_prop {sp : Sp} {dvs : List V} {E : XK} (h : Ev te σ H (.ref a)) (ho : H a = some (.ins C dx fs)) (s : SpV sp (.ref a :: dvs) H z) : Ev (tProp C sp dvs E te) σ H z := fun H1 e Q q =>
  h H1 e _ fun H2 e2 => ⟨a, dx, fs, rfl, (e.trans e2) a _ ho, s H2 (e.trans e2) Q (fun H3 e3 => q H3 (e2.trans e3)) E⟩
theorem ev_meth {sp : Sp} {dvs vs : List V} {E : XK} {m : Str} {tr : TA} (h : Ev te σ H (.ref a)) (ho : H a = some (.ins C dx fs)) (hm : fs.lookup m = none) (ha : EvA tr σ H vs) (s : SpV sp (.ref a :: (vs ++ dvs)) H z) : Ev (tMeth C m sp dvs E te tr) σ H z := fun H1 e Q q =>
  h H1 e _ fun H2 e2 => ⟨a, dx, fs, rfl, (e.trans e2) a _ ho, hm, ha H2 (e.trans e2) _ fun H3 e3 => s H3 ((e.trans e2).trans e3) Q (fun H4 e4 => q H4 ((e2.trans e3).trans e4)) E⟩
theorem ev_isi {c : V} {ty u : Value} {b : Bool} (hx : Ev ta σ H x) (hc : Ev tc σ H c) (k : ClsV c u) (t : ∀ H1, Ex H H1 → TyX K H1 x ty) (e : PySem.W.kitOne K ty u = some b) : Ev (tCB (rIsi K) (tCons ta (tCons tc tNil))) σ H (.bl b) := fun H1 e1 Q q =>
  hx H1 e1 _ fun H2 e2 => hc H2 (e1.trans e2) _ fun H3 e3 => ⟨x, c, ty, u, b, rfl, k, t H3 ((e1.trans e2).trans e3), e, q H3 (e2.trans e3)⟩
theorem ev_chain {r r' : R2} {b1 b2 : Bool} (ha : Ev ta σ H x) (hb : Ev tb σ H y) (h1 : RV r x y H (.bl b1)) (hc : b1 = true → Ev tc σ H z) (h2 : b1 = true → RV r' y z H (.bl b2)) : Ev (tChain r r' ta tb tc) σ H (.bl (b1 && b2)) := fun H1 e Q q =>
  ha H1 e _ fun H2 e2 => hb H2 (e.trans e2) _ fun H3 e3 => h1 H3 ((e.trans e2).trans e3) _ fun H4 e4 => ⟨b1, rfl, by
    cases b1 with
    | true =>
      show tc σ H4 _
      exact hc rfl H4 (((e.trans e2).trans e3).trans e4) _ fun H5 e5 => h2 rfl H5 ((((e.trans e2).trans e3).trans e4).trans e5) Q fun H6 e6 => q H6 ((((e2.trans e3).trans e4).trans e5).trans e6)
    | false =>
      show Q (.bl false) H4
      exact q H4 ((e2.trans e3).trans e4)⟩
theorem isi_str {x : Str} (b : String) (r : Bool) (hx : Ev ta σ H (.str x)) (e : kitB "str" b = some r := by decide +kernel) : Ev (tCB (rIsi K) (tCons ta (tCons (tC (.ty b)) tNil))) σ H (.bl r) := ev_isi hx ev_c (.ty b) (fun _ _ => .base (.str x)) (kit_ty e)
theorem isi_int {x : Int} (b : String) (r : Bool) (hx : Ev ta σ H (.int x)) (e : kitB "int" b = some r := by decide +kernel) : Ev (tCB (rIsi K) (tCons ta (tCons (tC (.ty b)) tNil))) σ H (.bl r) := ev_isi hx ev_c (.ty b) (fun _ _ => .base (.int x)) (kit_ty e)
theorem isi_non (b : String) (r : Bool) (hx : Ev ta σ H .non) (e : kitB "NoneType" b = some r := by decide +kernel) : Ev (tCB (rIsi K) (tCons ta (tCons (tC (.ty b)) tNil))) σ H (.bl r) := ev_isi hx ev_c (.ty b) (fun _ _ => .base .non) (kit_ty e)
theorem isi_tup {p : Addr} {xs : List V} (b : String) (r : Bool) (hx : Ev ta σ H (.ref p)) (hp : H p = some (.tup xs)) (e : kitB "tuple" b = some r := by decide +kernel) : Ev (tCB (rIsi K) (tCons ta (tCons (tC (.ty b)) tNil))) σ H (.bl r) := ev_isi hx ev_c (.ty b) (fun _ e1 => .base (.tup (e1 p _ hp))) (kit_ty e)
theorem rv_isN : RV (fun x y H Q => y = .non ∧ Q (.bl (decide (x = .non))) H) x .non H (.bl (decide (x = .non))) := fun H1 _ _ q => ⟨rfl, q H1 (Ex.refl H1)⟩
theorem rv_notN : RV (fun x y H Q => y = .non ∧ Q (.bl (!decide (x = .non))) H) x .non H (.bl (!decide (x = .non))) := fun H1 _ _ q => ⟨rfl, q H1 (Ex.refl H1)⟩
def leS (a b : Str) : Bool := !decide (b.cps.toList < a.cps.toList)
theorem rv_leS {a b : Str} : RV (fun x y H Q => ∃ i j, x = .str i ∧ y = .str j ∧ Q (.bl (!decide (j.cps.toList < i.cps.toList))) H) (.str a) (.str b) H (.bl (leS a b)) := fun H1 _ _ q => ⟨a, b, rfl, rfl, q H1 (Ex.refl H1)⟩
theorem rc_len {n : Nat} (h : ∀ H1, Ex H H1 → LenV K x H1 n) : RC (fun xs H Q => ∃ x n, xs = [x] ∧ LenV K x H n ∧ Q (.int n) H) [x] H (.int n) := fun H1 e _ q => ⟨x, n, rfl, h H1 e, q H1 (Ex.refl H1)⟩
theorem ev_all {bs : List Bool} (h : EvL te σ H (bs.map V.bl)) : Ev (tCB (rAll K) (tCons te tNil)) σ H (.bl (bs.all id)) := fun H1 e Q q => h H1 e _ fun p H2 _ e2 hp => ⟨p, bs, rfl, sq_of hp, q H2 e2⟩
theorem given_all {n : Nat} {v : Nat → V} : given n (fun _ => true) v = (List.range n).map v := by
  unfold given
  rw [List.filter_eq_self.mpr fun _ _ => rfl]
/-- over a text -/
theorem el_lcS {w : Str} {tl : TE} {j : Nat} {vs : List Nat} (v : Nat → V) (h : Ev tl σ H (.str w)) (hz : w.cps.size ≤ 40000) (hw : ∀ x, wipe ((wipe σ vs).set j (some x)) vs = wipe σ vs)
    (he : ∀ (i c : Nat) H1, Ex H H1 → w.cps[i]? = some c → Ev te ((wipe σ vs).set j (some (.str ⟨#[c]⟩))) H1 (v i)) :
    EvL (tLc (iStr tl) (gName j) tYes te vs) σ H ((List.range w.cps.size).map v) := fun H0 e Q q => h H0 e _ fun H1 e1 => ⟨w, rfl, fun Dl hD =>
  lc_by (J := Its w) w.cps.size (Cw H1 (fun _ => true) v Dl) ⟨hD, Ex.new hD, upd_same⟩ (fun i H' hi _ => hi) (fun H' _ => Nat.le_refl _) (fun i x H' H2 hi p y => by
    obtain ⟨rfl, c, hc, rfl⟩ := y
    exact ⟨hw _, cw_turn (t := tYes) p (by omega) (fun H3 _ Q q => q H3 (Ex.refl H3)) fun _ => he i c H1 (e.trans e1) hc⟩) (fun H' p => q Dl H' (fresh_back e1 p.1) (e1.trans p.2.1) (by rw [← given_all]; exact p.2.2))⟩
/-- over a tuple -/
theorem el_lcT {a : Addr} {xs : List V} {tl : TE} {j : Nat} {vs : List Nat} (f : Nat → Bool) (v : Nat → V) (h : Ev tl σ H (.ref a)) (hx : SqT K H a xs) (hz : xs.length ≤ 40000) (hw : ∀ x, wipe ((wipe σ vs).set j (some x)) vs = wipe σ vs)
    (ht : ∀ (i : Nat) (x : V) H1, Ex H H1 → xs[i]? = some x → EvT t ((wipe σ vs).set j (some x)) H1 (f i)) (he : ∀ (i : Nat) (x : V) H1, Ex H H1 → xs[i]? = some x → f i = true → Ev te ((wipe σ vs).set j (some x)) H1 (v i)) :
    EvL (tLc (iTup K tl) (gName j) t te vs) σ H (given xs.length f v) := fun H0 e Q q => h H0 e _ fun H1 e1 => ⟨a, rfl, ⟨xs, ex_t (e.trans e1) hx⟩, fun Dl hD =>
  lc_tup (xs := xs) (Cw H1 f v Dl) ⟨hD, Ex.new hD, upd_same⟩ (fun i H' _ p => ex_t ((e.trans e1).trans p.2.1) hx) (fun i x H' hi p => ⟨hw x, cw_turn p (by have := (List.getElem?_eq_some_iff.mp hi).1; omega) (ht i x H1 (e.trans e1) hi) (fun hf => he i x H1 (e.trans e1) hi hf)⟩)
    (fun H' p => q Dl H' (fresh_back e1 p.1) (e1.trans p.2.1) p.2.2)⟩
/-- a def whose value alone is promised -/
def Pur (R : List V → Hp → V → Prop) : Sp := fun vs H Q _ => ∃ z, R vs H z ∧ ∀ H', Ex H H' → Q z H'
theorem pur_v {R : List V → Hp → V → Prop} {vs : List V} (h : ∀ H1, Ex H H1 → R vs H1 z) : SpV (free (Pur R)) vs H z := fun H1 e _ q _ => ⟨z, h H1 e, fun H' e' _ => q H' e'⟩
theorem pur_at {R : List V → Hp → V → Prop} {vs : List V} {Q : VK} {E : XK} (h : R vs H z) (k : ∀ H', Ex H H' → TP H H' → Q z H') : free (Pur R) vs H Q E := ⟨z, h, fun H' e' t => k H' e' t⟩
theorem own_ex {H0 : Hp} {l : List (Addr × HO)} (w : Own H0 H l) (e : Ex H H') : Own H0 H' l := w.grow e
end
end L2.EX
namespace L2.EX
open PySem PySem.Spec PyProof.Rows Evl
/-! Objects of the run: their attributes; the state of a run in memory. -/
def rFs (T B L F : Addr) (n : Int) (A : Addr) : List (Str × V) := [("s3_tree", .ref T), ("s3_limit", .int 2000), ("s3_is_spoiled", .bl false), ("s3_board", .ref B), ("s3_log", .ref L), ("s3_faults", .ref F), ("s3_steps", .int n), ("s3_active", .ref A), ("s4_opened", .int 0)]
def refF (fa : List (Addr × Addr)) (i : Nat) : V := .ref (fa.getD i (0, 0)).1
def refO (fa : List (Addr × Addr)) : Option Nat → V
  | none => .non
  | some i => refF fa i
def fFs (k l : Str) (n : Int) (c u : V) (h : Bool) : List (Str × V) := [("s1_kind", .str k), ("s1_label", .str l), ("s1_number", .int n), ("s1_context", c), ("s1_cause", u), ("s1_hides", .bl h)]
def fcell (K : Frg) (fa : List (Addr × Addr)) (i : Nat) (r : FR) : Addr × HO := ((fa.getD i (0, 0)).1, .ins (a_Fault K) (fa.getD i (0, 0)).2 (fFs r.kind r.label i (refO fa r.ctx) (refO fa r.cause) r.hides))
def fcells (K : Frg) (fa : List (Addr × Addr)) (rows : List FR) : List (Addr × HO) := rows.mapIdx fun i r => fcell K fa i r
theorem fcells_at {K : Frg} {fa : List (Addr × Addr)} {rows : List FR} {i : Nat} {r : FR} (h : rows[i]? = some r) : (fcells K fa rows)[i]? = some (fcell K fa i r) := by
  unfold fcells
  rw [List.getElem?_mapIdx, h]
  rfl
theorem fcells_len {K : Frg} {fa : List (Addr × Addr)} {rows : List FR} : (fcells K fa rows).length = rows.length := List.length_mapIdx
theorem fcells_set {K : Frg} {fa : List (Addr × Addr)} {rows : List FR} {i : Nat} {r : FR} : fcells K fa (rows.set i r) = (fcells K fa rows).set i (fcell K fa i r) := by
  unfold fcells
  refine List.ext_getElem (by simp) fun j h1 h2 => ?_
  simp only [List.getElem_mapIdx, List.getElem_set]
  by_cases e : i = j
  · subst e
    simp
  · simp [e]
theorem modify_set {rows : List FR} {i : Nat} {r : FR} {g : FR → FR} (h : rows[i]? = some r) : rows.modify i g = rows.set i (g r) := by
  refine List.ext_getElem? fun j => ?_
  rw [List.getElem?_modify, List.getElem?_set]
  by_cases e : i = j
  · subst e
    rw [h]
    have := (List.getElem?_eq_some_iff.mp h).1
    simp [this]
  · simp [e]
theorem row_at {rows : List FR} {i : Nat} (h : i < rows.length) : ∃ r, rows[i]? = some r := ⟨rows[i], List.getElem?_eq_getElem h⟩
section
variable {K : Frg} {fa fa' : List (Addr × Addr)} {rows : List FR} {H0 H H' : Hp} {A : List (Addr × HO)}
/-- the faults' addresses differ -/
theorem refF_inj (w : Own H0 H (A ++ fcells K fa rows)) {i j : Nat} (hi : i < rows.length) (hj : j < rows.length) (e : refF fa i = refF fa j) : i = j := by
  have nd : (A.map (·.1) ++ (fcells K fa rows).map (·.1)).Nodup := by rw [← List.map_append]; exact w.nd
  have n2 := (List.nodup_append.mp nd).2.1
  have at_ : ∀ i, (h : i < rows.length) → ((fcells K fa rows).map (·.1))[i]'(by rw [List.length_map, fcells_len]; exact h) = (fa.getD i (0, 0)).1 := fun i h => by
    simp [fcells, fcell]
  have e' : (fa.getD i (0, 0)).1 = (fa.getD j (0, 0)).1 := V.ref.inj e
  exact (List.getElem_inj n2).mp ((at_ i hi).trans (e'.trans (at_ j hj).symm))
theorem fault_at (w : Own H0 H (A ++ fcells K fa rows)) {i : Nat} {r : FR} (h : rows[i]? = some r) : H (fa.getD i (0, 0)).1 = some (.ins (a_Fault K) (fa.getD i (0, 0)).2 (fFs r.kind r.label i (refO fa r.ctx) (refO fa r.cause) r.hides)) :=
  w.at_ (fcell K fa i r) (List.mem_append_right _ (List.mem_of_getElem? (fcells_at h)))
theorem fcells_ix (A : List (Addr × HO)) {i : Nat} {r : FR} (h : rows[i]? = some r) : (A ++ fcells K fa rows)[A.length + i]? = some (fcell K fa i r) := by
  rw [List.getElem?_append_right (Nat.le_add_right _ _), Nat.add_sub_cancel_left]
  exact fcells_at h
theorem set_right (A B : List (Addr × HO)) (i : Nat) (x : Addr × HO) : (A ++ B).set (A.length + i) x = A ++ B.set i x := by
  rw [List.set_append_right _ _ (Nat.le_add_right _ _), Nat.add_sub_cancel_left]
/-- a fault is written -/
theorem fault_set (w : Own H0 H (A ++ fcells K fa rows)) {i : Nat} {r r' : FR} (h : rows[i]? = some r) : Own H0 (upd H (fa.getD i (0, 0)).1 (.ins (a_Fault K) (fa.getD i (0, 0)).2 (fFs r'.kind r'.label i (refO fa r'.ctx) (refO fa r'.cause) r'.hides))) (A ++ fcells K fa (rows.set i r')) := by
  have z := w.set (A.length + i) (a := (fa.getD i (0, 0)).1) (o' := .ins (a_Fault K) (fa.getD i (0, 0)).2 (fFs r'.kind r'.label i (refO fa r'.ctx) (refO fa r'.cause) r'.hides)) (fcells_ix A h)
  rw [set_right] at z
  rw [fcells_set]
  exact z
end
section
variable {K : Frg} {σ : L2.St} {H H' : Hp} {ta tb te tx tv : TE} {t u : TT} {x y z v : V} {a C dx : Addr} {fs : List (Str × V)} {f : Str} {D : Ends} {tz : TS}
theorem s_fld (hv : Ev tv σ H y) (ha : Ev ta σ H (.ref a)) (ho : H a = some (.ins C dx fs)) (c : Cls K C) (n : NoAttr K C f) (hl : fs.length < 1000) (k : ∀ H1, Ex H H1 → D.nx σ (upd H1 a (.ins C dx (putF f y fs)))) : sFld K ta tv f D σ H :=
  hv H (Ex.refl H) _ fun H1 e1 => ha H1 e1 _ fun H2 e2 => ⟨a, C, dx, fs, rfl, (e1.trans e2) a _ ho, c, n, hl, k H2 (e1.trans e2)⟩
theorem q_fld (hv : Ev tv σ H y) (ha : Ev ta σ H (.ref a)) (ho : H a = some (.ins C dx fs)) (c : Cls K C) (n : NoAttr K C f) (hl : fs.length < 1000) (k : ∀ H1, Ex H H1 → tz D σ (upd H1 a (.ins C dx (putF f y fs)))) : tSeq (sFld K ta tv f) tz D σ H := s_fld (D := { D with nx := tz D }) hv ha ho c n hl k
theorem s_fldL {xs : List V} (hv : EvL tv σ H xs) (ha : Ev ta σ H (.ref a)) (ho : H a = some (.ins C dx fs)) (c : Cls K C) (n : NoAttr K C f) (hl : fs.length < 1000) (k : ∀ p H1, H p = none → Ex H H1 → H1 p = some (.lst xs) → D.nx σ (upd H1 a (.ins C dx (putF f (.ref p) fs)))) : sFld K ta tv f D σ H :=
  hv H (Ex.refl H) _ fun p H1 hp e1 h1 => ha H1 e1 _ fun H2 e2 => ⟨a, C, dx, fs, rfl, (e1.trans e2) a _ ho, c, n, hl, k p H2 hp (e1.trans e2) (e2 p _ h1)⟩
/-- o.f += n -/
theorem s_fldadd {i j : Int} (hv : Ev tv σ H (.int j)) (ha : Ev ta σ H (.ref a)) (ho : H a = some (.ins C dx fs)) (c : Cls K C) (n : NoAttr K C f) (l : fs.lookup f = some (.int i)) (hl : fs.length < 1000) (k : ∀ H1, Ex H H1 → D.nx σ (upd H1 a (.ins C dx (putF f (.int (i + j)) fs)))) :
    sFldAug K ta tv rAdd f D σ H := ha H (Ex.refl H) _ fun H1 e1 => ⟨a, C, dx, fs, .int i, rfl, e1 a _ ho, c, n, l, hv H1 e1 _ fun H2 e2 => ⟨i, j, rfl, rfl, dx, fs, (e1.trans e2) a _ ho, hl, k H2 (e1.trans e2)⟩⟩
theorem q_fldadd {i j : Int} (hv : Ev tv σ H (.int j)) (ha : Ev ta σ H (.ref a)) (ho : H a = some (.ins C dx fs)) (c : Cls K C) (n : NoAttr K C f) (l : fs.lookup f = some (.int i)) (hl : fs.length < 1000) (k : ∀ H1, Ex H H1 → tz D σ (upd H1 a (.ins C dx (putF f (.int (i + j)) fs)))) :
    tSeq (sFldAug K ta tv rAdd f) tz D σ H := s_fldadd (D := { D with nx := tz D }) hv ha ho c n l hl k
/-- two instances of one class: == and != -/
theorem rv_inst {g : Bool → Bool} {b dx' : Addr} {fs' : List (Str × V)} (ha : H a = some (.ins C dx fs)) (hb : H b = some (.ins C dx' fs')) (c : CmpC K C) : RV (rInst K g) (.ref a) (.ref b) H (.bl (g (decide (a = b)))) := fun H1 e _ q => ⟨a, b, C, dx, fs, dx', fs', rfl, rfl, e a _ ha, e b _ hb, c, q H1 (Ex.refl H1)⟩
end
/-! ### need_fault, raise_under, with_cause, number_of -/
noncomputable def under (rows : List FR) (f : Nat) : Option Nat → List FR := fun h => match h with
  | none => rows
  | some h => if h = f then rows else setCtx (setCtx rows (endp rows f h) none) f (some h)
theorem raised_under (s : PS) (f : Nat) : raised s f = { s with rows := under s.rows f s.hand.getLast? } := by
  unfold raised under
  cases s.hand.getLast? with
  | none => rfl
  | some h =>
    show (if h = f then s else _) = { s with rows := if h = f then s.rows else _ }
    by_cases e : h = f
    · rw [if_pos e, if_pos e]
    · rw [if_neg e, if_neg e]
section
variable {P : Program} {w : World} {K : Frg} {mg : Str → Option Value} {base : Heap}
def sp_need_fault (K : Frg) : Sp := Pur fun vs H z => ∃ a dx fs, vs = [.ref a] ∧ H a = some (.ins (a_Fault K) dx fs) ∧ z = .non
theorem ok_need_fault (T : Tx w K mg) : FOk P w K mg base 1 (f_need_fault K) ["value"] [] (sp_need_fault K) := by
  obtain ⟨fd, F⟩ := T.d_need_fault
  refine ⟨⟨fd, [], F.ok sc_need_fault (fun vs H Q E h => ?_) (fun cdv A outer s H vs Q E hr h => ?_), F.bindsN fun _ _ _ _ _ _ us hl => match us, hl with | [_], _ => rfl, .nil⟩, F.kp⟩
  · obtain ⟨z, ⟨a, dx, fs, rfl, _, rfl⟩, _⟩ := h
    rfl
  · obtain ⟨z, ⟨a, dx, fs, rfl, h1, rfl⟩, k⟩ := h
    refine ⟨_, (PSs.nox (pss_one (ps_if (pt_not (pt_val (pe_callB call_isi rfl T.z_isinstance boot_isinstance (pa_cons (pv 0) (pa_cons (pe_gref rfl T.g_Fault) pa_nil))))) pss_never pss_nil))), ?_⟩
    exact s_when (b := false) (et_not (et_B (ev_isi (b := true) (ev_var rfl) ev_c (.own _) (fun H1 e1 => T.y_Fault.ty (e1 a _ h1)) T.o_Fault))) (fun q => Bool.noConfusion q) fun _ H1 e1 => k H1 e1
def sp_need_fault_or_none (K : Frg) : Sp := Pur fun vs H z => (vs = [.non] ∨ ∃ a dx fs, vs = [.ref a] ∧ H a = some (.ins (a_Fault K) dx fs)) ∧ z = .non
theorem ok_need_fault_or_none (T : Tx w K mg) (F_need_fault : FOk P w K mg base 1 (f_need_fault K) ["value"] [] (sp_need_fault K)) : FOk P w K mg base 2 (f_need_fault_or_none K) ["value"] [] (sp_need_fault_or_none K) := by
  obtain ⟨fd, F⟩ := T.d_need_fault_or_none
  refine ⟨⟨fd, [], F.ok sc_need_fault_or_none (fun vs H Q E h => ?_) (fun cdv A outer s H vs Q E hr h => ?_), F.bindsN fun _ _ _ _ _ _ us hl => match us, hl with | [_], _ => rfl, .nil⟩, F.kp⟩
  · obtain ⟨z, ⟨rfl | ⟨a, dx, fs, rfl, _⟩, _⟩, _⟩ := h <;> rfl
  · obtain ⟨z, ⟨h1, rfl⟩, k⟩ := h
    refine ⟨_, (PSs.nox (pss_one (ps_if (pt_cmpR op_notN (pv 0) pe_non (nomark _)) (pss_one (ps_expr (pk_call F_need_fault hr rfl T.g_need_fault (pa_cons (pv 0) pa_nil)))) pss_nil))), ?_⟩
    rcases h1 with rfl | ⟨a, dx, fs, rfl, h1⟩
    · exact s_when (b := false) (et_test (ev_op (ev_var rfl) ev_c rv_notN)) (fun q => Bool.noConfusion q) fun _ H1 e1 => k H1 e1
    · exact s_when (b := true) (et_test (ev_op (ev_var rfl) ev_c rv_notN)) (fun _ H1 e1 => s_drop (ev_call (ea_cons (ev_var rfl) ea_nil) (pur_v fun H2 e2 => ⟨a, dx, fs, rfl, e2 a _ (e1 a _ h1), rfl⟩)) fun H2 e2 => k H2 (e1.trans e2)) fun q => Bool.noConfusion q
/-- the rows as they stand in memory, among others -/
def sp_raise_under (K : Frg) : Sp := fun vs H Q _ => ∃ (H0 : Hp) (fa : List (Addr × Addr)) (rows : List FR) (f : Nat) (h : Option Nat), vs = [refF fa f, refO fa h] ∧ Own H0 H (fcells K fa rows) ∧ f < rows.length ∧ (∀ i, h = some i → i < rows.length) ∧
  (∀ i c, ctxOf rows i = some c → c < rows.length) ∧ (∃ r : Nat → Nat, ∀ i c, ctxOf rows i = some c → r c < r i) ∧ ∀ H', Own H0 H' (fcells K fa (under rows f h)) → Q .non H'
theorem ok_raise_under (T : Tx w K mg) (F_need_fault : FOk P w K mg base 1 (f_need_fault K) ["value"] [] (sp_need_fault K)) (F_need_fault_or_none : FOk P w K mg base 2 (f_need_fault_or_none K) ["value"] [] (sp_need_fault_or_none K)) :
    FOk P w K mg base 3 (f_raise_under K) ["fault", "handled"] [] (sp_raise_under K) := by
  obtain ⟨fd, F⟩ := T.d_raise_under
  refine ⟨⟨fd, [], F.ok sc_raise_under (fun vs H Q E h => ?_) (fun cdv A outer s H vs Q E hr h => ?_), F.bindsN fun _ _ _ _ _ _ us hl => match us, hl with | [_, _], _ => rfl, .nil⟩, F.kp⟩
  · obtain ⟨H0, fa, rows, f, h, rfl, _⟩ := h
    rfl
  · obtain ⟨H0, fa, rows, f, h, rfl, wn, hf, hh, hc, ⟨rk, hrk⟩, k⟩ := h
    refine ⟨_, (PSs.nox (pss_cons (ps_expr (pk_call F_need_fault hr rfl T.g_need_fault (pa_cons (pv 0) pa_nil))) (pss_cons (ps_expr (pk_call F_need_fault_or_none hr rfl T.g_need_fault_or_none (pa_cons (pv 1) pa_nil))) (pss_cons (ps_if (PW.pt (pw_or (pt_cmpR op_isN (pv 1) pe_non (nomark _)) (pw_or1 (pt_cmpR (op_eqInst hr.units) (pv 1) (pv 0) (nomark _))))) (pss_one ps_retN) pss_nil) (pss_cons (ps_set (i := 2) sc_raise_under.nd rfl (Or.inl rfl) (pv 1)) (pss_cons (ps_while PassesOwn.never (PW.pt (pw_and (pt_cmpR op_notN (pe_fld (pv 2) rfl) pe_non (nomark _)) (pw_and1 (pt_cmpR (op_neInst hr.units) (pe_fld (pv 2) rfl) (pv 0) (nomark _))))) (pss_one (ps_set (i := 2) sc_raise_under.nd rfl (Or.inl rfl) (pe_fld (pv 2) rfl)))) (pss_cons (ps_fld (pv 2) pe_non rfl) (pss_one (ps_fld (pv 0) (pv 1) rfl))))))))), ?_⟩
    obtain ⟨rf, ef⟩ := row_at hf
    have atf : ∀ {H1}, Ex H H1 → ∀ {i r}, rows[i]? = some r → H1 (fa.getD i (0, 0)).1 = some (.ins (a_Fault K) (fa.getD i (0, 0)).2 (fFs r.kind r.label i (refO fa r.ctx) (refO fa r.cause) r.hides)) := fun e i r hr => e _ _ (fault_at (A := []) wn hr)
    refine q_drop (ev_call (ea_cons (ev_var rfl) ea_nil) (pur_v fun H2 e2 => ⟨_, _, _, rfl, atf e2 ef, rfl⟩)) fun H1 e1 => ?_
    cases h with
    | none =>
      refine q_drop (ev_call (ea_cons (ev_var rfl) ea_nil) (pur_v fun H2 e2 => ⟨.inl rfl, rfl⟩)) fun H2 e2 => ?_
      exact q_when (b := true) (et_or (a := true) (b := true) (et_test (ev_op (ev_var rfl) ev_c rv_isN)) fun q => Bool.noConfusion q) (fun _ H3 e3 => k H3 (wn.grow ((e1.trans e2).trans e3))) fun q => Bool.noConfusion q
    | some g =>
      have hg := hh g rfl
      obtain ⟨rg, eg⟩ := row_at hg
      refine q_drop (ev_call (ea_cons (ev_var rfl) ea_nil) (pur_v fun H2 e2 => ⟨.inr ⟨_, _, _, rfl, atf (e1.trans e2) eg⟩, rfl⟩)) fun H2 e2 => ?_
      have e12 := e1.trans e2
      have cmp : ∀ {H3 i j ri rj}, Ex H H3 → rows[i]? = some ri → rows[j]? = some rj → RV (rInst K id) (refF fa i) (refF fa j) H3 (.bl (decide (i = j))) := fun {H3 i j ri rj} e3 hi hj => by
        have z := rv_inst (g := id) (atf e3 hi) (atf e3 hj) T.q_Fault
        have e4 : decide ((fa.getD i (0, 0)).1 = (fa.getD j (0, 0)).1) = decide (i = j) := decide_eq_decide.mpr ⟨fun q => refF_inj (A := []) wn (List.getElem?_eq_some_iff.mp hi).1 (List.getElem?_eq_some_iff.mp hj).1 (congrArg V.ref q), fun q => by rw [q]⟩
        rw [e4] at z
        exact z
      refine q_when (b := decide (g = f)) (et_is (et_or (a := false) (et_test (ev_op (ev_var rfl) ev_c rv_isN)) fun _ => et_test (ev_op (ev_var rfl) (ev_var rfl) (cmp e12 eg ef))) (Bool.false_or _)) (fun q H3 e3 => ?_) fun q H3 e3 => ?_
      · have q' := of_decide_eq_true q
        refine k H3 ?_
        show Own H0 H3 (fcells K fa (if g = f then rows else _))
        rw [if_pos q']
        exact wn.grow (e12.trans e3)
      · have q' := of_decide_eq_false q
        have e13 := e12.trans e3
        refine q_asg (ev_var rfl) fun H4 e4 => ?_
        have e14 := e13.trans e4
        obtain ⟨e, he⟩ := endp_ex (f := f) hrk (rk g) g (Nat.le_refl _)
        have hel := he.lt hc hg
        refine q_while (fun m σ' H' => ∃ i, σ' = [some (refF fa f), some (refF fa g), some (refF fa i)] ∧ Ex H H' ∧ EndP rows f i e ∧ rk i ≤ m ∧ i < rows.length ∧ i ≠ f) (rk g) ⟨g, rfl, e14, he, Nat.le_refl _, hg, q'⟩ ?_
        rintro m σ' H' ⟨i, rfl, e5, hi, hm, hil, nif⟩
        obtain ⟨ri, ei⟩ := row_at hil
        have cx : ctxOf rows i = ri.ctx := by unfold ctxOf; rw [ei]; rfl
        have fld : ∀ {H6}, Ex H H6 → Ev (tFld K (tVar 2) "s1_context") [some (refF fa f), some (refF fa g), some (refF fa i)] H6 (refO fa ri.ctx) := fun e6 => ev_fld (ev_var rfl) (atf e6 ei) T.c_Fault T.n_Fault_s1_context rfl
        -- behind the loop
        have fin : i = e → ∀ H6, Ex H H6 → tSeq (sFld K (tVar 2) (tC .non) "s1_context") (sFld K (tVar 0) (tVar 1) "s1_context") { nx := fun _ H' => Q .non H', rt := Q } [some (refF fa f), some (refF fa g), some (refF fa i)] H6 := fun hie H6 e6 => by
          subst hie
          refine q_fld ev_c (ev_var rfl) (atf e6 ei) T.c_Fault T.n_Fault_s1_context (show 6 < 1000 by decide) fun H7 e7 => ?_
          have w7 := fault_set (A := []) (r' := { ri with ctx := none }) (wn.grow (e6.trans e7)) ei
          have ef' : (rows.set i { ri with ctx := none })[f]? = some rf := by rw [List.getElem?_set_ne nif]; exact ef
          refine s_fld (ev_var rfl) (ev_var rfl) (fault_at (A := []) w7 ef') T.c_Fault T.n_Fault_s1_context (show 6 < 1000 by decide) fun H8 e8 => ?_
          have w8 := fault_set (A := []) (r' := { rf with ctx := some g }) (w7.grow e8) ef'
          refine k _ ?_
          have eu : under rows f (some g) = (rows.set i { ri with ctx := none }).set f { rf with ctx := some g } := by
            show (if g = f then rows else setCtx (setCtx rows (endp rows f g) none) f (some g)) = _
            rw [if_neg q', endp_eq he]
            unfold setCtx
            rw [modify_set ei, modify_set ef']
          rw [eu]
          exact w8
        cases hctx : ri.ctx with
        | none =>
          rw [hctx] at fld cx
          refine ⟨false, et_is (et_and (a := false) (b := false) (et_test (ev_op (fld e5) ev_c rv_notN)) fun q => Bool.noConfusion q) rfl, fun q => Bool.noConfusion q, fun _ H6 e6 => ?_⟩
          refine fin ?_ H6 (e5.trans e6)
          cases hi with
          | stop _ => rfl
          | go q2 _ _ => rw [cx] at q2; cases q2
        | some c =>
          rw [hctx] at fld cx
          have hcl := hc i c cx
          obtain ⟨rc, ec⟩ := row_at hcl
          refine ⟨!decide (c = f), et_is (et_and (a := true) (et_test (ev_op (fld e5) ev_c rv_notN)) fun _ => et_test (ev_op (fld e5) (ev_var rfl) ?_)) (Bool.true_and _), fun q H6 e6 => ?_, fun q H6 e6 => ?_⟩
          · have z := rv_inst (g := not) (atf e5 ec) (atf e5 ef) T.q_Fault
            have e4 : decide ((fa.getD c (0, 0)).1 = (fa.getD f (0, 0)).1) = decide (c = f) := decide_eq_decide.mpr ⟨fun q => refF_inj (A := []) wn (List.getElem?_eq_some_iff.mp ec).1 (List.getElem?_eq_some_iff.mp ef).1 (congrArg V.ref q), fun q => by rw [q]⟩
            rw [e4] at z
            exact z
          · have ncf : c ≠ f := fun z => by rw [decide_eq_true z] at q; exact Bool.noConfusion q
            refine ⟨_, fun σ2 H2 n => n, s_asg (fld (e5.trans e6)) fun H7 e7 => ⟨rk c, Nat.lt_of_lt_of_le (hrk i c cx) hm, c, rfl, (e5.trans e6).trans e7, ?_, Nat.le_refl _, hcl, ncf⟩⟩
            cases hi with
            | stop q2 =>
              rcases q2 with q2 | q2
              · rw [cx] at q2; cases q2
              · rw [cx] at q2; exact absurd (Option.some.inj q2) ncf
            | go q2 _ t => rw [cx] at q2; cases q2; exact t
          · have cf : c = f := by
              by_cases z : c = f
              · exact z
              · rw [decide_eq_false z] at q; exact Bool.noConfusion q
            refine fin ?_ H6 (e5.trans e6)
            cases hi with
            | stop _ => rfl
            | go q2 n _ => rw [cx] at q2; exact absurd ((Option.some.inj q2).symm.trans cf) n
end
end L2.EX
namespace L2.EX
open PySem PySem.Spec PyProof.Rows Evl
/-! Small defs: letters, kinds, labels, names, numbers of faults. -/
section
variable {P : Program} {w : World} {K : Frg} {mg : Str → Option Value} {base : Heap}
def letB (c : Str) : Bool := (leS "a" c && leS c "z") || (leS "A" c && leS c "Z")
def sp_is_letter : Sp := Pur fun vs _ z => ∃ c : Str, vs = [.str c] ∧ z = .bl (letB c)
theorem ok_is_letter (T : Tx w K mg) : FOk P w K mg base 1 (f_is_letter K) ["character"] [] sp_is_letter := by
  obtain ⟨fd, F⟩ := T.d_is_letter
  refine ⟨⟨fd, [], F.ok sc_is_letter (fun vs H Q E h => ?_) (fun cdv A outer s H vs Q E hr h => ?_), F.bindsN fun _ _ _ _ _ _ us hl => match us, hl with | [_], _ => rfl, .nil⟩, F.kp⟩
  · obtain ⟨z, ⟨c, rfl, rfl⟩, _⟩ := h
    rfl
  · obtain ⟨z, ⟨c, rfl, rfl⟩, k⟩ := h
    refine ⟨_, (PSs.nox (pss_one (ps_ret (pe_or (pe_chain op_le_str op_le_str pe_str (pv 0) pe_str) (pe_one (pe_chain op_le_str op_le_str pe_str (pv 0) pe_str)))))), ?_⟩
    exact s_ret (ev_orV (ev_chain ev_c (ev_var rfl) rv_leS (fun _ => ev_c) fun _ => rv_leS) fun _ => ev_chain ev_c (ev_var rfl) rv_leS (fun _ => ev_c) fun _ => rv_leS) k
/-- a kind's name -/
def kindB (x : Str) : Bool := x.cps.toList.all fun c => letB ⟨#[c]⟩
def isKindP (x : Str) : Prop := 1 ≤ x.cps.size ∧ x.cps.size ≤ 12 ∧ (∃ c, x.cps[0]? = some c ∧ leS "A" ⟨#[c]⟩ = true ∧ leS ⟨#[c]⟩ "Z" = true) ∧ kindB x = true
def sp_is_kind : Sp := Pur fun vs _ z => ∃ x : Str, vs = [.str x] ∧ isKindP x ∧ z = .bl true
theorem all_range_cps (x : Str) (f : Nat → Bool) : ((List.range x.cps.size).map fun i => f (x.cps.getD i 0)).all id = x.cps.toList.all f := by
  have e : ((List.range x.cps.size).map fun i => f (x.cps.getD i 0)) = x.cps.toList.map f := by
    refine List.ext_getElem (by simp) fun i h1 h2 => ?_
    have hi : i < x.cps.size := by simpa using h1
    simp [hi]
  rw [e, List.all_map]
  rfl
theorem ok_is_kind (T : Tx w K mg) (F_is_letter : FOk P w K mg base 1 (f_is_letter K) ["character"] [] sp_is_letter) : FOk P w K mg base 2 (f_is_kind K) ["value"] [] sp_is_kind := by
  obtain ⟨fd, F⟩ := T.d_is_kind
  refine ⟨⟨fd, [], F.ok sc_is_kind (fun vs H Q E h => ?_) (fun cdv A outer s H vs Q E hr h => ?_), F.bindsN fun _ _ _ _ _ _ us hl => match us, hl with | [_], _ => rfl, .nil⟩, F.kp⟩
  · obtain ⟨z, ⟨c, rfl, _, rfl⟩, _⟩ := h
    rfl
  · obtain ⟨z, ⟨x, rfl, ⟨h1, h2, ⟨c, hc, h3, h4⟩, h5⟩, rfl⟩, k⟩ := h
    refine ⟨_, (PSs.nox (pss_cons (ps_if (PW.pt (pw_or (pt_not (pt_val (pe_callB call_isi rfl T.z_isinstance boot_isinstance (pa_cons (pv 0) (pa_cons (pe_gty rfl T.z_str boot_str) pa_nil))))) (pw_or1 (pt_not (pt_chain op_le op_le pe_int (pe_callB call_len rfl T.z_len boot_len (pa_cons (pv 0) pa_nil)) (pe_gint rfl T.i_MOST_LETTERS)))))) (pss_one (ps_ret pe_bl)) pss_nil) (pss_one (ps_ret (pe_and (pe_chain op_le_str op_le_str pe_str (pe_ix ix_str (pv 0) pe_int (fun _ _ => rfl)) pe_str) (pe_one (pe_callB (cr_all (by rfl)) rfl T.z_all boot_all (pa_cons (pe_lc (own := [("character", 1)]) (g := gName 1) rfl sc_is_kind.nd (pi_str (pv 0)) (blkOk_by (own := [("character", 1)]) (N := ["value", "character"]) (sc := (defScope s_is_kind)) (by decide +kernel)) (fun _ _ _ _ _ => pg_name (i := 1) sc_is_kind.nd rfl (Or.inl rfl)) (fun _ _ _ _ _ => pts_nil) (fun _ _ _ _ _ => (pk_call F_is_letter hr rfl T.g_is_letter (pa_cons (pv 1) pa_nil)))) pa_nil)))))))), ?_⟩
    have hl : x.length = x.cps.size := rfl
    have ln : ∀ H1, Ex H H1 → LenV K (.str x) H1 x.cps.size := fun _ _ => ⟨by show x.cps.size ≤ sizeLine; exact Nat.le_trans h2 (by decide), rfl⟩
    refine q_when (b := false) (et_is (et_or (et_not (et_B (isi_str "str" true (ev_var rfl)))) fun _ => et_not (et_test (ev_chain ev_c (ev_cb (ea_cons (ev_var rfl) ea_nil) (rc_len ln)) rv_I0 (fun _ => ev_c) fun _ => rv_I0))) ?_) (fun q => Bool.noConfusion q) fun _ H1 e1 => ?_
    · simp only [decide_eq_true (show (1 : Int) ≤ (x.cps.size : Int) by omega), decide_eq_true (show (x.cps.size : Int) ≤ 12 by omega)]
      rfl
    · have at0 : atI x.cps.toList 0 = some c := atI_nat (j := 0) (by rw [← hc]; simp)
      refine s_ret (ev_is (ev_andV (ev_chain ev_c (ev_op (ev_var rfl) ev_c (rv_ixS (i := 0) (by omega) at0)) rv_leS (fun _ => ev_c) fun _ => rv_leS) fun _ => ev_all (bs := (List.range x.cps.size).map fun i => letB ⟨#[x.cps.getD i 0]⟩) ?_) ?_) fun H2 e2 => k H2 (e1.trans e2)
      · rw [List.map_map]
        refine el_lcS _ (ev_var rfl) (by omega) (fun y => rfl) fun i d H2 e2 hd => ?_
        refine ev_call (ea_cons (ev_var rfl) ea_nil) (pur_v fun _ _ => ⟨⟨#[d]⟩, rfl, ?_⟩)
        show V.bl (letB ⟨#[x.cps.getD i 0]⟩) = _
        rw [Array.getD_eq_getD_getElem?, hd]
        rfl
      · have e5 := all_range_cps x fun c => letB ⟨#[c]⟩
        rw [h3, h4, e5]
        have h5' : (x.cps.toList.all fun c => letB ⟨#[c]⟩) = true := h5
        rw [h5']
        rfl
/-- a label -/
def labC (c : Nat) : Bool := (decide ((32 : Int) ≤ (c : Int)) && decide ((c : Int) ≤ 126)) && !decide (V.int (c : Int) = V.int 37)
def isLabelP (x : Str) : Prop := x.cps.size ≤ 40 ∧ x.cps.toList.all labC = true
def sp_is_label : Sp := Pur fun vs _ z => ∃ x : Str, vs = [.str x] ∧ isLabelP x ∧ z = .bl true
theorem ok_is_label (T : Tx w K mg) : FOk P w K mg base 1 (f_is_label K) ["value"] [] sp_is_label := by
  obtain ⟨fd, F⟩ := T.d_is_label
  refine ⟨⟨fd, [], F.ok sc_is_label (fun vs H Q E h => ?_) (fun cdv A outer s H vs Q E hr h => ?_), F.bindsN fun _ _ _ _ _ _ us hl => match us, hl with | [_], _ => rfl, .nil⟩, F.kp⟩
  · obtain ⟨z, ⟨c, rfl, _, rfl⟩, _⟩ := h
    rfl
  · obtain ⟨z, ⟨x, rfl, ⟨h1, h2⟩, rfl⟩, k⟩ := h
    refine ⟨_, (PSs.nox (pss_cons (ps_if (PW.pt (pw_or (pt_not (pt_val (pe_callB call_isi rfl T.z_isinstance boot_isinstance (pa_cons (pv 0) (pa_cons (pe_gty rfl T.z_str boot_str) pa_nil))))) (pw_or1 (pt_cmpR op_gt (pe_callB call_len rfl T.z_len boot_len (pa_cons (pv 0) pa_nil)) (pe_gint rfl T.i_MOST_LABEL) (nomark _))))) (pss_one (ps_ret pe_bl)) pss_nil) (pss_one (ps_ret (pe_callB (cr_all (by rfl)) rfl T.z_all boot_all (pa_cons (pe_lc (own := [("character", 1)]) (g := gName 1) rfl sc_is_label.nd (pi_str (pv 0)) (blkOk_by (own := [("character", 1)]) (N := ["value", "character"]) (sc := (defScope s_is_label)) (by decide +kernel)) (fun _ _ _ _ _ => pg_name (i := 1) sc_is_label.nd rfl (Or.inl rfl)) (fun _ _ _ _ _ => pts_nil) (fun _ _ _ _ _ => (pe_and (pe_chain op_le op_le pe_int (pe_callB call_ord rfl T.z_ord boot_ord (pa_cons (pv 1) pa_nil)) pe_int) (pe_one (pe_cmpR op_ne (pe_callB call_ord rfl T.z_ord boot_ord (pa_cons (pv 1) pa_nil)) pe_int (nomark _)))))) pa_nil)))))), ?_⟩
    have ln : ∀ H1, Ex H H1 → LenV K (.str x) H1 x.cps.size := fun _ _ => ⟨by show x.cps.size ≤ sizeLine; exact Nat.le_trans h1 (by decide), rfl⟩
    refine q_when (b := false) (et_is (et_or (et_not (et_B (isi_str "str" true (ev_var rfl)))) fun _ => et_test (ev_op (ev_cb (ea_cons (ev_var rfl) ea_nil) (rc_len ln)) ev_c rv_I0)) ?_) (fun q => Bool.noConfusion q) fun _ H1 e1 => ?_
    · simp only [decide_eq_false (show ¬ ((40 : Int) < (x.cps.size : Int)) by omega)]
      rfl
    · refine s_ret (ev_is (ev_all (bs := (List.range x.cps.size).map fun i => labC (x.cps.getD i 0)) ?_) ?_) fun H2 e2 => k H2 (e1.trans e2)
      · rw [List.map_map]
        refine el_lcS _ (ev_var rfl) (by omega) (fun y => rfl) fun i d H2 e2 hd => ?_
        have eo : ∀ {s : L2.St} {H : Hp} {j : Nat}, s[j]? = some (some (.str ⟨#[d]⟩)) → Ev (tCB (fun xs H Q => ∃ x : Str, xs = [.str x] ∧ x.length = 1 ∧ Q (.int (x.cps.getD 0 0 : Nat)) H) (tCons (tVar j) tNil)) s H (.int (d : Int)) := fun hs => ev_cb (ea_cons (ev_var hs) ea_nil) fun H1 _ _ q => ⟨⟨#[d]⟩, rfl, rfl, q H1 (Ex.refl H1)⟩
        refine ev_is (ev_andV (ev_chain ev_c (eo rfl) rv_I0 (fun _ => ev_c) fun _ => rv_I0) fun _ => ev_op (eo rfl) ev_c (rv_ne rfl)) ?_
        show _ = V.bl (labC (x.cps.getD i 0))
        rw [Array.getD_eq_getD_getElem?, hd]
        rfl
      · have e5 := all_range_cps x labC
        rw [e5, h2]
/-- a name -/
def azL : List Nat := (Str.ofString "abcdefghijklmnopqrstuvwxyz").cps.toList
def isNameP (x : Str) : Prop := 1 ≤ x.cps.size ∧ x.cps.size ≤ 8 ∧ x.cps.toList.all (fun c => decide (c ∈ azL)) = true
def sp_is_name : Sp := Pur fun vs _ z => ∃ x : Str, vs = [.str x] ∧ isNameP x ∧ z = .bl true
theorem ok_is_name (T : Tx w K mg) : FOk P w K mg base 1 (f_is_name K) ["value"] [] sp_is_name := by
  obtain ⟨fd, F⟩ := T.d_is_name
  refine ⟨⟨fd, [], F.ok sc_is_name (fun vs H Q E h => ?_) (fun cdv A outer s H vs Q E hr h => ?_), F.bindsN fun _ _ _ _ _ _ us hl => match us, hl with | [_], _ => rfl, .nil⟩, F.kp⟩
  · obtain ⟨z, ⟨c, rfl, _, rfl⟩, _⟩ := h
    rfl
  · obtain ⟨z, ⟨x, rfl, ⟨h0, h1, h2⟩, rfl⟩, k⟩ := h
    refine ⟨_, (PSs.nox (pss_cons (ps_if (PW.pt (pw_or (pt_not (pt_val (pe_callB call_isi rfl T.z_isinstance boot_isinstance (pa_cons (pv 0) (pa_cons (pe_gty rfl T.z_str boot_str) pa_nil))))) (pw_or1 (pt_not (pt_chain op_le op_le pe_int (pe_callB call_len rfl T.z_len boot_len (pa_cons (pv 0) pa_nil)) pe_int))))) (pss_one (ps_ret pe_bl)) pss_nil) (pss_one (ps_ret (pe_callB (cr_all (by rfl)) rfl T.z_all boot_all (pa_cons (pe_lc (own := [("letter", 1)]) (g := gName 1) rfl sc_is_name.nd (pi_str (pv 0)) (blkOk_by (own := [("letter", 1)]) (N := ["value", "letter"]) (sc := (defScope s_is_name)) (by decide +kernel)) (fun _ _ _ _ _ => pg_name (i := 1) sc_is_name.nd rfl (Or.inl rfl)) (fun _ _ _ _ _ => pts_nil) (fun _ _ _ _ _ => (pe_cmpR op_in_sign (pv 1) (pe_gstr rfl T.t_LETTERS) rfl))) pa_nil)))))), ?_⟩
    have ln : ∀ H1, Ex H H1 → LenV K (.str x) H1 x.cps.size := fun _ _ => ⟨by show x.cps.size ≤ sizeLine; exact Nat.le_trans h1 (by decide), rfl⟩
    refine q_when (b := false) (et_is (et_or (et_not (et_B (isi_str "str" true (ev_var rfl)))) fun _ => et_not (et_test (ev_chain ev_c (ev_cb (ea_cons (ev_var rfl) ea_nil) (rc_len ln)) rv_I0 (fun _ => ev_c) fun _ => rv_I0))) ?_) (fun q => Bool.noConfusion q) fun _ H1 e1 => ?_
    · simp only [decide_eq_true (show (1 : Int) ≤ (x.cps.size : Int) by omega), decide_eq_true (show (x.cps.size : Int) ≤ 8 by omega)]
      rfl
    · refine s_ret (ev_is (ev_all (bs := (List.range x.cps.size).map fun i => decide ((x.cps.getD i 0) ∈ azL)) ?_) ?_) fun H2 e2 => k H2 (e1.trans e2)
      · rw [List.map_map]
        refine el_lcS _ (ev_var rfl) (by omega) (fun y => rfl) fun i d H2 e2 hd => ?_
        refine ev_is (ev_op (ev_var rfl) ev_c (fun H1 _ Q q => ⟨d, _, rfl, rfl, q H1 (Ex.refl H1)⟩)) ?_
        show _ = V.bl (decide ((x.cps.getD i 0) ∈ azL))
        rw [Array.getD_eq_getD_getElem?, hd]
        rfl
      · have e5 := all_range_cps x fun c => decide (c ∈ azL)
        rw [e5, h2]
def sp_is_number : Sp := Pur fun vs _ z => ∃ i : Int, vs = [.int i] ∧ z = .bl true
theorem ok_is_number (T : Tx w K mg) : FOk P w K mg base 1 (f_is_number K) ["value"] [] sp_is_number := by
  obtain ⟨fd, F⟩ := T.d_is_number
  refine ⟨⟨fd, [], F.ok sc_is_number (fun vs H Q E h => ?_) (fun cdv A outer s H vs Q E hr h => ?_), F.bindsN fun _ _ _ _ _ _ us hl => match us, hl with | [_], _ => rfl, .nil⟩, F.kp⟩
  · obtain ⟨z, ⟨c, rfl, rfl⟩, _⟩ := h
    rfl
  · obtain ⟨z, ⟨i, rfl, rfl⟩, k⟩ := h
    refine ⟨_, (PSs.nox (pss_one (ps_ret (pe_and (pe_callB call_isi rfl T.z_isinstance boot_isinstance (pa_cons (pv 0) (pa_cons (pe_gty rfl T.z_int boot_int) pa_nil))) (pe_one (pe_not (pe_callB call_isi rfl T.z_isinstance boot_isinstance (pa_cons (pv 0) (pa_cons (pe_gty rfl T.z_bool boot_bool) pa_nil))))))))), ?_⟩
    exact s_ret (ev_is (ev_andV (isi_int "int" true (ev_var rfl)) fun _ => ev_notV (isi_int "bool" false (ev_var rfl))) rfl) k
def sp_is_plain : Sp := Pur fun vs _ z => ∃ i : Int, vs = [.int i] ∧ 0 ≤ i ∧ i ≤ 1000 ∧ z = .bl true
theorem ok_is_plain (T : Tx w K mg) (F_is_number : FOk P w K mg base 1 (f_is_number K) ["value"] [] sp_is_number) (F_is_label : FOk P w K mg base 1 (f_is_label K) ["value"] [] sp_is_label) : FOk P w K mg base 2 (f_is_plain K) ["value"] [] sp_is_plain := by
  obtain ⟨fd, F⟩ := T.d_is_plain
  refine ⟨⟨fd, [], F.ok sc_is_plain (fun vs H Q E h => ?_) (fun cdv A outer s H vs Q E hr h => ?_), F.bindsN fun _ _ _ _ _ _ us hl => match us, hl with | [_], _ => rfl, .nil⟩, F.kp⟩
  · obtain ⟨z, ⟨c, rfl, _, _, rfl⟩, _⟩ := h
    rfl
  · obtain ⟨z, ⟨i, rfl, h1, h2, rfl⟩, k⟩ := h
    refine ⟨_, (PSs.nox (pss_cons (ps_if (pt_val (pk_call F_is_number hr rfl T.g_is_number (pa_cons (pv 0) pa_nil))) (pss_one (ps_ret (pe_chain op_le op_le (pe_op op_sub pe_int (pe_gint rfl T.i_MOST_NUMBER)) (pv 0) (pe_gint rfl T.i_MOST_NUMBER)))) pss_nil) (pss_one (ps_ret (pe_or (pe_cmpR op_isN (pv 0) pe_non (nomark _)) (pe_or (pe_callB call_isi rfl T.z_isinstance boot_isinstance (pa_cons (pv 0) (pa_cons (pe_gty rfl T.z_bool boot_bool) pa_nil))) (pe_one (pk_call F_is_label hr rfl T.g_is_label (pa_cons (pv 0) pa_nil))))))))), ?_⟩
    refine q_when (b := true) (et_B (ev_call (ea_cons (ev_var rfl) ea_nil) (pur_v fun _ _ => ⟨i, rfl, rfl⟩))) (fun _ H1 e1 => ?_) (fun q => Bool.noConfusion q)
    refine s_ret (ev_is (ev_chain (ev_op ev_c ev_c rv_I0) (ev_var rfl) rv_I0 (fun _ => ev_c) fun _ => rv_I0) ?_) fun H2 e2 => k H2 (e1.trans e2)
    simp only [decide_eq_true (show (0 : Int) - 1000000000 ≤ i by omega), decide_eq_true (show i ≤ 1000000000 by omega)]
    rfl
/-- getters -/
def sp_get (C : Addr) (f : Str) : Sp := Pur fun vs H z => ∃ a dx fs, vs = [.ref a] ∧ H a = some (.ins C dx fs) ∧ fs.lookup f = some z
theorem get_v {C a dx : Addr} {f : Str} {fs : List (Str × V)} {H : Hp} {z : V} (h : H a = some (.ins C dx fs)) (l : fs.lookup f = some z) : SpV (free (sp_get C f)) [.ref a] H z := pur_v fun H1 e => ⟨a, dx, fs, rfl, e a _ h, l⟩
theorem ok_Fault_kind (T : Tx w K mg) : FOk P w K mg base 1 (f_Fault_kind K) ["self"] [] (sp_get (a_Fault K) "s1_kind") := by
  obtain ⟨fd, F⟩ := T.d_Fault_kind
  refine ⟨⟨fd, [], F.ok sc_Fault_kind (fun vs H Q E h => ?_) (fun cdv A outer s H vs Q E hr h => ?_), F.bindsN fun _ _ _ _ _ _ us hl => match us, hl with | [_], _ => rfl, .nil⟩, F.kp⟩
  · obtain ⟨z, ⟨a, dx, fs, rfl, _, _⟩, _⟩ := h
    rfl
  · obtain ⟨z, ⟨a, dx, fs, rfl, h1, h2⟩, k⟩ := h
    exact ⟨_, (PSs.nox (pss_one (ps_ret (pe_fld (pv 0) rfl)))), s_ret (ev_fld (ev_var rfl) h1 T.c_Fault T.n_Fault_s1_kind h2) k⟩
theorem ok_Fault_label (T : Tx w K mg) : FOk P w K mg base 1 (f_Fault_label K) ["self"] [] (sp_get (a_Fault K) "s1_label") := by
  obtain ⟨fd, F⟩ := T.d_Fault_label
  refine ⟨⟨fd, [], F.ok sc_Fault_label (fun vs H Q E h => ?_) (fun cdv A outer s H vs Q E hr h => ?_), F.bindsN fun _ _ _ _ _ _ us hl => match us, hl with | [_], _ => rfl, .nil⟩, F.kp⟩
  · obtain ⟨z, ⟨a, dx, fs, rfl, _, _⟩, _⟩ := h
    rfl
  · obtain ⟨z, ⟨a, dx, fs, rfl, h1, h2⟩, k⟩ := h
    exact ⟨_, (PSs.nox (pss_one (ps_ret (pe_fld (pv 0) rfl)))), s_ret (ev_fld (ev_var rfl) h1 T.c_Fault T.n_Fault_s1_label h2) k⟩
theorem ok_Fault_number (T : Tx w K mg) : FOk P w K mg base 1 (f_Fault_number K) ["self"] [] (sp_get (a_Fault K) "s1_number") := by
  obtain ⟨fd, F⟩ := T.d_Fault_number
  refine ⟨⟨fd, [], F.ok sc_Fault_number (fun vs H Q E h => ?_) (fun cdv A outer s H vs Q E hr h => ?_), F.bindsN fun _ _ _ _ _ _ us hl => match us, hl with | [_], _ => rfl, .nil⟩, F.kp⟩
  · obtain ⟨z, ⟨a, dx, fs, rfl, _, _⟩, _⟩ := h
    rfl
  · obtain ⟨z, ⟨a, dx, fs, rfl, h1, h2⟩, k⟩ := h
    exact ⟨_, (PSs.nox (pss_one (ps_ret (pe_fld (pv 0) rfl)))), s_ret (ev_fld (ev_var rfl) h1 T.c_Fault T.n_Fault_s1_number h2) k⟩
theorem ok_Fault_context (T : Tx w K mg) : FOk P w K mg base 1 (f_Fault_context K) ["self"] [] (sp_get (a_Fault K) "s1_context") := by
  obtain ⟨fd, F⟩ := T.d_Fault_context
  refine ⟨⟨fd, [], F.ok sc_Fault_context (fun vs H Q E h => ?_) (fun cdv A outer s H vs Q E hr h => ?_), F.bindsN fun _ _ _ _ _ _ us hl => match us, hl with | [_], _ => rfl, .nil⟩, F.kp⟩
  · obtain ⟨z, ⟨a, dx, fs, rfl, _, _⟩, _⟩ := h
    rfl
  · obtain ⟨z, ⟨a, dx, fs, rfl, h1, h2⟩, k⟩ := h
    exact ⟨_, (PSs.nox (pss_one (ps_ret (pe_fld (pv 0) rfl)))), s_ret (ev_fld (ev_var rfl) h1 T.c_Fault T.n_Fault_s1_context h2) k⟩
theorem ok_Fault_cause (T : Tx w K mg) : FOk P w K mg base 1 (f_Fault_cause K) ["self"] [] (sp_get (a_Fault K) "s1_cause") := by
  obtain ⟨fd, F⟩ := T.d_Fault_cause
  refine ⟨⟨fd, [], F.ok sc_Fault_cause (fun vs H Q E h => ?_) (fun cdv A outer s H vs Q E hr h => ?_), F.bindsN fun _ _ _ _ _ _ us hl => match us, hl with | [_], _ => rfl, .nil⟩, F.kp⟩
  · obtain ⟨z, ⟨a, dx, fs, rfl, _, _⟩, _⟩ := h
    rfl
  · obtain ⟨z, ⟨a, dx, fs, rfl, h1, h2⟩, k⟩ := h
    exact ⟨_, (PSs.nox (pss_one (ps_ret (pe_fld (pv 0) rfl)))), s_ret (ev_fld (ev_var rfl) h1 T.c_Fault T.n_Fault_s1_cause h2) k⟩
theorem ok_Fault_hides (T : Tx w K mg) : FOk P w K mg base 1 (f_Fault_hides K) ["self"] [] (sp_get (a_Fault K) "s1_hides") := by
  obtain ⟨fd, F⟩ := T.d_Fault_hides
  refine ⟨⟨fd, [], F.ok sc_Fault_hides (fun vs H Q E h => ?_) (fun cdv A outer s H vs Q E hr h => ?_), F.bindsN fun _ _ _ _ _ _ us hl => match us, hl with | [_], _ => rfl, .nil⟩, F.kp⟩
  · obtain ⟨z, ⟨a, dx, fs, rfl, _, _⟩, _⟩ := h
    rfl
  · obtain ⟨z, ⟨a, dx, fs, rfl, h1, h2⟩, k⟩ := h
    exact ⟨_, (PSs.nox (pss_one (ps_ret (pe_fld (pv 0) rfl)))), s_ret (ev_fld (ev_var rfl) h1 T.c_Fault T.n_Fault_s1_hides h2) k⟩
theorem ok_Outcome_way (T : Tx w K mg) : FOk P w K mg base 1 (f_Outcome_way K) ["self"] [] (sp_get (a_Outcome K) "s3_way") := by
  obtain ⟨fd, F⟩ := T.d_Outcome_way
  refine ⟨⟨fd, [], F.ok sc_Outcome_way (fun vs H Q E h => ?_) (fun cdv A outer s H vs Q E hr h => ?_), F.bindsN fun _ _ _ _ _ _ us hl => match us, hl with | [_], _ => rfl, .nil⟩, F.kp⟩
  · obtain ⟨z, ⟨a, dx, fs, rfl, _, _⟩, _⟩ := h
    rfl
  · obtain ⟨z, ⟨a, dx, fs, rfl, h1, h2⟩, k⟩ := h
    exact ⟨_, (PSs.nox (pss_one (ps_ret (pe_fld (pv 0) rfl)))), s_ret (ev_fld (ev_var rfl) h1 T.c_Outcome T.n_Outcome_s3_way h2) k⟩
theorem ok_Outcome_returned (T : Tx w K mg) : FOk P w K mg base 1 (f_Outcome_returned K) ["self"] [] (sp_get (a_Outcome K) "s3_value") := by
  obtain ⟨fd, F⟩ := T.d_Outcome_returned
  refine ⟨⟨fd, [], F.ok sc_Outcome_returned (fun vs H Q E h => ?_) (fun cdv A outer s H vs Q E hr h => ?_), F.bindsN fun _ _ _ _ _ _ us hl => match us, hl with | [_], _ => rfl, .nil⟩, F.kp⟩
  · obtain ⟨z, ⟨a, dx, fs, rfl, _, _⟩, _⟩ := h
    rfl
  · obtain ⟨z, ⟨a, dx, fs, rfl, h1, h2⟩, k⟩ := h
    exact ⟨_, (PSs.nox (pss_one (ps_ret (pe_fld (pv 0) rfl)))), s_ret (ev_fld (ev_var rfl) h1 T.c_Outcome T.n_Outcome_s3_value h2) k⟩
theorem ok_Outcome_fault (T : Tx w K mg) : FOk P w K mg base 1 (f_Outcome_fault K) ["self"] [] (sp_get (a_Outcome K) "s3_fault") := by
  obtain ⟨fd, F⟩ := T.d_Outcome_fault
  refine ⟨⟨fd, [], F.ok sc_Outcome_fault (fun vs H Q E h => ?_) (fun cdv A outer s H vs Q E hr h => ?_), F.bindsN fun _ _ _ _ _ _ us hl => match us, hl with | [_], _ => rfl, .nil⟩, F.kp⟩
  · obtain ⟨z, ⟨a, dx, fs, rfl, _, _⟩, _⟩ := h
    rfl
  · obtain ⟨z, ⟨a, dx, fs, rfl, h1, h2⟩, k⟩ := h
    exact ⟨_, (PSs.nox (pss_one (ps_ret (pe_fld (pv 0) rfl)))), s_ret (ev_fld (ev_var rfl) h1 T.c_Outcome T.n_Outcome_s3_fault h2) k⟩
end
end L2.EX
namespace L2.EX
open PySem PySem.Spec PyProof.Rows Evl
/-! with_cause, number_of, rows_of, Fault. -/
section
variable {K : Frg} {σ : L2.St} {H H' : Hp} {ta tb te tx tv tl : TE} {t u : TT} {x y z v : V} {a C dx : Addr} {fs : List (Str × V)} {f : Str} {D : Ends} {tz tu : TS} {g : TG}
/-- some value, leaving what is known -/
def EvX (te : TE) (σ : L2.St) (H : Hp) : Prop := ∀ H1, Ex H H1 → ∀ Q : VK, (∀ v H2, Ex H1 H2 → Q v H2) → te σ H1 Q
theorem ex_u {xs : List V} (h : EvU te σ H xs) : EvX te σ H := fun H1 e Q q => h H1 e Q fun p H2 _ e2 _ => q _ H2 e2
/-- for over a new tuple -/
theorem s_forNU {xs : List V} (h : EvU tl σ H xs) (Pv : Addr → Nat → L2.St → Hp → Prop) (h0 : ∀ p H1, H p = none → Ex H H1 → H1 p = some (.tup xs) → Pv p 0 σ H1) (hl : ∀ p i σ' H', i ≤ xs.length → Pv p i σ' H' → SqT K H' p xs)
    (hs : ∀ p i x σ' H', xs[i]? = some x → Pv p i σ' H' → g x σ' H' fun σ2 H2 => tu { D with nx := Pv p (i + 1), ct := Pv p (i + 1), bk := D.nx } σ2 H2) (hd : ∀ p σ' H', Pv p xs.length σ' H' → D.nx σ' H') : tFor (iTup K tl) g tu D σ H :=
  h H (Ex.refl H) _ fun p H1 hp e h1 => ⟨p, rfl, ⟨xs, st_of h1⟩, for_tup (Pv p) (h0 p H1 hp e h1) (hl p) (hs p) (hd p)⟩
theorem q_forNU {xs : List V} (h : EvU tl σ H xs) (Pv : Addr → Nat → L2.St → Hp → Prop) (h0 : ∀ p H1, H p = none → Ex H H1 → H1 p = some (.tup xs) → Pv p 0 σ H1) (hl : ∀ p i σ' H', i ≤ xs.length → Pv p i σ' H' → SqT K H' p xs)
    (hs : ∀ p i x σ' H', xs[i]? = some x → Pv p i σ' H' → g x σ' H' fun σ2 H2 => tu { D with nx := Pv p (i + 1), ct := Pv p (i + 1), bk := tz D } σ2 H2) (hd : ∀ p σ' H', Pv p xs.length σ' H' → tz D σ' H') : tSeq (tFor (iTup K tl) g tu) tz D σ H :=
  s_forNU (D := { D with nx := tz D }) h Pv h0 hl hs hd
theorem el_lcLx {a : Addr} {xs : List V} {tl : TE} {j : Nat} {vs : List Nat} (h : Ev tl σ H (.ref a)) (hx : SqL K H a xs) (hz : xs.length ≤ 40000) (hw : ∀ x, wipe ((wipe σ vs).set j (some x)) vs = wipe σ vs)
    (he : ∀ (i : Nat) (x : V) H1, Ex H H1 → xs[i]? = some x → EvX te ((wipe σ vs).set j (some x)) H1) : EvX (tLc (iList K tl) (gName j) tYes te vs) σ H := fun H0 e Q q => h H0 e _ fun H1 e1 => ⟨a, rfl, ⟨xs, ex_l (e.trans e1) hx⟩, fun Dl hD =>
  lc_list (xs := xs) (fun i H' => H1 Dl = none ∧ Ex H1 H' ∧ ∃ acc, H' Dl = some (.lst acc) ∧ acc.length = i) ⟨hD, Ex.new hD, [], upd_same, rfl⟩ (fun i H' _ p => ex_l ((e.trans e1).trans p.2.1) hx) (fun i x H' hi p => ⟨hw x, by
    obtain ⟨p1, p2, acc, p3, p4⟩ := p
    have hi2 := (List.getElem?_eq_some_iff.mp hi).1
    refine he i x H1 (e.trans e1) hi H' p2 _ fun v H2 e2 => ⟨acc, e2 Dl _ p3, sz_lt (by omega), p1, Ex.mut (p2.trans e2) p1, acc ++ [v], upd_same, by rw [List.length_append, p4]; rfl⟩⟩)
    (fun H' p => q (.ref Dl) H' (e1.trans p.2.1))⟩
end
section
variable {P : Program} {w : World} {K : Frg} {mg : Str → Option Value} {base : Heap}
def sp_with_cause (K : Frg) : Sp := fun vs H Q _ => ∃ (H0 : Hp) (fa : List (Addr × Addr)) (rows : List FR) (f : Nat) (o : Option Nat), vs = [refF fa f, refO fa o] ∧ Own H0 H (fcells K fa rows) ∧ f < rows.length ∧ (∀ i, o = some i → i < rows.length) ∧
  ∀ H', Own H0 H' (fcells K fa (setCause rows f o)) → Q .non H'
theorem ok_with_cause (T : Tx w K mg) (F_need_fault : FOk P w K mg base 1 (f_need_fault K) ["value"] [] (sp_need_fault K)) (F_need_fault_or_none : FOk P w K mg base 2 (f_need_fault_or_none K) ["value"] [] (sp_need_fault_or_none K)) :
    FOk P w K mg base 3 (f_with_cause K) ["fault", "source"] [] (sp_with_cause K) := by
  obtain ⟨fd, F⟩ := T.d_with_cause
  refine ⟨⟨fd, [], F.ok sc_with_cause (fun vs H Q E h => ?_) (fun cdv A outer s H vs Q E hr h => ?_), F.bindsN fun _ _ _ _ _ _ us hl => match us, hl with | [_, _], _ => rfl, .nil⟩, F.kp⟩
  · obtain ⟨H0, fa, rows, f, h, rfl, _⟩ := h
    rfl
  · obtain ⟨H0, fa, rows, f, o, rfl, wn, hf, hh, k⟩ := h
    refine ⟨_, (PSs.nox (pss_cons (ps_expr (pk_call F_need_fault hr rfl T.g_need_fault (pa_cons (pv 0) pa_nil))) (pss_cons (ps_expr (pk_call F_need_fault_or_none hr rfl T.g_need_fault_or_none (pa_cons (pv 1) pa_nil))) (pss_cons (ps_fld (pv 0) (pv 1) rfl) (pss_one (ps_fld (pv 0) pe_bl rfl)))))), ?_⟩
    obtain ⟨rf, ef⟩ := row_at hf
    have atf : ∀ {H1}, Ex H H1 → ∀ {i r}, rows[i]? = some r → H1 (fa.getD i (0, 0)).1 = some (.ins (a_Fault K) (fa.getD i (0, 0)).2 (fFs r.kind r.label i (refO fa r.ctx) (refO fa r.cause) r.hides)) := fun e i r hr => e _ _ (fault_at (A := []) wn hr)
    refine q_drop (ev_call (ea_cons (ev_var rfl) ea_nil) (pur_v fun H2 e2 => ⟨_, _, _, rfl, atf e2 ef, rfl⟩)) fun H1 e1 => ?_
    refine q_drop (v := .non) (ev_call (ea_cons (ev_var rfl) ea_nil) (pur_v fun H2 e2 => ⟨?_, rfl⟩)) fun H2 e2 => ?_
    · cases o with
      | none => exact .inl rfl
      | some g =>
        obtain ⟨rg, eg⟩ := row_at (hh g rfl)
        exact .inr ⟨_, _, _, rfl, atf (e1.trans e2) eg⟩
    · refine q_fld (ev_var rfl) (ev_var rfl) (atf (e1.trans e2) ef) T.c_Fault T.n_Fault_s1_cause (show 6 < 1000 by decide) fun H3 e3 => ?_
      have w3 := fault_set (A := []) (r' := { rf with cause := o }) (wn.grow ((e1.trans e2).trans e3)) ef
      have ef' : (rows.set f { rf with cause := o })[f]? = some { rf with cause := o } := List.getElem?_set_self hf
      refine s_fld ev_c (ev_var rfl) (fault_at (A := []) w3 ef') T.c_Fault T.n_Fault_s1_hides (show 6 < 1000 by decide) fun H4 e4 => ?_
      have w4 := fault_set (A := []) (r' := { rf with cause := o, hides := true }) (w3.grow e4) ef'
      refine k _ ?_
      unfold setCause
      rw [modify_set ef]
      rw [List.set_set] at w4
      exact w4
def sp_number_of (K : Frg) : Sp := Pur fun vs H z => (vs = [.non] ∧ z = .non) ∨ ∃ a dx fs, vs = [.ref a] ∧ H a = some (.ins (a_Fault K) dx fs) ∧ fs.lookup ("s1_number" : Str) = some z
theorem ok_number_of (T : Tx w K mg) (F_Fault_number : FOk P w K mg base 1 (f_Fault_number K) ["self"] [] (sp_get (a_Fault K) "s1_number")) : FOk P w K mg base 3 (f_number_of K) ["fault"] [] (sp_number_of K) := by
  obtain ⟨fd, F⟩ := T.d_number_of
  refine ⟨⟨fd, [], F.ok sc_number_of (fun vs H Q E h => ?_) (fun cdv A outer s H vs Q E hr h => ?_), F.bindsN fun _ _ _ _ _ _ us hl => match us, hl with | [_], _ => rfl, .nil⟩, F.kp⟩
  · obtain ⟨z, ⟨rfl, _⟩ | ⟨a, dx, fs, rfl, _⟩, _⟩ := h <;> rfl
  · obtain ⟨z, h1, k⟩ := h
    refine ⟨_, (PSs.nox (pss_one (ps_ret (pe_ifExp (pt_cmpR op_isN (pv 0) pe_non (nomark _)) pe_non (pk_prop (pv 0) T.c_Fault T.p_Fault_number F_Fault_number hr))))), ?_⟩
    rcases h1 with ⟨rfl, rfl⟩ | ⟨a, dx, fs, rfl, h1, h2⟩
    · exact s_ret (ev_if (b := true) (et_test (ev_op (ev_var rfl) ev_c rv_isN)) (fun _ => ev_c) fun q => Bool.noConfusion q) k
    · exact s_ret (ev_if (b := false) (et_test (ev_op (ev_var rfl) ev_c rv_isN)) (fun q => Bool.noConfusion q) fun _ => ev_prop (ev_var rfl) h1 (get_v h1 h2)) k
/-- one new list -/
def sp_rows_of (K : Frg) : Sp := fun vs H Q _ => ∃ (H0 : Hp) (fa : List (Addr × Addr)) (rows : List FR) (f : Nat), vs = [refF fa f] ∧ Own H0 H (fcells K fa rows) ∧ f < rows.length ∧ rows.length ≤ 1000 ∧
  (∀ i c, ctxOf rows i = some c → c < rows.length) ∧ (∀ (i : Nat) (r : FR) (c : Nat), rows[i]? = some r → r.cause = some c → c < rows.length) ∧ ∀ z H', Ex H H' → Q z H'
theorem nodup_len0 : ∀ (n : Nat) (is : List Nat), is.Nodup → (∀ i ∈ is, i < n) → is.length ≤ n
  | 0, is, _, hl => by
    cases is with
    | nil => exact Nat.le_refl _
    | cons a r => exact absurd (hl a (List.mem_cons_self ..)) (Nat.not_lt_zero _)
  | n + 1, is, h, hl => by
    have ih := nodup_len0 n (is.filter fun i => decide (i ≠ n)) (h.sublist List.filter_sublist) fun i hi => by
      obtain ⟨h1, h2⟩ := List.mem_filter.mp hi
      have := hl i h1
      have h3 : i ≠ n := of_decide_eq_true h2
      omega
    have cnt : is.length ≤ (is.filter fun i => decide (i ≠ n)).length + 1 := by
      clear ih hl
      induction is with
      | nil => simp
      | cons a r ihr =>
        have h' := List.nodup_cons.mp h
        by_cases e : a = n
        · subst e
          rw [List.filter_cons, if_neg (by simp)]
          have : r.filter (fun i => decide (i ≠ a)) = r := List.filter_eq_self.mpr fun i hi => decide_eq_true fun z => h'.1 (by rw [← z]; exact hi)
          rw [this]
          simp
        · rw [List.filter_cons, if_pos (by simp [e])]
          have := ihr h'.2
          simp only [List.length_cons]
          omega
    omega
theorem nodup_len {n : Nat} {is : List Nat} (h : is.Nodup) (hl : ∀ i ∈ is, i < n) : is.length ≤ n := by
  exact nodup_len0 n is h hl
theorem ok_rows_of (T : Tx w K mg) (F_need_fault : FOk P w K mg base 1 (f_need_fault K) ["value"] [] (sp_need_fault K)) (F_number_of : FOk P w K mg base 3 (f_number_of K) ["fault"] [] (sp_number_of K))
    (F_Fault_number : FOk P w K mg base 1 (f_Fault_number K) ["self"] [] (sp_get (a_Fault K) "s1_number")) (F_Fault_kind : FOk P w K mg base 1 (f_Fault_kind K) ["self"] [] (sp_get (a_Fault K) "s1_kind")) (F_Fault_label : FOk P w K mg base 1 (f_Fault_label K) ["self"] [] (sp_get (a_Fault K) "s1_label"))
    (F_Fault_context : FOk P w K mg base 1 (f_Fault_context K) ["self"] [] (sp_get (a_Fault K) "s1_context")) (F_Fault_cause : FOk P w K mg base 1 (f_Fault_cause K) ["self"] [] (sp_get (a_Fault K) "s1_cause")) (F_Fault_hides : FOk P w K mg base 1 (f_Fault_hides K) ["self"] [] (sp_get (a_Fault K) "s1_hides")) :
    FOk P w K mg base 4 (f_rows_of K) ["fault"] [] (sp_rows_of K) := by
  obtain ⟨fd, F⟩ := T.d_rows_of
  refine ⟨⟨fd, [], F.ok sc_rows_of (fun vs H Q E h => ?_) (fun cdv A outer s H vs Q E hr h => ?_), F.bindsN fun _ _ _ _ _ _ us hl => match us, hl with | [_], _ => rfl, .nil⟩, F.kp⟩
  · obtain ⟨H0, fa, rows, f, rfl, _⟩ := h
    rfl
  · obtain ⟨H0, fa, rows, f, rfl, wn, hf, hn, hc, hu, k⟩ := h
    refine ⟨_, (PSs.nox (pss_cons (ps_expr (pk_call F_need_fault hr rfl T.g_need_fault (pa_cons (pv 0) pa_nil))) (pss_cons (ps_set (i := 1) sc_rows_of.nd rfl (Or.inl rfl) (pe_lst (pa_cons (pv 0) pa_nil))) (pss_cons (ps_set (i := 2) sc_rows_of.nd rfl (Or.inl rfl) pe_int) (pss_cons (ps_while PassesOwn.never (pt_cmpR op_lt (pv 2) (pe_callB call_len rfl T.z_len boot_len (pa_cons (pv 1) pa_nil)) (nomark _)) (pss_cons (ps_for PassesOwn.never rfl (pi_tup (pe_tup (pa_cons (pe_fld (pe_ix ix_list (pv 1) (pv 2) (fun _ _ => rfl)) rfl) (pa_cons (pe_fld (pe_ix ix_list (pv 1) (pv 2) (fun _ _ => rfl)) rfl) pa_nil)))) (pg_name (i := 3) sc_rows_of.nd rfl (Or.inl rfl)) (pss_one (ps_if (PW.pt (pw_and (pt_cmpR op_notN (pv 3) pe_non (nomark _)) (pw_and1 (pt_cmpR (op_notInInst hr.units) (pv 3) (pv 1) rfl)))) (pss_one (ps_expr (pe_bm PySem.F.plainAttrs_list PySem.F.slot_list_append PySem.F.type_list_append mt_append (pv 1) (pa_cons (pv 3) pa_nil)))) pss_nil))) (pss_one (ps_aug (i := 2) sc_rows_of.nd rfl (Or.inl rfl) pe_int ip_add)))) (pss_one (ps_ret (pe_lc (own := [("f", 4)]) (g := gName 4) rfl sc_rows_of.nd (pi_list (pv 1)) (blkOk_by (own := [("f", 4)]) (N := ["fault", "found", "at", "other", "f"]) (sc := (defScope s_rows_of)) (by decide +kernel)) (fun _ _ _ _ _ => pg_name (i := 4) sc_rows_of.nd rfl (Or.inl rfl)) (fun _ _ _ _ _ => pts_nil) (fun _ _ _ _ _ => (pe_tup (pa_cons (pk_prop (pv 4) T.c_Fault T.p_Fault_number F_Fault_number hr) (pa_cons (pk_prop (pv 4) T.c_Fault T.p_Fault_kind F_Fault_kind hr) (pa_cons (pk_prop (pv 4) T.c_Fault T.p_Fault_label F_Fault_label hr) (pa_cons (pk_call F_number_of hr rfl T.g_number_of (pa_cons (pk_prop (pv 4) T.c_Fault T.p_Fault_context F_Fault_context hr) pa_nil)) (pa_cons (pk_call F_number_of hr rfl T.g_number_of (pa_cons (pk_prop (pv 4) T.c_Fault T.p_Fault_cause F_Fault_cause hr) pa_nil)) (pa_cons (pk_prop (pv 4) T.c_Fault T.p_Fault_hides F_Fault_hides hr) pa_nil)))))))))))))))), ?_⟩
    obtain ⟨rf, ef⟩ := row_at hf
    have atf : ∀ {H1}, Ex H H1 → ∀ {i r}, rows[i]? = some r → H1 (fa.getD i (0, 0)).1 = some (.ins (a_Fault K) (fa.getD i (0, 0)).2 (fFs r.kind r.label i (refO fa r.ctx) (refO fa r.cause) r.hides)) := fun e i r hr => e _ _ (fault_at (A := []) wn hr)
    have inj : ∀ i j, i < rows.length → j < rows.length → (fa.getD i (0, 0)).1 = (fa.getD j (0, 0)).1 → i = j := fun i j hi hj e => refF_inj (A := []) wn hi hj (congrArg V.ref e)
    refine q_drop (ev_call (ea_cons (ev_var rfl) ea_nil) (pur_v fun H2 e2 => ⟨_, _, _, rfl, atf e2 ef, rfl⟩)) fun H1 e1 => ?_
    refine q_asgL (el_lst (ea_cons (ev_var rfl) ea_nil) (show 1 ≤ 100000 by decide)) fun L H2 hL e2 h2 => ?_
    refine q_asg ev_c fun H3 e3 => ?_
    have hL0 : H L = none := fresh_back e1 hL
    -- the list found at L, the turn's place
    refine q_while (fun m σ' H' => ∃ (is : List Nat) (at' : Nat) (o1 o2 : Option V), σ' = [some (refF fa f), some (.ref L), some (.int (at' : Int)), o1, o2] ∧ Ex H H' ∧ H' L = some (.lst (is.map (refF fa))) ∧ is.Nodup ∧ (∀ i ∈ is, i < rows.length) ∧ at' ≤ is.length ∧ m = rows.length - at') (rows.length - 0) ⟨[f], 0, none, none, rfl, (e1.trans e2).trans e3, e3 _ _ h2, by simp, fun i hi => by rw [List.mem_singleton.mp hi]; exact hf, Nat.zero_le _, rfl⟩ ?_
    rintro m σ' H' ⟨is, at', o1, o2, rfl, e4, h4, nd, lt, hat, rfl⟩
    have hil : is.length ≤ rows.length := nodup_len nd lt
    have ln : Ev (tCB (fun xs H Q => ∃ x n, xs = [x] ∧ LenV K x H n ∧ Q (.int n) H) (tCons (tVar 1) tNil)) [some (refF fa f), some (.ref L), some (.int (at' : Int)), o1, o2] H' (.int (is.length : Int)) := ev_cb (ea_cons (ev_var rfl) ea_nil) (rc_len fun H5 e5 => .inl ⟨_, sq_of (e5 _ _ h4), by simp⟩)
    refine ⟨decide ((at' : Int) < (is.length : Int)), et_test (ev_op (ev_var rfl) ln rv_I0), fun q H5 e5 => ?_, fun q H5 e5 => ?_⟩
    · have hlt : at' < is.length := by have := of_decide_eq_true q; omega
      have ei : is[at']? = some is[at'] := List.getElem?_eq_getElem hlt
      have hi0 := lt _ (List.getElem_mem hlt)
      obtain ⟨r0, er⟩ := row_at hi0
      have fnd : ∀ {H6}, Ex H' H6 → Ev (tOp (rIxL K) (tVar 1) (tVar 2)) [some (refF fa f), some (.ref L), some (.int (at' : Int)), o1, o2] H6 (refF fa is[at']) := fun e6 => ev_op (ev_var rfl) (ev_var rfl) (rv_ixL (sq_of (e6 _ _ h4)) (atI_nat (by rw [List.getElem?_map, ei]; rfl)))
      refine ⟨_, fun σ2 H2 n => n, ?_⟩
      refine q_forNU (xs := [refO fa r0.cause, refO fa r0.ctx]) (eu_tup (ea_cons (ev_fld (fnd e5) (atf (e4.trans e5) er) T.c_Fault T.n_Fault_s1_cause rfl) (ea_cons (ev_fld (fnd e5) (atf (e4.trans e5) er) T.c_Fault T.n_Fault_s1_context rfl) ea_nil)) (show 2 ≤ 100000 by decide))
        (fun p j σ'' H'' => ∃ (is' : List Nat) (o3 : Option V), σ'' = [some (refF fa f), some (.ref L), some (.int (at' : Int)), o3, o2] ∧ Ex H H'' ∧ H'' L = some (.lst (is'.map (refF fa))) ∧ is'.Nodup ∧ (∀ i ∈ is', i < rows.length) ∧ at' < is'.length ∧ H'' p = some (.tup [refO fa r0.cause, refO fa r0.ctx]))
        (fun p H6 hp e6 h6 => ⟨is, o1, rfl, (e4.trans e5).trans e6, e6 _ _ (e5 _ _ h4), nd, lt, hlt, h6⟩) (fun p i σ'' H'' _ ⟨_, _, _, _, _, _, _, _, h7⟩ => st_of h7) (fun p j x σ'' H'' hx pv => ?_) fun p σ'' H'' pv => ?_
      · obtain ⟨is', o3, rfl, e7, h7, nd', lt', hat', hp⟩ := pv
        obtain ⟨o, rfl, ho⟩ : ∃ o : Option Nat, x = refO fa o ∧ ∀ c, o = some c → c < rows.length := by
          match j, hx with
          | 0, hx => exact ⟨r0.cause, (Option.some.inj hx).symm, fun c e => hu _ r0 c er e⟩
          | 1, hx => exact ⟨r0.ctx, (Option.some.inj hx).symm, fun c e => hc is[at'] c (by unfold ctxOf; rw [er]; exact e)⟩
          | j + 2, hx => cases hx
        show tIfS _ _ _ _ [some (refF fa f), some (.ref L), some (.int (at' : Int)), some (refO fa o), o2] H''
        cases o with
        | none => exact s_when (b := false) (et_and (a := false) (b := false) (et_test (ev_op (ev_var rfl) ev_c rv_notN)) fun q => Bool.noConfusion q) (fun q => Bool.noConfusion q) fun _ H8 e8 => ⟨is', _, rfl, e7.trans e8, e8 _ _ h7, nd', lt', hat', e8 _ _ hp⟩
        | some c =>
          have hcl := ho c rfl
          obtain ⟨rc, ec⟩ := row_at hcl
          have hmem : decide ((fa.getD c (0, 0)).1 ∈ is'.map fun i => (fa.getD i (0, 0)).1) = decide (c ∈ is') := decide_eq_decide.mpr ⟨fun m => by
            obtain ⟨i, hi, e⟩ := List.mem_map.mp m
            rw [← inj i c (lt' i hi) hcl e]
            exact hi, fun m => List.mem_map.mpr ⟨c, m, rfl⟩⟩
          have nin : RV (rInInst K true) (refF fa c) (.ref L) H'' (.bl (!decide (c ∈ is'))) := fun H9 e9 Q' q' => ⟨(fa.getD c (0, 0)).1, L, a_Fault K, is'.map fun i => (fa.getD i (0, 0)).1, rfl, rfl, by
            rw [List.map_map]
            exact sq_of (e9 _ _ h7), ⟨_, _, atf (e7.trans e9) ec⟩, fun b hb => by
            obtain ⟨i, hi, e⟩ := List.mem_map.mp hb
            obtain ⟨ri, eri⟩ := row_at (lt' i hi)
            rw [← e]
            exact ⟨_, _, atf (e7.trans e9) eri⟩, T.q_Fault, by
            rw [hmem]
            exact q' H9 (Ex.refl H9)⟩
          refine s_when (b := !decide (c ∈ is')) (et_is (et_and (a := true) (et_test (ev_op (ev_var rfl) ev_c rv_notN)) fun _ => et_test (ev_op (ev_var rfl) (ev_var rfl) nin)) (Bool.true_and _)) (fun q H8 e8 => ?_) fun q H8 e8 => ⟨is', _, rfl, e7.trans e8, e8 _ _ h7, nd', lt', hat', e8 _ _ hp⟩
          have hnm : c ∉ is' := fun m => by rw [decide_eq_true m] at q; exact Bool.noConfusion q
          have hl' := nodup_len nd' lt'
          refine s_app (e8 _ _ h7) (ev_var rfl) (ev_var rfl) (by rw [List.length_map]; omega) fun H9 e9 => ⟨is' ++ [c], _, rfl, Ex.mut ((e7.trans e8).trans e9) hL0, by rw [upd_same, List.map_append]; rfl, ?_, ?_, by rw [List.length_append]; omega, ?_⟩
          · exact List.nodup_append.mpr ⟨nd', by simp, fun x hx y hy e => hnm (by rw [← List.mem_singleton.mp hy, ← e]; exact hx)⟩
          · intro i hi
            rcases List.mem_append.mp hi with m | m
            · exact lt' i m
            · rw [List.mem_singleton.mp m]; exact hcl
          · have hpL : p ≠ L := ne_of hp h7 (by intro z; cases z)
            rw [upd_ne hpL]
            exact e9 _ _ (e8 _ _ hp)
      · obtain ⟨is', o3, rfl, e7, h7, nd', lt', hat', hp⟩ := pv
        refine s_aug rfl ev_c fun H8 e8 => ⟨rows.length - (at' + 1), by omega, is', at' + 1, o3, o2, rfl, e7.trans e8, e8 _ _ h7, nd', lt', hat', rfl⟩
    · have e6 := e4.trans e5
      refine el_lcLx (xs := is.map (refF fa)) (ev_var rfl) (sq_of (e5 _ _ h4)) (by rw [List.length_map]; omega) (fun y => rfl) (fun i x H7 e7 hx => ?_) H5 (Ex.refl _) _ fun v H8 e8 => k v H8 (e6.trans e8)
      rw [List.getElem?_map] at hx
      cases hi : is[i]? with
      | none => rw [hi] at hx; cases hx
      | some c =>
        rw [hi] at hx
        cases hx
        obtain ⟨rc, ec⟩ := row_at (lt c (List.mem_of_getElem? hi))
        have fa7 := atf (e6.trans e7) ec
        have num : ∀ (o : Option Nat), (∀ d, o = some d → d < rows.length) → ∃ z, SpV (free (sp_number_of K)) [refO fa o] H7 z := fun o ho => by
          cases o with
          | none => exact ⟨.non, pur_v fun H9 e9 => .inl ⟨rfl, rfl⟩⟩
          | some d =>
            obtain ⟨rd, ed⟩ := row_at (ho d rfl)
            exact ⟨.int d, pur_v fun H9 e9 => .inr ⟨_, _, _, rfl, e9 _ _ (atf (e6.trans e7) ed), rfl⟩⟩
        obtain ⟨z1, n1⟩ := num rc.ctx fun d e => hc c d (by unfold ctxOf; rw [ec]; exact e)
        obtain ⟨z2, n2⟩ := num rc.cause fun d e => hu c rc d ec e
        exact ex_u (eu_tup (ea_cons (ev_prop (ev_var rfl) fa7 (get_v fa7 rfl)) (ea_cons (ev_prop (ev_var rfl) fa7 (get_v fa7 rfl)) (ea_cons (ev_prop (ev_var rfl) fa7 (get_v fa7 rfl))
          (ea_cons (ev_call (ea_cons (ev_prop (ev_var rfl) fa7 (get_v fa7 rfl)) ea_nil) n1) (ea_cons (ev_call (ea_cons (ev_prop (ev_var rfl) fa7 (get_v fa7 rfl)) ea_nil) n2) (ea_cons (ev_prop (ev_var rfl) fa7 (get_v fa7 rfl)) ea_nil)))))) (show 6 ≤ 100000 by decide))
end
end L2.EX
namespace L2.EX
open PySem PySem.Spec PyProof.Rows Evl
/-! New objects: faults, frames, activations. -/
section
variable {K : Frg} {σ : L2.St} {H H' H0 : Hp} {ta tb te tx tv tl : TE} {t u : TT} {x y z v : V} {a C dx : Addr} {fs : List (Str × V)} {f : Str} {D : Ends} {tz tu : TS} {g : TG} {l : List (Addr × HO)}
theorem g_fld {Q : L2.St → Hp → Prop} (ha : Ev ta σ H (.ref a)) (ho : H a = some (.ins C dx fs)) (c : Cls K C) (n : NoAttr K C f) (hl : fs.length < 1000) (k : ∀ H1, Ex H H1 → Q σ (upd H1 a (.ins C dx (putF f v fs)))) : gFld K ta f v σ H Q :=
  ha H (Ex.refl H) _ fun H1 e1 => ⟨a, C, dx, fs, rfl, e1 a _ ho, c, n, hl, k H1 e1⟩
theorem q_asgT {n : Nat} {ts : TGs} {vs : List V} (h : EvU te σ H vs) (hn : vs.length = n) (k : ∀ H1, Ex H H1 → ts vs σ H1 (fun σ' H' => tz D σ' H')) : tSeq (tAsg te (gTup K n ts)) tz D σ H := h H (Ex.refl H) _ fun p H1 _ e1 h1 => ⟨p, vs, rfl, st_of h1, hn, k H1 e1⟩
theorem s_asgT {n : Nat} {ts : TGs} {vs : List V} (h : EvU te σ H vs) (hn : vs.length = n) (k : ∀ H1, Ex H H1 → ts vs σ H1 (fun σ' H' => D.nx σ' H')) : tAsg te (gTup K n ts) D σ H := h H (Ex.refl H) _ fun p H1 _ e1 h1 => ⟨p, vs, rfl, st_of h1, hn, k H1 e1⟩
/-- to names out of a tuple -/
theorem s_asgN {n : Nat} {ts : TGs} {vs : List V} {p : Addr} (h : Ev te σ H (.ref p)) (hp : H p = some (.tup vs)) (hn : vs.length = n) (k : ∀ H1, Ex H H1 → ts vs σ H1 (fun σ' H' => D.nx σ' H')) : tAsg te (gTup K n ts) D σ H := h H (Ex.refl H) _ fun H1 e1 => ⟨p, vs, rfl, st_of (e1 p _ hp), hn, k H1 e1⟩
theorem q_asgN {n : Nat} {ts : TGs} {vs : List V} {p : Addr} (h : Ev te σ H (.ref p)) (hp : H p = some (.tup vs)) (hn : vs.length = n) (k : ∀ H1, Ex H H1 → ts vs σ H1 (fun σ' H' => tz D σ' H')) : tSeq (tAsg te (gTup K n ts)) tz D σ H := s_asgN (D := { D with nx := tz D }) h hp hn k
theorem g_cons {t : TG} {u : TGs} {r : List V} {Q : L2.St → Hp → Prop} (h : t v σ H fun σ' H' => u r σ' H' Q) : gCons t u (v :: r) σ H Q := ⟨v, r, rfl, h⟩
theorem g_nil {Q : L2.St → Hp → Prop} (h : Q σ H) : gNil [] σ H Q := ⟨rfl, h⟩
/-- the new instance behind the cells -/
theorem Own.made2 {x dx C : Addr} {fs : List (Str × V)} (w : Own H0 H l) (hx : H x = none) (hd : H dx = none) (n : dx ≠ x) : Own H0 (L2.upd (L2.upd H dx (.own x)) x (.ins C dx fs)) (l ++ [(x, .ins C dx fs)]) := (w.made hx hd n).perm (List.perm_append_comm (l₁ := l) (l₂ := [(x, HO.ins C dx fs)]))
theorem ex_made {x dx : Addr} {o u : HO} (hx : H x = none) (hd : H dx = none) (n : dx ≠ x) : Ex H (L2.upd (L2.upd H dx o) x u) := (Ex.new hd).trans (Ex.new (by rw [upd_ne (Ne.symm n)]; exact hx))
/-- a new instance by its __init__, whose promise is over its one cell -/
theorem mk_own {sp : Sp} {dvs vs : List V} {E : XK} {tr : TA} {fs : List (Str × V)} (w : Own H0 H l) (ha : EvA tr σ H vs) (hs : ∀ (H2 : Hp) (x dx : Addr) (Q' : VK), Own (cut H2 [(x, .ins C dx [])]) H2 [(x, .ins C dx [])] → (∀ b o, H b = some o → H2 b = some o) → (∀ H', Own (cut H2 [(x, .ins C dx [])]) H' [(x, .ins C dx fs)] → TP H2 H' → Q' .non H') → sp (.ref x :: (vs ++ dvs)) H2 Q' E)
    (Q : VK) (k : ∀ (x dx : Addr) (H' : Hp), H x = none → Own H0 H' (l ++ [(x, .ins C dx fs)]) → TP H H' → (∀ b o, b ∉ l.map (·.1) → H b = some o → H' b = some o) → Q (.ref x) H') : tMake C sp dvs E tr σ H Q := ha H (Ex.refl H) _ fun H1 e1 => fun x dx hx hd n => by
  have w2 := (w.grow e1).made2 (C := C) (fs := []) hx hd n
  have e2 : Ex H1 (L2.upd (L2.upd H1 dx (.own x)) x (.ins C dx [])) := ex_made hx hd n
  refine hs _ x dx _ w2.cut (e1.trans e2) fun H' w3 t => ⟨rfl, k x dx H' (fresh_back e1 hx) (w2.back w3) ((ex_tp (e1.trans e2)).trans t) fun b o _ hb => ?_⟩
  refine w3.same b o ?_
  unfold cut
  have nb : b ∉ ([(x, HO.ins C dx [])] : List (Addr × HO)).map (·.1) := by
    simp
    intro z
    rw [z, fresh_back e1 hx] at hb
    cases hb
  rw [if_neg nb]
  exact (e1.trans e2) b o hb
end
section
variable {P : Program} {w : World} {K : Frg} {mg : Str → Option Value} {base : Heap}
/-- an __init__: from a bare instance to its attributes -/
def sp_ini (C : Addr) (R : List V → List (Str × V) → Prop) : Sp := fun vs H Q _ => ∃ (H0 : Hp) (x dx : Addr) (us : List V) (fs : List (Str × V)), vs = .ref x :: us ∧ R us fs ∧ Own H0 H [(x, .ins C dx [])] ∧ ∀ H', Own H0 H' [(x, .ins C dx fs)] → Q .non H'
theorem ini_at {C : Addr} {R : List V → List (Str × V) → Prop} {us : List V} {fs : List (Str × V)} (h : R us fs) {H2 : Hp} {x dx : Addr} {Q' : VK} {E : XK} (w2 : Own (cut H2 [(x, .ins C dx [])]) H2 [(x, .ins C dx [])])
    (k : ∀ H', Own (cut H2 [(x, .ins C dx [])]) H' [(x, .ins C dx fs)] → TP H2 H' → Q' .non H') : free (sp_ini C R) (.ref x :: us) H2 Q' E := ⟨_, x, dx, us, fs, rfl, h, w2, k⟩
def R_Fault : List V → List (Str × V) → Prop := fun us fs => ∃ (k l : Str) (n : Nat), us = [.str k, .str l, .int n] ∧ isKindP k ∧ isLabelP l ∧ fs = fFs k l n .non .non false
theorem ok_Fault_init (T : Tx w K mg) (F_is_kind : FOk P w K mg base 2 (f_is_kind K) ["value"] [] sp_is_kind) (F_is_label : FOk P w K mg base 1 (f_is_label K) ["value"] [] sp_is_label) : FOk P w K mg base 3 (f_Fault_init K) ["self", "kind", "label", "number"] [] (sp_ini (a_Fault K) R_Fault) := by
  obtain ⟨fd, F⟩ := T.d_Fault_init
  refine ⟨⟨fd, [], F.ok sc_Fault_init (fun vs H Q E h => ?_) (fun cdv A outer s H vs Q E hr h => ?_), F.bindsN fun _ _ _ _ _ _ us hl => match us, hl with | [_, _, _, _], _ => rfl, .nil⟩, F.kp⟩
  · obtain ⟨H0, x, dx, us, fs, rfl, ⟨_, _, _, rfl, _⟩, _⟩ := h
    rfl
  · obtain ⟨H0, x, dx, us, fs, rfl, ⟨kd, lb, n, rfl, h1, h2, rfl⟩, wn, k⟩ := h
    refine ⟨_, (PSs.nox (pss_cons (ps_if (pt_not (pt_val (pk_call F_is_kind hr rfl T.g_is_kind (pa_cons (pv 1) pa_nil)))) pss_never pss_nil) (pss_cons (ps_if (pt_not (pt_val (pk_call F_is_label hr rfl T.g_is_label (pa_cons (pv 2) pa_nil)))) pss_never pss_nil) (pss_cons (ps_if (PW.pt (pw_or (pt_not (pt_val (pe_callB call_isi rfl T.z_isinstance boot_isinstance (pa_cons (pv 3) (pa_cons (pe_gty rfl T.z_int boot_int) pa_nil))))) (pw_or (pt_val (pe_callB call_isi rfl T.z_isinstance boot_isinstance (pa_cons (pv 3) (pa_cons (pe_gty rfl T.z_bool boot_bool) pa_nil)))) (pw_or1 (pt_cmpR op_lt (pv 3) pe_int (nomark _)))))) pss_never pss_nil) (pss_cons (ps_asg (pe_tup (pa_cons (pv 1) (pa_cons (pv 2) (pa_cons (pv 3) pa_nil)))) (pg_tup rfl (pgs_cons (pg_fld (pv 0)) (pgs_cons (pg_fld (pv 0)) (pgs_cons (pg_fld (pv 0)) pgs_nil))))) (pss_cons (ps_fld (pv 0) pe_non rfl) (pss_cons (ps_fld (pv 0) pe_non rfl) (pss_one (ps_fld (pv 0) pe_bl rfl))))))))), ?_⟩
    refine q_when (b := false) (et_not (a := true) (et_B (ev_call (ea_cons (ev_var rfl) ea_nil) (pur_v fun _ _ => ⟨kd, rfl, h1, rfl⟩)))) (fun q => Bool.noConfusion q) fun _ H1 e1 => ?_
    refine q_when (b := false) (et_not (a := true) (et_B (ev_call (ea_cons (ev_var rfl) ea_nil) (pur_v fun _ _ => ⟨lb, rfl, h2, rfl⟩)))) (fun q => Bool.noConfusion q) fun _ H2 e2 => ?_
    refine q_when (b := false) (et_is (et_or (a := false) (et_not (et_B (isi_int "int" true (ev_var rfl)))) fun _ => et_or (a := false) (et_B (isi_int "bool" false (ev_var rfl))) fun _ => et_test (ev_op (ev_var rfl) ev_c rv_I0)) (by simp only [decide_eq_false (show ¬ ((n : Int) < 0) by omega)]; rfl)) (fun q => Bool.noConfusion q) fun _ H3 e3 => ?_
    have w3 := wn.grow ((e1.trans e2).trans e3)
    refine q_asgT (eu_tup (ea_cons (ev_var rfl) (ea_cons (ev_var rfl) (ea_cons (ev_var rfl) ea_nil))) (show 3 ≤ 100000 by decide)) rfl fun H4 e4 => ?_
    have w4 := w3.grow e4
    refine g_cons (g_fld (ev_var rfl) (w4.get 0 rfl) T.c_Fault T.n_Fault_s1_kind (show 0 < 1000 by decide) fun H5 e5 => ?_)
    have w5 := (w4.grow e5).set0 (o' := .ins (a_Fault K) dx (putF "s1_kind" (.str kd) []))
    refine g_cons (g_fld (ev_var rfl) (w5.get 0 rfl) T.c_Fault T.n_Fault_s1_label (show 1 < 1000 by decide) fun H6 e6 => ?_)
    have w6 := (w5.grow e6).set0 (o' := .ins (a_Fault K) dx (putF "s1_label" (.str lb) (putF "s1_kind" (.str kd) [])))
    refine g_cons (g_fld (ev_var rfl) (w6.get 0 rfl) T.c_Fault T.n_Fault_s1_number (show 2 < 1000 by decide) fun H7 e7 => g_nil ?_)
    have w7 := (w6.grow e7).set0 (o' := .ins (a_Fault K) dx [("s1_kind", .str kd), ("s1_label", .str lb), ("s1_number", .int n)])
    refine q_fld ev_c (ev_var rfl) (w7.get 0 rfl) T.c_Fault T.n_Fault_s1_context (show 3 < 1000 by decide) fun H8 e8 => ?_
    have w8 := (w7.grow e8).set0 (o' := .ins (a_Fault K) dx [("s1_kind", .str kd), ("s1_label", .str lb), ("s1_number", .int n), ("s1_context", .non)])
    refine q_fld ev_c (ev_var rfl) (w8.get 0 rfl) T.c_Fault T.n_Fault_s1_cause (show 4 < 1000 by decide) fun H9 e9 => ?_
    have w9 := (w8.grow e9).set0 (o' := .ins (a_Fault K) dx [("s1_kind", .str kd), ("s1_label", .str lb), ("s1_number", .int n), ("s1_context", .non), ("s1_cause", .non)])
    refine s_fld ev_c (ev_var rfl) (w9.get 0 rfl) T.c_Fault T.n_Fault_s1_hides (show 5 < 1000 by decide) fun H10 e10 => ?_
    exact k _ ((w9.grow e10).set0)
def bFs (p : Addr) (i : Int) : List (Str × V) := [("s3_body", .ref p), ("s3_place", .int i)]
def R_BodyFrame : List V → List (Str × V) → Prop := fun us fs => ∃ p : Addr, us = [.ref p] ∧ fs = bFs p 0
theorem ok_BodyFrame_init (T : Tx w K mg) : FOk P w K mg base 1 (f_BodyFrame_init K) ["self", "body"] [] (sp_ini (a_BodyFrame K) R_BodyFrame) := by
  obtain ⟨fd, F⟩ := T.d_BodyFrame_init
  refine ⟨⟨fd, [], F.ok sc_BodyFrame_init (fun vs H Q E h => ?_) (fun cdv A outer s H vs Q E hr h => ?_), F.bindsN fun _ _ _ _ _ _ us hl => match us, hl with | [_, _], _ => rfl, .nil⟩, F.kp⟩
  · obtain ⟨H0, x, dx, us, fs, rfl, ⟨_, rfl, _⟩, _⟩ := h
    rfl
  · obtain ⟨H0, x, dx, us, fs, rfl, ⟨p, rfl, rfl⟩, w4, k⟩ := h
    refine ⟨_, (PSs.nox (pss_one (ps_asg (pe_tup (pa_cons (pv 1) (pa_cons pe_int pa_nil))) (pg_tup rfl (pgs_cons (pg_fld (pv 0)) (pgs_cons (pg_fld (pv 0)) pgs_nil)))))), ?_⟩
    refine s_asgT (eu_tup (ea_cons (ev_var rfl) (ea_cons ev_c ea_nil)) (show 2 ≤ 100000 by decide)) rfl fun H4 e4 => ?_
    have w4 := w4.grow e4
    refine g_cons (g_fld (ev_var rfl) (w4.get 0 rfl) T.c_BodyFrame T.n_BodyFrame_s3_body (show 0 < 1000 by decide) fun H5 e5 => ?_)
    have w5 := (w4.grow e5).set0 (o' := .ins (a_BodyFrame K) dx (putF "s3_body" (.ref p) []))
    refine g_cons (g_fld (ev_var rfl) (w5.get 0 rfl) T.c_BodyFrame T.n_BodyFrame_s3_place (show 1 < 1000 by decide) fun H6 e6 => g_nil ?_)
    exact k _ ((w5.grow e6).set0)
def tFs (p : Addr) (part : Str) (nm pend : V) : List (Str × V) := [("s3_statement", .ref p), ("s3_part", .str part), ("s3_name", nm), ("s3_pending", pend)]
def R_TryFrame : List V → List (Str × V) → Prop := fun us fs => ∃ p : Addr, us = [.ref p] ∧ fs = tFs p "" .non .non
theorem ok_TryFrame_init (T : Tx w K mg) : FOk P w K mg base 1 (f_TryFrame_init K) ["self", "statement"] [] (sp_ini (a_TryFrame K) R_TryFrame) := by
  obtain ⟨fd, F⟩ := T.d_TryFrame_init
  refine ⟨⟨fd, [], F.ok sc_TryFrame_init (fun vs H Q E h => ?_) (fun cdv A outer s H vs Q E hr h => ?_), F.bindsN fun _ _ _ _ _ _ us hl => match us, hl with | [_, _], _ => rfl, .nil⟩, F.kp⟩
  · obtain ⟨H0, x, dx, us, fs, rfl, ⟨_, rfl, _⟩, _⟩ := h
    rfl
  · obtain ⟨H0, x, dx, us, fs, rfl, ⟨p, rfl, rfl⟩, w2, k⟩ := h
    refine ⟨_, (PSs.nox (pss_cons (ps_fld (pv 0) (pv 1) rfl) (pss_one (ps_asg (pe_tup (pa_cons pe_str (pa_cons pe_non (pa_cons pe_non pa_nil)))) (pg_tup rfl (pgs_cons (pg_fld (pv 0)) (pgs_cons (pg_fld (pv 0)) (pgs_cons (pg_fld (pv 0)) pgs_nil)))))))), ?_⟩
    refine q_fld (ev_var rfl) (ev_var rfl) (w2.get 0 rfl) T.c_TryFrame T.n_TryFrame_s3_statement (show 0 < 1000 by decide) fun H3 e3 => ?_
    have w3 := (w2.grow e3).set0 (o' := .ins (a_TryFrame K) dx [("s3_statement", .ref p)])
    refine s_asgT (eu_tup (ea_cons ev_c (ea_cons ev_c (ea_cons ev_c ea_nil))) (show 3 ≤ 100000 by decide)) rfl fun H4 e4 => ?_
    have w4 := w3.grow e4
    refine g_cons (g_fld (ev_var rfl) (w4.get 0 rfl) T.c_TryFrame T.n_TryFrame_s3_part (show 1 < 1000 by decide) fun H5 e5 => ?_)
    have w5 := (w4.grow e5).set0 (o' := .ins (a_TryFrame K) dx [("s3_statement", .ref p), ("s3_part", .str "")])
    refine g_cons (g_fld (ev_var rfl) (w5.get 0 rfl) T.c_TryFrame T.n_TryFrame_s3_name (show 2 < 1000 by decide) fun H6 e6 => ?_)
    have w6 := (w5.grow e6).set0 (o' := .ins (a_TryFrame K) dx [("s3_statement", .ref p), ("s3_part", .str ""), ("s3_name", .non)])
    refine g_cons (g_fld (ev_var rfl) (w6.get 0 rfl) T.c_TryFrame T.n_TryFrame_s3_pending (show 3 < 1000 by decide) fun H7 e7 => g_nil ?_)
    exact k _ ((w6.grow e7).set0)
end
end L2.EX
namespace L2.EX
open PySem PySem.Spec PyProof.Rows Evl
/-! The state of a run in memory; the runner's small methods. -/
structure RA where
  R : Addr
  dR : Addr
  T : Addr
  dT : Addr
  PD : Addr
  B : Addr
  L : Addr
  F : Addr
  A : Addr
  act : Addr
  dA : Addr
  FR : Addr
  HD : Addr
/-- a frame: of a body, of a try -/
inductive Fh where
  | body (x dx p : Addr) (i : Nat)
  | tri (x dx p : Addr) (part : Str) (nm pend : V)
def Fh.ad : Fh → Addr
  | .body x _ _ _ => x
  | .tri x _ _ _ _ _ => x
def fhc (K : Frg) : Fh → Addr × HO
  | .body x dx p i => (x, .ins (a_BodyFrame K) dx (bFs p i))
  | .tri x dx p part nm pend => (x, .ins (a_TryFrame K) dx (tFs p part nm pend))
def kindsK : List (Key × V) := [(Sum.inr "Base", .non), (Sum.inr "Exit", .str "Base"), (Sum.inr "Error", .str "Base"), (Sum.inr "Stop", .str "Error"), (Sum.inr "Name", .str "Error"), (Sum.inr "State", .str "Error"), (Sum.inr "Key", .str "Error"), (Sum.inr "Near", .str "Key")]
def bdK (fa : List (Addr × Addr)) (b : List (Str × Nat)) : List (Key × V) := b.map fun p => (Sum.inr p.1, refF fa p.2)
def flV (fa : List (Addr × Addr)) (n : Nat) : List V := (List.range n).map (refF fa)
def frV (fr : List Fh) : List V := (fr.map fun f => V.ref f.ad).reverse
def hdV (fa : List (Addr × Addr)) (hand : List Nat) : List V := hand.map (refF fa)
def baseC (K : Frg) (a : RA) (n : Nat) (bd : List (Key × V)) (lg fl fr hd : List V) : List (Addr × HO) :=
  [(a.R, .ins (a_Runner K) a.dR (rFs a.T a.B a.L a.F n a.A)), (a.B, .dK bd), (a.L, .lst lg), (a.F, .lst fl), (a.T, .ins (a_KindTree K) a.dT [("s1_parents", .ref a.PD)]), (a.PD, .dK kindsK), (a.A, .lst [.ref a.act]), (a.act, .ins (a_Activation K) a.dA [("s3_frames", .ref a.FR), ("s3_handled", .ref a.HD)]), (a.FR, .lst fr), (a.HD, .lst hd)]
def cells (K : Frg) (a : RA) (s : PS) (fa : List (Addr × Addr)) (lg : List V) (fr : List Fh) : List (Addr × HO) := baseC K a s.steps (bdK fa s.board) lg (flV fa s.rows.length) (frV fr) (hdV fa s.hand) ++ (fr.map (fhc K) ++ fcells K fa s.rows)
def evV : Evt → List V
  | .fault n k l => [.str "fault", .int n, .str k, .str l]
  | .note i => [.str "note", .int i]
/-- the log's entries are these tuples -/
inductive LogOk (H : Hp) : List V → List Evt → Prop
  | nil : LogOk H [] []
  | cons {p : Addr} {e : Evt} {vs : List V} {es : List Evt} (h : H p = some (.tup (evV e))) (t : LogOk H vs es) : LogOk H (.ref p :: vs) (e :: es)
theorem LogOk.tp {H H' : Hp} (t : TP H H') {vs : List V} {es : List Evt} (h : LogOk H vs es) : LogOk H' vs es := by
  induction h with
  | nil => exact .nil
  | cons h _ ih => exact .cons (t _ _ h) ih
theorem LogOk.snoc {H : Hp} {p : Addr} {e : Evt} (h : H p = some (.tup (evV e))) {vs : List V} {es : List Evt} (q : LogOk H vs es) : LogOk H (vs ++ [.ref p]) (es ++ [e]) := by
  induction q with
  | nil => exact .cons h .nil
  | cons h2 _ ih => exact .cons h2 ih
theorem LogOk.len {H : Hp} {vs : List V} {es : List Evt} (q : LogOk H vs es) : vs.length = es.length := by
  induction q with
  | nil => rfl
  | cons _ _ ih => simp [ih]
structure Ms (K : Frg) (H0 H : Hp) (a : RA) (s : PS) (fa : List (Addr × Addr)) (lg : List V) (fr : List Fh) : Prop where
  own : Own H0 H (cells K a s fa lg fr)
  log : LogOk H lg s.log
  len : fa.length = s.rows.length
theorem Ms.grow {K : Frg} {H0 H H' : Hp} {a : RA} {s : PS} {fa : List (Addr × Addr)} {lg : List V} {fr : List Fh} (m : Ms K H0 H a s fa lg fr) (e : Ex H H') : Ms K H0 H' a s fa lg fr := ⟨m.own.grow e, m.log.tp (ex_tp e), m.len⟩
theorem refF_app {fa : List (Addr × Addr)} {q : List (Addr × Addr)} {i : Nat} (h : i < fa.length) : refF (fa ++ q) i = refF fa i := by
  unfold refF
  rw [List.getD_eq_getElem?_getD, List.getD_eq_getElem?_getD, List.getElem?_append_left h]
theorem refF_new (fa : List (Addr × Addr)) (q : Addr × Addr) : refF (fa ++ [q]) fa.length = .ref q.1 := by
  unfold refF
  simp
theorem refO_app {fa : List (Addr × Addr)} {q : List (Addr × Addr)} {o : Option Nat} (h : ∀ i, o = some i → i < fa.length) : refO (fa ++ q) o = refO fa o := by
  cases o with
  | none => rfl
  | some i => exact refF_app (h i rfl)
theorem bdK_app {fa q : List (Addr × Addr)} {b : List (Str × Nat)} (h : ∀ p ∈ b, p.2 < fa.length) : bdK (fa ++ q) b = bdK fa b := by
  unfold bdK
  exact List.map_congr_left fun p hp => by rw [refF_app (h p hp)]
theorem hdV_app {fa q : List (Addr × Addr)} {b : List Nat} (h : ∀ p ∈ b, p < fa.length) : hdV (fa ++ q) b = hdV fa b := by
  unfold hdV
  exact List.map_congr_left fun p hp => by rw [refF_app (h p hp)]
theorem flV_new {fa : List (Addr × Addr)} {q : Addr × Addr} : flV (fa ++ [q]) (fa.length + 1) = flV fa fa.length ++ [.ref q.1] := by
  unfold flV
  rw [List.range_succ, List.map_append, List.map_singleton, refF_new]
  refine congrArg (· ++ _) (List.map_congr_left fun i hi => refF_app (List.mem_range.mp hi))
theorem getD_app {fa : List (Addr × Addr)} {q : List (Addr × Addr)} {i : Nat} (h : i < fa.length) : (fa ++ q).getD i (0, 0) = fa.getD i (0, 0) := by
  rw [List.getD_eq_getElem?_getD, List.getD_eq_getElem?_getD, List.getElem?_append_left h]
theorem fcells_app {K : Frg} {fa q : List (Addr × Addr)} {rows : List FR} (hl : rows.length ≤ fa.length) (hc : ∀ i c, ctxOf rows i = some c → c < fa.length) (hu : ∀ (i : Nat) (r : FR) (c : Nat), rows[i]? = some r → r.cause = some c → c < fa.length) : fcells K (fa ++ q) rows = fcells K fa rows := by
  unfold fcells
  refine List.ext_getElem (by simp) fun i h1 h2 => ?_
  have hi : i < rows.length := by simpa using h1
  simp only [List.getElem_mapIdx, fcell]
  have e := List.getElem?_eq_getElem hi
  rw [getD_app (by omega), refO_app fun c q => hc i c (by unfold ctxOf; rw [e]; exact q), refO_app fun c q => hu i _ c e q]
theorem valV_bd (fa : List (Addr × Addr)) (k : Str) : ∀ b : List (Str × Nat), valV (bdK fa b) (Sum.inr k) = (bget b k).map (refF fa)
  | [] => rfl
  | p :: b => by
    have ih := valV_bd fa k b
    unfold bdK at ih ⊢
    unfold bget at ih ⊢
    rw [List.map_cons]
    by_cases e : p.1 = k
    · rw [valV_pos (by exact congrArg Sum.inr e), List.find?_cons, decide_eq_true e]
      rfl
    · rw [valV_neg (fun z => e (Sum.inr.inj z)), List.find?_cons, decide_eq_false e]
      exact ih
theorem any_bd (fa : List (Addr × Addr)) (k : Str) (b : List (Str × Nat)) : ((bdK fa b).any fun kv => decide (kv.1 = Sum.inr k)) = b.any fun p => decide (p.1 = k) := by
  unfold bdK
  rw [List.any_map]
  refine congrArg b.any (funext fun p => ?_)
  show decide ((Sum.inr p.1 : Key) = Sum.inr k) = decide (p.1 = k)
  exact decide_eq_decide.mpr ⟨Sum.inr.inj, congrArg Sum.inr⟩
theorem putK_bd (fa : List (Addr × Addr)) (k : Str) (n : Nat) (b : List (Str × Nat)) : putK (bdK fa b) (Sum.inr k) (refF fa n) = bdK fa (bput b k n) := by
  unfold putK bput
  rw [any_bd]
  split
  · unfold bdK
    rw [List.map_map, List.map_map]
    refine List.map_congr_left fun p _ => ?_
    show (if (Sum.inr p.1 : Key) = Sum.inr k then ((Sum.inr p.1 : Key), refF fa n) else (Sum.inr p.1, refF fa p.2)) = (Sum.inr (if p.1 = k then (p.1, n) else p).1, refF fa (if p.1 = k then (p.1, n) else p).2)
    by_cases e : p.1 = k
    · rw [if_pos e, if_pos (congrArg Sum.inr e)]
    · rw [if_neg e, if_neg (fun z => e (Sum.inr.inj z))]
  · unfold bdK
    rw [List.map_append]
    rfl
theorem dropK_bd (fa : List (Addr × Addr)) (k : Str) (b : List (Str × Nat)) : dropK (bdK fa b) (Sum.inr k) = bdK fa (bdrop b k) := by
  unfold dropK bdrop bdK
  rw [List.filter_map]
  refine congrArg _ (congrArg (fun f => List.filter f b) (funext fun p => ?_))
  show decide ((Sum.inr p.1 : Key) ≠ Sum.inr k) = decide (p.1 ≠ k)
  exact decide_eq_decide.mpr ⟨fun h z => h (congrArg Sum.inr z), fun h z => h (Sum.inr.inj z)⟩
section
variable {K : Frg} {H0 H H' : Hp} {a : RA} {s : PS} {fa : List (Addr × Addr)} {lg : List V} {fr : List Fh}
theorem Ms.runner (m : Ms K H0 H a s fa lg fr) : H a.R = some (.ins (a_Runner K) a.dR (rFs a.T a.B a.L a.F s.steps a.A)) := m.own.get 0 rfl
theorem Ms.board (m : Ms K H0 H a s fa lg fr) : H a.B = some (.dK (bdK fa s.board)) := m.own.get 1 rfl
theorem Ms.logl (m : Ms K H0 H a s fa lg fr) : H a.L = some (.lst lg) := m.own.get 2 rfl
theorem Ms.faul (m : Ms K H0 H a s fa lg fr) : H a.F = some (.lst (flV fa s.rows.length)) := m.own.get 3 rfl
theorem Ms.tree (m : Ms K H0 H a s fa lg fr) : H a.T = some (.ins (a_KindTree K) a.dT [("s1_parents", .ref a.PD)]) := m.own.get 4 rfl
theorem Ms.pard (m : Ms K H0 H a s fa lg fr) : H a.PD = some (.dK kindsK) := m.own.get 5 rfl
theorem Ms.actl (m : Ms K H0 H a s fa lg fr) : H a.A = some (.lst [.ref a.act]) := m.own.get 6 rfl
theorem Ms.acti (m : Ms K H0 H a s fa lg fr) : H a.act = some (.ins (a_Activation K) a.dA [("s3_frames", .ref a.FR), ("s3_handled", .ref a.HD)]) := m.own.get 7 rfl
theorem Ms.fral (m : Ms K H0 H a s fa lg fr) : H a.FR = some (.lst (frV fr)) := m.own.get 8 rfl
theorem Ms.hand (m : Ms K H0 H a s fa lg fr) : H a.HD = some (.lst (hdV fa s.hand)) := m.own.get 9 rfl
theorem Ms.fault (m : Ms K H0 H a s fa lg fr) {i : Nat} {r : FR} (h : s.rows[i]? = some r) : H (fa.getD i (0, 0)).1 = some (.ins (a_Fault K) (fa.getD i (0, 0)).2 (fFs r.kind r.label i (refO fa r.ctx) (refO fa r.cause) r.hides)) :=
  fault_at (A := baseC K a s.steps (bdK fa s.board) lg (flV fa s.rows.length) (frV fr) (hdV fa s.hand) ++ fr.map (fhc K)) (by rw [List.append_assoc]; exact m.own) h
/-- the rows change -/
theorem Ms.rows {rows : List FR} (m : Ms K H0 H a s fa lg fr) (hl : rows.length = s.rows.length) (k : Own (cut H (fcells K fa s.rows)) H' (fcells K fa rows)) (t : TP H H') : Ms K H0 H' a { s with rows := rows } fa lg fr := by
  have w : Own H0 H ((baseC K a s.steps (bdK fa s.board) lg (flV fa s.rows.length) (frV fr) (hdV fa s.hand) ++ fr.map (fhc K)) ++ fcells K fa s.rows) := by rw [List.append_assoc]; exact m.own
  have w2 := w.back k
  refine ⟨?_, m.log.tp t, m.len.trans hl.symm⟩
  rw [List.append_assoc] at w2
  show Own H0 H' (baseC K a s.steps (bdK fa s.board) lg (flV fa rows.length) (frV fr) (hdV fa s.hand) ++ (fr.map (fhc K) ++ fcells K fa rows))
  rw [hl]
  exact w2
theorem Ms.cutF (m : Ms K H0 H a s fa lg fr) : Own (cut H (fcells K fa s.rows)) H (fcells K fa s.rows) :=
  Own.cut (A := baseC K a s.steps (bdK fa s.board) lg (flV fa s.rows.length) (frV fr) (hdV fa s.hand) ++ fr.map (fhc K)) (by rw [List.append_assoc]; exact m.own)
end
section
variable {K : Frg} {σ : L2.St} {H H' H0 : Hp} {ta tb te tx tv tl : TE} {t u : TT} {x y z v : V} {a C dx : Addr} {fs : List (Str × V)} {f : Str} {D : Ends} {tz tu : TS} {g : TG} {l : List (Addr × HO)}
theorem q_asgX {i : Nat} (h : te σ H fun x H1 => tz D (σ.set i (some x)) H1) : tSeq (tAsg te (gName i)) tz D σ H := h
theorem s_retX (h : te σ H D.rt) : tRet te D σ H := h
theorem q_dropX (h : te σ H fun _ H1 => tz D σ H1) : tSeq (tDrop te) tz D σ H := h
theorem el_rev {xs : List V} (h : Ev te σ H (.ref a)) (hx : SqL K H a xs) : EvL (tRevL K te) σ H xs.reverse := fun H1 e1 _ q => h H1 e1 _ fun H2 e2 => ⟨a, xs, rfl, ex_l (e1.trans e2) hx, fun p hp => q p _ (fresh_back e2 hp) (e2.trans (Ex.new hp)) upd_same⟩
theorem rv_neL {p q : Addr} {xs : List V} (h : SqL K H p xs) (h2 : SqL K H q []) : RV (rLE K true) (.ref p) (.ref q) H (.bl (!xs.isEmpty)) := fun H1 e _ k => ⟨p, q, xs, rfl, rfl, ex_l e h, ex_l e h2, k H1 (Ex.refl H1)⟩
theorem rv_eqL {p q : Addr} {xs : List V} (h : SqL K H p xs) (h2 : SqL K H q []) : RV (rLE K false) (.ref p) (.ref q) H (.bl xs.isEmpty) := fun H1 e _ k => ⟨p, q, xs, rfl, rfl, ex_l e h, ex_l e h2, k H1 (Ex.refl H1)⟩
end
section
variable {P : Program} {w : World} {K : Frg} {mg : Str → Option Value} {base : Heap}
def sp_now (K : Frg) : Sp := Pur fun vs H z => ∃ H0 a s fa lg fr, vs = [.ref a.R] ∧ Ms K H0 H a s fa lg fr ∧ z = refO fa s.hand.getLast?
theorem ok_Runner_s3_now (T : Tx w K mg) : FOk P w K mg base 1 (f_Runner_s3_now K) ["self"] [] (sp_now K) := by
  obtain ⟨fd, F⟩ := T.d_Runner_s3_now
  refine ⟨⟨fd, [], F.ok sc_Runner_s3_now (fun vs H Q E h => ?_) (fun cdv A outer s H vs Q E hr h => ?_), F.bindsN fun _ _ _ _ _ _ us hl => match us, hl with | [_], _ => rfl, .nil⟩, F.kp⟩
  · obtain ⟨z, ⟨_, a, s, fa, lg, fr, rfl, _⟩, _⟩ := h
    rfl
  · obtain ⟨z, ⟨H0, a, s, fa, lg, fr, rfl, m, rfl⟩, k⟩ := h
    refine ⟨_, (PSs.nox (pss_cons (ps_for PassesOwn.never rfl (pi_list (pe_revL (pe_fld (pv 0) rfl))) (pg_name (i := 1) sc_Runner_s3_now.nd rfl (Or.inl rfl)) (pss_one (ps_if (pt_cmpR (op_neLE hr.units0) (pe_fld (pv 1) rfl) (pe_lst pa_nil) (nomark _)) (pss_one (ps_ret (pe_ix ix_list (pe_fld (pv 1) rfl) (pe_un un_neg pe_int) (fun _ _ => rfl)))) pss_nil))) (pss_one (ps_ret pe_non)))), ?_⟩
    refine q_forNL (xs := [.ref a.act]) (el_rev (xs := [.ref a.act]) (ev_fld (ev_var rfl) m.runner T.c_Runner T.n_Runner_s3_active rfl) (sq_of m.actl)) (fun p i σ' H' => ∃ o, σ' = [some (.ref a.R), o] ∧ Ex H H' ∧ H' p = some (.lst [.ref a.act]) ∧ (0 < i → s.hand = []))
      (fun p H1 _ e1 h1 => ⟨none, rfl, e1, h1, fun q => absurd q (Nat.lt_irrefl _)⟩) (fun p i σ' H' _ ⟨_, _, _, h1, _⟩ => sq_of h1) (fun p i x σ' H' hx pv => ?_) fun p σ' H' pv => ?_
    · obtain ⟨o, rfl, e1, h1, _⟩ := pv
      have ex : x = .ref a.act := by
        match i, hx with
        | 0, hx => exact (Option.some.inj hx).symm
        | i + 1, hx => cases hx
      subst ex
      show tIfS _ _ _ _ [some (.ref a.R), some (.ref a.act)] H'
      have m1 := m.grow e1
      refine s_when (b := !(hdV fa s.hand).isEmpty) (et_test (ev_opL (ev_fld (ev_var rfl) m1.acti T.c_Activation T.n_Activation_s3_handled rfl) (el_lst ea_nil (Nat.zero_le _)) fun q H2 h2 e2 => rv_neL (sq_of (e2 _ _ m1.hand)) (sq_of h2))) (fun q H2 e2 => ?_) fun q H2 e2 => ⟨_, rfl, e1.trans e2, e2 _ _ h1, fun _ => ?_⟩
      · have m2 := m1.grow e2
        cases hh : s.hand.getLast? with
        | none =>
          rw [List.getLast?_eq_none_iff.mp hh] at q
          exact Bool.noConfusion q
        | some g =>
          obtain ⟨ys, ey⟩ := List.getLast?_eq_some_iff.mp hh
          have hl : hdV fa s.hand = hdV fa ys ++ [refF fa g] := by rw [ey]; unfold hdV; rw [List.map_append]; rfl
          rw [hh] at k
          refine s_ret (ev_op (ev_fld (ev_var rfl) m2.acti T.c_Activation T.n_Activation_s3_handled rfl) (ev_un ev_c ru_neg) (rv_ixL (sq_of m2.hand) (by rw [hl]; exact atI_last _ _))) fun H3 e3 => k H3 ((e1.trans e2).trans e3)
      · cases hs : s.hand with
        | nil => rfl
        | cons b r => rw [hs] at q; cases q
    · obtain ⟨o, rfl, e1, h1, h2⟩ := pv
      have hn := h2 (Nat.zero_lt_one)
      rw [hn] at k
      exact s_ret ev_c fun H3 e3 => k H3 (e1.trans e3)
end
end L2.EX
namespace L2.EX
open PySem PySem.Spec PyProof.Rows Evl
/-! The runner makes, raises, finds faults. -/
theorem pre_ref {fa fa' : List (Addr × Addr)} (h : fa <+: fa') {i : Nat} (hi : i < fa.length) : refF fa' i = refF fa i := by
  obtain ⟨q, rfl⟩ := h
  exact refF_app hi
theorem pre_refO {fa fa' : List (Addr × Addr)} (h : fa <+: fa') {o : Option Nat} (hi : ∀ i, o = some i → i < fa.length) : refO fa' o = refO fa o := by
  obtain ⟨q, rfl⟩ := h
  exact refO_app hi
/-- what comes out of a statement: nothing, or the ending of a fault -/
def OutV (H : Hp) (fa : List (Addr × Addr)) (v : V) : Option Nat → Prop
  | none => v = .non
  | some f => ∃ p, v = .ref p ∧ H p = some (.tup [.str "fault", refF fa f])
theorem cells_made {K : Frg} {a : RA} {s : PS} {fa : List (Addr × Addr)} {lg' : List V} {fr : List Fh} {x dx : Addr} {kd lb : Str} {k j : Nat} (hlen : fa.length = s.rows.length) (wf : WF k j s) : cells K a (made s kd lb) (fa ++ [(x, dx)]) lg' fr =
    (baseC K a s.steps (bdK fa s.board) lg' (flV fa s.rows.length ++ [.ref x]) (frV fr) (hdV fa s.hand) ++ (fr.map (fhc K) ++ fcells K fa s.rows)) ++ [(x, .ins (a_Fault K) dx (fFs kd lb s.rows.length .non .non false))] := by
  unfold cells
  have e1 : (made s kd lb).rows = s.rows ++ [⟨kd, lb, none, none, false⟩] := rfl
  have e2 : (made s kd lb).rows.length = fa.length + 1 := by rw [made_len, hlen]
  have e3 : fcells K (fa ++ [(x, dx)]) (made s kd lb).rows = fcells K fa s.rows ++ [(x, .ins (a_Fault K) dx (fFs kd lb s.rows.length .non .non false))] := by
    rw [e1]
    unfold fcells
    rw [List.mapIdx_concat]
    have z := fcells_app (K := K) (q := [(x, dx)]) (rows := s.rows) (Nat.le_of_eq hlen.symm) (fun i c q => by rw [hlen]; exact wf.ctx i c q) (fun i r c q e => by rw [hlen]; exact wf.cau i r c q e)
    unfold fcells at z
    rw [z]
    refine congrArg (_ ++ ·) (congrArg (fun q => [q]) ?_)
    unfold fcell
    have z2 : (fa ++ [(x, dx)]).getD s.rows.length (0, 0) = (x, dx) := by rw [← hlen]; simp
    rw [z2]
    rfl
  rw [e3, e2, flV_new, hlen]
  have e4 : (made s kd lb).board = s.board := rfl
  have e5 : (made s kd lb).hand = s.hand := rfl
  rw [e4, e5, bdK_app (fun p hp => by rw [hlen]; exact wf.brd p hp), hdV_app (fun p hp => by rw [hlen]; exact wf.hnd p hp)]
  simp only [List.append_assoc]
  rfl
theorem ev_dget1 {σ : L2.St} {H : Hp} {td ty : TE} {d : Addr} {kvs : List (Key × V)} {k : Key} (h : Ev td σ H (.ref d)) (hd : H d = some (.dK kvs)) (hk : Ev ty σ H (kV k)) : Ev (tDGet1 td ty) σ H ((valV kvs k).getD .non) := fun H1 e1 _ q =>
  h H1 e1 _ fun H2 e2 => ⟨d, rfl, .inl ⟨kvs, .inl ((e1.trans e2) _ _ hd)⟩, hk H2 (e1.trans e2) _ fun H3 e3 => ⟨_, DGet.k (((e1.trans e2).trans e3) _ _ hd), q H3 (e2.trans e3)⟩⟩
section
variable {P : Program} {w : World} {K : Frg} {mg : Str → Option Value} {base : Heap}
def sp_made (K : Frg) : Sp := fun vs H Q _ => ∃ H0 a s fa lg fr k l, vs = [.ref a.R, .str k, .str l] ∧ Ms K H0 H a s fa lg fr ∧ isKindP k ∧ isLabelP l ∧ WF 1 0 s ∧ s.steps ≤ 1000 ∧ ∀ H' fa' lg', fa <+: fa' → Ms K H0 H' a (made s k l) fa' lg' fr → Q (refF fa' s.rows.length) H'
theorem ok_Runner_s3_made (T : Tx w K mg) (F_Fault_init : FOk P w K mg base 3 (f_Fault_init K) ["self", "kind", "label", "number"] [] (sp_ini (a_Fault K) R_Fault)) (F_Fault_number : FOk P w K mg base 1 (f_Fault_number K) ["self"] [] (sp_get (a_Fault K) "s1_number")) :
    FOk P w K mg base 5 (f_Runner_s3_made K) ["self", "kind", "label"] [] (sp_made K) := by
  obtain ⟨fd, F⟩ := T.d_Runner_s3_made
  refine ⟨⟨fd, [], F.ok sc_Runner_s3_made (fun vs H Q E h => ?_) (fun cdv A outer s H vs Q E hr h => ?_), F.bindsN fun _ _ _ _ _ _ us hl => match us, hl with | [_, _, _], _ => rfl, .nil⟩, F.kp⟩
  · obtain ⟨H0, a, s, fa, lg, fr, kd, lb, rfl, _⟩ := h
    rfl
  · obtain ⟨H0, a, s, fa, lg, fr, kd, lb, rfl, m, h1, h2, wf, hst, k⟩ := h
    refine ⟨_, (PSs.nox (pss_cons (ps_set (i := 3) sc_Runner_s3_made.nd rfl (Or.inl rfl) (pk_make T.k_Fault F_Fault_init hr rfl T.g_Fault (pa_cons (pv 1) (pa_cons (pv 2) (pa_cons (pe_callB call_len rfl T.z_len boot_len (pa_cons (pe_fld (pv 0) rfl) pa_nil)) pa_nil))))) (pss_cons (ps_expr (pe_bm PySem.F.plainAttrs_list PySem.F.slot_list_append PySem.F.type_list_append mt_append (pe_fld (pv 0) rfl) (pa_cons (pv 3) pa_nil))) (pss_cons (ps_expr (pe_bm PySem.F.plainAttrs_list PySem.F.slot_list_append PySem.F.type_list_append mt_append (pe_fld (pv 0) rfl) (pa_cons (pe_tup (pa_cons pe_str (pa_cons (pk_prop (pv 3) T.c_Fault T.p_Fault_number F_Fault_number hr) (pa_cons (pv 1) (pa_cons (pv 2) pa_nil))))) pa_nil))) (pss_one (ps_ret (pv 3))))))), ?_⟩
    have hlen := m.len
    have nr := wf.nr
    have nl := wf.nl
    have lnF : Ev (tCB (fun xs H Q => ∃ x n, xs = [x] ∧ LenV K x H n ∧ Q (.int n) H) (tCons (tFld K (tVar 0) "s3_faults") tNil)) [some (.ref a.R), some (.str kd), some (.str lb), none] H (.int (s.rows.length : Int)) :=
      ev_cb (ea_cons (ev_fld (ev_var rfl) m.runner T.c_Runner T.n_Runner_s3_faults rfl) ea_nil) (rc_len fun H5 e5 => .inl ⟨_, sq_of (e5 _ _ m.faul), by unfold flV; simp⟩)
    refine q_asgX (mk_own (fs := fFs kd lb s.rows.length .non .non false) m.own (ea_cons (ev_var rfl) (ea_cons (ev_var rfl) (ea_cons lnF ea_nil))) (fun H2 x dx Q' w2 _ k' => ini_at ⟨kd, lb, s.rows.length, rfl, h1, h2, rfl⟩ w2 k') _ fun x dx H1 hx w1 t1 _ => ?_)
    have run1 : H1 a.R = some (.ins (a_Runner K) a.dR (rFs a.T a.B a.L a.F s.steps a.A)) := w1.get 0 rfl
    have lg1 := m.log.tp t1
    -- self.s3_faults.append(fault)
    refine q_app (w1.get 3 rfl) (ev_fld (ev_var rfl) run1 T.c_Runner T.n_Runner_s3_faults rfl) (ev_var rfl) (by unfold flV; rw [List.length_map, List.length_range]; omega) fun H2 e2 => ?_
    have w2 : Own H0 (upd H2 a.F (.lst (flV fa s.rows.length ++ [.ref x]))) ((baseC K a s.steps (bdK fa s.board) lg (flV fa s.rows.length ++ [.ref x]) (frV fr) (hdV fa s.hand) ++ (fr.map (fhc K) ++ fcells K fa s.rows)) ++ [(x, .ins (a_Fault K) dx (fFs kd lb s.rows.length .non .non false))]) := (w1.grow e2).set 3 rfl
    have lg2 := (lg1.tp (ex_tp e2)).tp (H' := upd H2 a.F (.lst (flV fa s.rows.length ++ [.ref x]))) (TP.upd (u := .lst (flV fa s.rows.length)) (e2 _ _ (w1.get 3 rfl)) (fun xs z => by cases z))
    have run2 : (upd H2 a.F (.lst (flV fa s.rows.length ++ [.ref x]))) a.R = some (.ins (a_Runner K) a.dR (rFs a.T a.B a.L a.F s.steps a.A)) := w2.get 0 rfl
    have fau2 : (upd H2 a.F (.lst (flV fa s.rows.length ++ [.ref x]))) x = some (.ins (a_Fault K) dx (fFs kd lb s.rows.length .non .non false)) := w2.at_ (x, _) (List.mem_append_right _ (List.mem_singleton.mpr rfl))
    refine q_appU (ys := evV (.fault s.rows.length kd lb)) (w2.get 2 rfl) (ev_fld (ev_var rfl) run2 T.c_Runner T.n_Runner_s3_log rfl) (eu_tup (ea_cons ev_c (ea_cons (ev_prop (ev_var rfl) fau2 (get_v fau2 rfl)) (ea_cons (ev_var rfl) (ea_cons (ev_var rfl) ea_nil)))) (show 4 ≤ 100000 by decide)) (by have := m.log.len; omega) fun p H3 _ e3 h3 => ?_
    have w3 : Own H0 (upd H3 a.L (.lst (lg ++ [.ref p]))) ((baseC K a s.steps (bdK fa s.board) (lg ++ [.ref p]) (flV fa s.rows.length ++ [.ref x]) (frV fr) (hdV fa s.hand) ++ (fr.map (fhc K) ++ fcells K fa s.rows)) ++ [(x, .ins (a_Fault K) dx (fFs kd lb s.rows.length .non .non false))]) := (w2.grow e3).set 2 rfl
    have tp3 : TP H3 (upd H3 a.L (.lst (lg ++ [.ref p]))) := TP.upd (u := .lst lg) (e3 _ _ (w2.get 2 rfl)) (fun xs z => by cases z)
    refine s_ret (ev_var rfl) fun H4 e4 => ?_
    have z := k H4 (fa ++ [(x, dx)]) (lg ++ [.ref p]) ⟨_, rfl⟩ ⟨?_, ?_, ?_⟩
    · rw [← hlen, refF_new] at z
      exact z
    · rw [cells_made hlen wf]
      exact w3.grow e4
    · exact ((lg2.tp (ex_tp e3)).snoc h3).tp (tp3.trans (ex_tp e4))
    · rw [made_len, List.length_append, hlen]
      rfl
def sp_raised (K : Frg) : Sp := fun vs H Q _ => ∃ H0 a s fa lg fr f, vs = [.ref a.R, refF fa f] ∧ Ms K H0 H a s fa lg fr ∧ WF 0 0 s ∧ f < s.rows.length ∧ ∀ H' p, Ms K H0 H' a (raised s f) fa lg fr → H' p = some (.tup [.str "fault", refF fa f]) → Q (.ref p) H'
theorem ok_Runner_s3_raised (T : Tx w K mg) (F_raise_under : FOk P w K mg base 3 (f_raise_under K) ["fault", "handled"] [] (sp_raise_under K)) (F_Runner_s3_now : FOk P w K mg base 1 (f_Runner_s3_now K) ["self"] [] (sp_now K)) :
    FOk P w K mg base 4 (f_Runner_s3_raised K) ["self", "fault"] [] (sp_raised K) := by
  obtain ⟨fd, F⟩ := T.d_Runner_s3_raised
  refine ⟨⟨fd, [], F.ok sc_Runner_s3_raised (fun vs H Q E h => ?_) (fun cdv A outer s H vs Q E hr h => ?_), F.bindsN fun _ _ _ _ _ _ us hl => match us, hl with | [_, _], _ => rfl, .nil⟩, F.kp⟩
  · obtain ⟨H0, a, s, fa, lg, fr, f, rfl, _⟩ := h
    rfl
  · obtain ⟨H0, a, s, fa, lg, fr, f, rfl, m, wf, hf, k⟩ := h
    refine ⟨_, (PSs.nox (pss_cons (ps_expr (pk_call F_raise_under hr rfl T.g_raise_under (pa_cons (pv 1) (pa_cons (pk_meth0 (pv 0) T.c_Runner T.m_Runner_s3_now F_Runner_s3_now hr) pa_nil)))) (pss_one (ps_ret (pe_tup (pa_cons pe_str (pa_cons (pv 1) pa_nil))))))), ?_⟩
    have hl : ∀ i, s.hand.getLast? = some i → i < s.rows.length := fun i hi => wf.hnd i (List.mem_of_getLast? hi)
    refine q_dropX (ea_cons (ev_var rfl) (ea_cons (ev_meth (ev_var rfl) m.runner rfl ea_nil (pur_v fun H1 e1 => ⟨H0, a, s, fa, lg, fr, rfl, m.grow e1, rfl⟩)) ea_nil) H (Ex.refl H) _ fun H1 e1 => ?_)
    have m1 := m.grow e1
    refine ⟨_, fa, s.rows, f, s.hand.getLast?, rfl, m1.cutF, hf, hl, wf.ctx, wf.rnk, fun H2 w2 t2 => ?_⟩
    have hul : (under s.rows f s.hand.getLast?).length = s.rows.length := by
      have z := raised_len s f
      rw [raised_under] at z
      exact z
    have m2 := m1.rows hul w2 t2
    rw [← raised_under] at m2
    refine s_retU (eu_tup (ea_cons ev_c (ea_cons (ev_var rfl) ea_nil)) (show 2 ≤ 100000 by decide)) fun p H3 _ e3 h3 => k H3 p (m2.grow e3) h3
def sp_fail (K : Frg) : Sp := fun vs H Q _ => ∃ H0 a s fa lg fr k l, vs = [.ref a.R, .str k, .str l] ∧ Ms K H0 H a s fa lg fr ∧ isKindP k ∧ isLabelP l ∧ WF 1 0 s ∧ s.steps ≤ 1000 ∧ ∀ H' fa' lg' v, fa <+: fa' → Ms K H0 H' a (fail s k l).2 fa' lg' fr → OutV H' fa' v (fail s k l).1 → Q v H'
theorem ok_Runner_s3_fail (T : Tx w K mg) (F_Runner_s3_made : FOk P w K mg base 5 (f_Runner_s3_made K) ["self", "kind", "label"] [] (sp_made K)) (F_Runner_s3_raised : FOk P w K mg base 4 (f_Runner_s3_raised K) ["self", "fault"] [] (sp_raised K)) :
    FOk P w K mg base 6 (f_Runner_s3_fail K) ["self", "kind", "label"] [] (sp_fail K) := by
  obtain ⟨fd, F⟩ := T.d_Runner_s3_fail
  refine ⟨⟨fd, [], F.ok sc_Runner_s3_fail (fun vs H Q E h => ?_) (fun cdv A outer s H vs Q E hr h => ?_), F.bindsN fun _ _ _ _ _ _ us hl => match us, hl with | [_, _, _], _ => rfl, .nil⟩, F.kp⟩
  · obtain ⟨H0, a, s, fa, lg, fr, kd, lb, rfl, _⟩ := h
    rfl
  · obtain ⟨H0, a, s, fa, lg, fr, kd, lb, rfl, m, h1, h2, wf, hst, k⟩ := h
    refine ⟨_, (PSs.nox (pss_one (ps_ret (pk_meth (pv 0) T.c_Runner T.m_Runner_s3_raised F_Runner_s3_raised hr (pa_cons (pk_meth (pv 0) T.c_Runner T.m_Runner_s3_made F_Runner_s3_made hr (pa_cons (pv 1) (pa_cons (pv 2) pa_nil))) pa_nil))))), ?_⟩
    refine ⟨_, rfl, a.R, _, _, rfl, m.runner, rfl, ?_⟩
    refine ⟨_, rfl, a.R, _, _, rfl, m.runner, rfl, _, rfl, _, rfl, ?_⟩
    refine ⟨H0, a, s, fa, lg, fr, kd, lb, rfl, m, h1, h2, wf, hst, fun H1 fa' lg' pre m1 t1 => ?_⟩
    refine ⟨H0, a, made s kd lb, fa', lg', fr, s.rows.length, rfl, m1, wf.made kd lb, by rw [made_len]; omega, fun H2 p m2 hp t2 => ?_⟩
    exact k H2 fa' lg' (.ref p) pre m2 ⟨p, rfl, hp⟩
def sp_fault_at (K : Frg) : Sp := Pur fun vs H z => ∃ H0 a s fa lg fr n k j, vs = [.ref a.R, .str n] ∧ Ms K H0 H a s fa lg fr ∧ WF k j s ∧ z = refO fa (bget s.board n)
theorem ok_Runner_s3_fault_at (T : Tx w K mg) : FOk P w K mg base 1 (f_Runner_s3_fault_at K) ["self", "name"] [] (sp_fault_at K) := by
  obtain ⟨fd, F⟩ := T.d_Runner_s3_fault_at
  refine ⟨⟨fd, [], F.ok sc_Runner_s3_fault_at (fun vs H Q E h => ?_) (fun cdv A outer s H vs Q E hr h => ?_), F.bindsN fun _ _ _ _ _ _ us hl => match us, hl with | [_, _], _ => rfl, .nil⟩, F.kp⟩
  · obtain ⟨z, ⟨_, a, s, fa, lg, fr, n, _, _, rfl, _⟩, _⟩ := h
    rfl
  · obtain ⟨z, ⟨H0, a, s, fa, lg, fr, n, kk, jj, rfl, m, wf, rfl⟩, k⟩ := h
    refine ⟨_, (PSs.nox (pss_cons (ps_set (i := 2) sc_Runner_s3_fault_at.nd rfl (Or.inl rfl) (pe_dget1 (hu_of hr) (pe_fld (pv 0) rfl) (pv 1) ⟨rfl, rfl, rfl, rfl⟩)) (pss_one (ps_ret (pe_ifExp (pt_val (pe_callB call_isi rfl T.z_isinstance boot_isinstance (pa_cons (pv 2) (pa_cons (pe_gref rfl T.g_Fault) pa_nil)))) (pv 2) pe_non))))), ?_⟩
    have gv : (((bget s.board n).map (refF fa)).getD .non) = refO fa (bget s.board n) := by cases bget s.board n <;> rfl
    refine q_asg (ev_is (ev_dget1 (k := Sum.inr n) (ev_fld (ev_var rfl) m.runner T.c_Runner T.n_Runner_s3_board rfl) m.board (ev_var rfl)) ((congrArg (Option.getD · V.non) (valV_bd fa n s.board)).trans gv)) fun H1 e1 => ?_
    have m := m.grow e1
    have k := fun H2 e2 => k H2 (e1.trans e2)
    cases hb : bget s.board n with
    | none =>
      rw [hb] at k
      exact s_ret (ev_if (b := false) (et_B (ev_isi (b := false) (ev_var rfl) ev_c (.own _) (fun _ _ => .base .non) T.oN_Fault)) (fun q => Bool.noConfusion q) fun _ => ev_c) k
    | some f =>
      rw [hb] at k
      obtain ⟨r, er⟩ := row_at (wf.bget hb)
      exact s_ret (ev_if (b := true) (et_B (ev_isi (b := true) (ev_var rfl) ev_c (.own _) (fun H1 e1 => T.y_Fault.ty (e1 _ _ (m.fault er))) T.o_Fault)) (fun _ => ev_var rfl) fun q => Bool.noConfusion q) k
def sp_tick (K : Frg) : Sp := fun vs H Q _ => ∃ H0 a s fa lg fr, vs = [.ref a.R] ∧ Ms K H0 H a s fa lg fr ∧ s.steps ≤ 1000 ∧ ∀ H', Ms K H0 H' a (tick s) fa lg fr → Q .non H'
theorem ok_Runner_s3_begin_statement (T : Tx w K mg) : FOk P w K mg base 1 (f_Runner_s3_begin_statement K) ["self"] [] (sp_tick K) := by
  obtain ⟨fd, F⟩ := T.d_Runner_s3_begin_statement
  refine ⟨⟨fd, [], F.ok sc_Runner_s3_begin_statement (fun vs H Q E h => ?_) (fun cdv A outer s H vs Q E hr h => ?_), F.bindsN fun _ _ _ _ _ _ us hl => match us, hl with | [_], _ => rfl, .nil⟩, F.kp⟩
  · obtain ⟨H0, a, s, fa, lg, fr, rfl, _⟩ := h
    rfl
  · obtain ⟨H0, a, s, fa, lg, fr, rfl, m, hs, k⟩ := h
    refine ⟨_, (PSs.nox (pss_cons (ps_if (pt_cmpR op_eq (pe_fld (pv 0) rfl) (pe_fld (pv 0) rfl) (nomark _)) pss_never pss_nil) (pss_one (ps_fldaug (pv 0) pe_int in_add)))), ?_⟩
    refine q_when (b := false) (et_is (et_test (ev_op (ev_fld (ev_var rfl) m.runner T.c_Runner T.n_Runner_s3_steps rfl) (ev_fld (ev_var rfl) m.runner T.c_Runner T.n_Runner_s3_limit rfl) (rv_eq rfl))) (decide_eq_false fun z => by have := V.int.inj z; omega)) (fun q => Bool.noConfusion q) fun _ H1 e1 => ?_
    have m1 := m.grow e1
    refine s_fldadd ev_c (ev_var rfl) m1.runner T.c_Runner T.n_Runner_s3_steps rfl (show 9 < 1000 by decide) fun H2 e2 => k _ ⟨?_, ?_, m.len⟩
    · exact (m1.grow e2).own.set 0 rfl
    · exact (m1.grow e2).log.tp (TP.upd (m1.grow e2).runner (fun xs z => by cases z))
end
end L2.EX
namespace L2.EX
open PySem PySem.Spec PyProof.Rows Evl
/-! The runner raises as a statement says. -/
def oV : Option Str → V
  | none => .non
  | some n => .str n
def srcV : Option (Option Str) → List V
  | none => []
  | some o => [oV o]
def simV : Sim → List V
  | .raise k l src => .str "raise" :: .str k :: .str l :: srcV src
  | .throw n src => .str "throw" :: .str n :: srcV src
  | .again => [.str "again"]
  | .note i => [.str "note", .int i]
def srcOk (src : Option (Option Str)) : Prop := ∀ n, src = some (some n) → isNameP n ∧ isLabelP n
def Sim.Ok : Sim → Prop
  | .raise k l src => (isKindP k ∧ (valV kindsK (Sum.inr k)).isSome = true) ∧ isLabelP l ∧ srcOk src
  | .throw n src => isNameP n ∧ isLabelP n ∧ srcOk src
  | .again => True
  | .note i => 0 ≤ i ∧ i ≤ 1000
section
variable {P : Program} {w : World} {K : Frg} {mg : Str → Option Value} {base : Heap}
theorem q_par {i j : Nat} {ta : TA} {σ : L2.St} {H : Hp} {D : Ends} {tz : TS} {v w : V} (h : EvA ta σ H [v, w]) (k : ∀ H1, Ex H H1 → tz D ((σ.set i (some v)).set j (some w)) H1) : tSeq (tPar i j ta) tz D σ H := h H (Ex.refl H) _ fun H1 e1 => ⟨v, w, rfl, k H1 e1⟩
theorem s_dropX {te : TE} {D : Ends} {σ : L2.St} {H : Hp} (h : te σ H fun _ H1 => D.nx σ H1) : tDrop te D σ H := h
theorem x_call {sp : Sp} {dvs vs : List V} {E : XK} {ta : TA} {σ : L2.St} {H : Hp} {Q : VK} (h : EvA ta σ H vs) (k : ∀ H1, Ex H H1 → sp (vs ++ dvs) H1 Q E) : tCall sp dvs E ta σ H Q := h H (Ex.refl H) _ fun H1 e1 => k H1 e1
theorem x_meth {sp : Sp} {dvs vs : List V} {E : XK} {te : TE} {tr : TA} {σ : L2.St} {H : Hp} {Q : VK} {a C dx : Addr} {fs : List (Str × V)} {m : Str} (h : Ev te σ H (.ref a)) (ho : H a = some (.ins C dx fs)) (hm : fs.lookup m = none) (ha : EvA tr σ H vs) (k : ∀ H1, Ex H H1 → sp (.ref a :: (vs ++ dvs)) H1 Q E) : tMeth C m sp dvs E te tr σ H Q :=
  h H (Ex.refl H) _ fun H1 e1 => ⟨a, dx, fs, rfl, e1 _ _ ho, hm, ha H1 e1 _ fun H2 e2 => k H2 (e1.trans e2)⟩
theorem cut6 {t1 t2 t3 t4 t5 t6 tz : TS} {D : Ends} {σ : L2.St} {H : Hp} (Mid : L2.St → Hp → Prop) (tail : ∀ σ' H', Mid σ' H' → tz D σ' H') (h : (∀ σ' H', Mid σ' H' → tz D σ' H') → tSeq t1 (tSeq t2 (tSeq t3 (tSeq t4 (tSeq t5 (tSeq t6 tz))))) D σ H) : tSeq t1 (tSeq t2 (tSeq t3 (tSeq t4 (tSeq t5 (tSeq t6 tz))))) D σ H := h tail
theorem isKind_State : isKindP "State" := ⟨by decide +kernel, by decide +kernel, ⟨83, by decide +kernel, by decide +kernel, by decide +kernel⟩, by decide +kernel⟩
theorem isKind_Name : isKindP "Name" := ⟨by decide +kernel, by decide +kernel, ⟨78, by decide +kernel, by decide +kernel, by decide +kernel⟩, by decide +kernel⟩
theorem isLabel_nothing : isLabelP "nothing handled" := ⟨by decide +kernel, by decide +kernel⟩
def sp_raising (K : Frg) : Sp := fun vs H Q _ => ∃ H0 a s fa lg fr x p, vs = [.ref a.R, .ref p] ∧ Ms K H0 H a s fa lg fr ∧ H p = some (.tup (simV x)) ∧ x.hot = true ∧ x.Ok ∧ WF 1 0 s ∧ s.steps ≤ 1000 ∧
  ∀ H' fa' lg' v, fa <+: fa' → Ms K H0 H' a (execS x s).2 fa' lg' fr → OutV H' fa' v (execS x s).1 → Q v H'
theorem ok_Runner_s3_raising (T : Tx w K mg) (F_Runner_s3_now : FOk P w K mg base 1 (f_Runner_s3_now K) ["self"] [] (sp_now K)) (F_Runner_s3_fail : FOk P w K mg base 6 (f_Runner_s3_fail K) ["self", "kind", "label"] [] (sp_fail K))
    (F_Runner_s3_fault_at : FOk P w K mg base 1 (f_Runner_s3_fault_at K) ["self", "name"] [] (sp_fault_at K)) (F_Runner_s3_made : FOk P w K mg base 5 (f_Runner_s3_made K) ["self", "kind", "label"] [] (sp_made K))
    (F_Runner_s3_raised : FOk P w K mg base 4 (f_Runner_s3_raised K) ["self", "fault"] [] (sp_raised K)) (F_with_cause : FOk P w K mg base 3 (f_with_cause K) ["fault", "source"] [] (sp_with_cause K)) :
    FOk P w K mg base 7 (f_Runner_s3_raising K) ["self", "statement"] [] (sp_raising K) := by
  obtain ⟨fd, F⟩ := T.d_Runner_s3_raising
  refine ⟨⟨fd, [], F.ok sc_Runner_s3_raising (fun vs H Q E h => ?_) (fun cdv A outer s H vs Q E hr h => ?_), F.bindsN fun _ _ _ _ _ _ us hl => match us, hl with | [_, _], _ => rfl, .nil⟩, F.kp⟩
  · obtain ⟨H0, a, s, fa, lg, fr, x, p, rfl, _⟩ := h
    rfl
  · obtain ⟨H0, a, s, fa, lg, fr, x, p, rfl, m, hp, hot, ok, wf, hst, k⟩ := h
    refine ⟨_, (PSs.nox (pss_cons (ps_if (pt_cmpR op_eq (pe_ix ix_tup (pv 1) pe_int (fun _ _ => rfl)) pe_str (nomark _)) (pss_cons (ps_set (i := 2) sc_Runner_s3_raising.nd rfl (Or.inl rfl) (pk_meth0 (pv 0) T.c_Runner T.m_Runner_s3_now F_Runner_s3_now hr)) (pss_one (ps_ret (pe_ifExp (pt_cmpR op_notN (pv 2) pe_non (nomark _)) (pe_tup (pa_cons pe_str (pa_cons (pv 2) pa_nil))) (pk_meth (pv 0) T.c_Runner T.m_Runner_s3_fail F_Runner_s3_fail hr (pa_cons pe_str (pa_cons pe_str pa_nil))))))) pss_nil) (pss_cons (ps_set (i := 3) sc_Runner_s3_raising.nd rfl (Or.inl rfl) (pe_cmpR op_eq (pe_ix ix_tup (pv 1) pe_int (fun _ _ => rfl)) pe_str (nomark _))) (pss_cons (ps_if (PW.pt (pw_and (pt_not (pt_val (pv 3))) (pw_and1 (pt_cmpR op_isN (pk_meth (pv 0) T.c_Runner T.m_Runner_s3_fault_at F_Runner_s3_fault_at hr (pa_cons (pe_ix ix_tup (pv 1) pe_int (fun _ _ => rfl)) pa_nil)) pe_non (nomark _))))) (pss_one (ps_ret (pk_meth (pv 0) T.c_Runner T.m_Runner_s3_fail F_Runner_s3_fail hr (pa_cons pe_str (pa_cons (pe_ix ix_tup (pv 1) pe_int (fun _ _ => rfl)) pa_nil))))) pss_nil) (pss_cons (ps_par (i := 4) (j := 5) rfl sc_Runner_s3_raising.nd rfl rfl (by decide) rfl rfl (pa_cons (pe_cmpR op_eq (pe_callB call_len rfl T.z_len boot_len (pa_cons (pv 1) pa_nil)) (pe_ifExp (pt_val (pv 3)) pe_int pe_int) (nomark _)) (pa_cons (pe_ix ix_tup (pv 1) (pe_un un_neg pe_int) (fun _ _ => rfl)) pa_nil)) rfl) (pss_cons (ps_if (PW.pt (pw_and (pt_val (pv 4)) (pw_and (pt_cmpR op_notN (pv 5) pe_non (nomark _)) (pw_and1 (pt_cmpR op_isN (pk_meth (pv 0) T.c_Runner T.m_Runner_s3_fault_at F_Runner_s3_fault_at hr (pa_cons (pv 5) pa_nil)) pe_non (nomark _)))))) (pss_one (ps_ret (pk_meth (pv 0) T.c_Runner T.m_Runner_s3_fail F_Runner_s3_fail hr (pa_cons pe_str (pa_cons (pv 5) pa_nil))))) pss_nil) (pss_cons (ps_set (i := 2) sc_Runner_s3_raising.nd rfl (Or.inl rfl) (pe_ifExp (pt_val (pv 3)) (pk_meth (pv 0) T.c_Runner T.m_Runner_s3_made F_Runner_s3_made hr (pa_cons (pe_ix ix_tup (pv 1) pe_int (fun _ _ => rfl)) (pa_cons (pe_ix ix_tup (pv 1) pe_int (fun _ _ => rfl)) pa_nil))) (pk_meth (pv 0) T.c_Runner T.m_Runner_s3_fault_at F_Runner_s3_fault_at hr (pa_cons (pe_ix ix_tup (pv 1) pe_int (fun _ _ => rfl)) pa_nil)))) (pss_cons (ps_if (pt_val (pv 4)) (pss_one (ps_expr (pk_call F_with_cause hr rfl T.g_with_cause (pa_cons (pv 2) (pa_cons (pe_ifExp (pt_cmpR op_isN (pv 5) pe_non (nomark _)) pe_non (pk_meth (pv 0) T.c_Runner T.m_Runner_s3_fault_at F_Runner_s3_fault_at hr (pa_cons (pv 5) pa_nil))) pa_nil))))) pss_nil) (pss_one (ps_ret (pk_meth (pv 0) T.c_Runner T.m_Runner_s3_raised F_Runner_s3_raised hr (pa_cons (pv 2) pa_nil)))))))))))), ?_⟩
    refine cut6 (fun σ' H' => ∃ fa1 lg1 s1 f isr src nv, σ' = [some (.ref a.R), some (.ref p), some (refF fa1 f), some (.bl isr), some (.bl (Option.isSome src)), some nv] ∧ fa <+: fa1 ∧ Ms K H0 H' a s1 fa1 lg1 fr ∧ WF 0 0 s1 ∧ f < s1.rows.length ∧ (∀ o, src = some o → nv = oV o) ∧ missing s1.board src = none ∧ execS x s = finR s1 f src) ?_ (fun tail => ?_)
    · rintro σ' H1 ⟨fa1, lg1, s1, f, isr, src, nv, rfl, pre, m1, wf1, hf, hnv, hmis, hex⟩
      rw [hex] at k
      cases src with
      | none =>
        refine q_when (b := false) (et_B (ev_var rfl)) (fun q => Bool.noConfusion q) fun _ H2 e2 => ?_
        have m2 := m1.grow e2
        exact ⟨_, rfl, a.R, _, _, rfl, m2.runner, rfl, _, rfl, H0, a, s1, fa1, lg1, fr, f, rfl, m2, wf1, hf, fun H3 q m3 hq _ => k H3 fa1 lg1 (.ref q) pre m3 ⟨q, rfl, hq⟩⟩
      | some o =>
        have eo := hnv o rfl
        subst eo
        have bnd : ∀ i, o.bind (bget s1.board) = some i → i < s1.rows.length := fun i hi => by
          cases o with
          | none => cases hi
          | some n => exact wf1.bget hi
        have srcv : ∀ {H2}, Ex H1 H2 → Ev (tIf (tTest (tOp (fun x y H Q => y = .non ∧ Q (.bl (decide (x = .non))) H) (tVar 5) (tC .non))) (tC .non) (tMeth (a_Runner K) "s3_fault_at" (free (sp_fault_at K)) [] E0 (tVar 0) (tCons (tVar 5) tNil))) [some (.ref a.R), some (.ref p), some (refF fa1 f), some (.bl isr), some (.bl (Option.isSome (some o))), some (oV o)] H2 (refO fa1 (o.bind (bget s1.board))) := fun {H2} e2 => by
          cases o with
          | none => exact ev_if (b := true) (et_test (ev_op (ev_var rfl) ev_c rv_isN)) (fun _ => ev_c) fun q => Bool.noConfusion q
          | some n => exact ev_if (b := false) (et_test (ev_op (ev_var rfl) ev_c rv_isN)) (fun q => Bool.noConfusion q) fun _ => ev_meth (ev_var rfl) (m1.grow e2).runner rfl (ea_cons (ev_var rfl) ea_nil) (pur_v fun H3 e3 => ⟨H0, a, s1, fa1, lg1, fr, n, 0, 0, rfl, m1.grow (e2.trans e3), wf1, rfl⟩)
        refine q_when (b := true) (et_B (ev_var rfl)) (fun _ H2 e2 => ?_) fun q => Bool.noConfusion q
        refine s_dropX (x_call (ea_cons (ev_var rfl) (ea_cons (srcv e2) ea_nil)) fun H3 e3 => ?_)
        have m3 := (m1.grow e2).grow e3
        refine ⟨_, fa1, s1.rows, f, o.bind (bget s1.board), rfl, m3.cutF, hf, bnd, fun H4 w4 t4 => ?_⟩
        have m4 := m3.rows (len_setCause ..) w4 t4
        have wf4 := wf1.cause (f := f) bnd
        exact ⟨_, rfl, a.R, _, _, rfl, m4.runner, rfl, _, rfl, H0, a, _, fa1, lg1, fr, f, rfl, m4, wf4, by show f < (setCause _ _ _).length; rw [len_setCause]; exact hf, fun H5 q m5 hq _ => k H5 fa1 lg1 (.ref q) pre m5 ⟨q, rfl, hq⟩⟩
    · have run0 := m.runner
      -- the statement's items
      have it0 : ∀ {H1 σ'}, Ex H H1 → σ'[1]? = some (some (.ref p)) → ∀ {v}, (simV x)[0]? = some v → Ev (tOp (rIxT K) (tVar 1) (tC (.int 0))) σ' H1 v := fun {H1 σ'} e1 h1 {v} h2 => ev_op (ev_var h1) ev_c (rv_ixT (st_of (e1 _ _ hp)) (atI_nat (j := 0) h2))
      have it1 : ∀ {H1 σ'}, Ex H H1 → σ'[1]? = some (some (.ref p)) → ∀ {v}, (simV x)[1]? = some v → Ev (tOp (rIxT K) (tVar 1) (tC (.int 1))) σ' H1 v := fun {H1 σ'} e1 h1 {v} h2 => ev_op (ev_var h1) ev_c (rv_ixT (st_of (e1 _ _ hp)) (atI_nat (j := 1) h2))
      have it2 : ∀ {H1 σ'}, Ex H H1 → σ'[1]? = some (some (.ref p)) → ∀ {v}, (simV x)[2]? = some v → Ev (tOp (rIxT K) (tVar 1) (tC (.int 2))) σ' H1 v := fun {H1 σ'} e1 h1 {v} h2 => ev_op (ev_var h1) ev_c (rv_ixT (st_of (e1 _ _ hp)) (atI_nat (j := 2) h2))
      have fat : ∀ {H1 σ' tn n}, Ex H H1 → σ'[0]? = some (some (.ref a.R)) → Evl.Ev tn σ' H1 (.str n) → Ev (tMeth (a_Runner K) "s3_fault_at" (free (sp_fault_at K)) [] E0 (tVar 0) (tCons tn tNil)) σ' H1 (refO fa (bget s.board n)) := fun {H1 σ' tn n} e1 h1 h2 => ev_meth (ev_var h1) (m.grow e1).runner rfl (ea_cons h2 ea_nil) (pur_v fun H3 e3 => ⟨H0, a, s, fa, lg, fr, _, 1, 0, rfl, m.grow (e1.trans e3), wf, rfl⟩)
      have mis : ∀ (src : Option (Option Str)) (nv : V), (∀ o, src = some o → nv = oV o) → ∀ {H1 σ'}, Ex H H1 → σ'[0]? = some (some (.ref a.R)) → σ'[4]? = some (some (.bl (Option.isSome src))) → σ'[5]? = some (some nv) →
          EvT (tAnd (tB (tVar 4)) (tAnd (tTest (tOp (fun x y H Q => y = .non ∧ Q (.bl (!decide (x = .non))) H) (tVar 5) (tC .non))) (tTest (tOp (fun x y H Q => y = .non ∧ Q (.bl (decide (x = .non))) H) (tMeth (a_Runner K) "s3_fault_at" (free (sp_fault_at K)) [] E0 (tVar 0) (tCons (tVar 5) tNil)) (tC .non))))) σ' H1 (missing s.board src).isSome := fun src nv hnv {H1 σ'} e1 h0 h4 h5 => by
        cases src with
        | none => exact et_and (a := false) (b := false) (et_B (ev_var h4)) fun q => Bool.noConfusion q
        | some o =>
          have e := hnv o rfl
          subst e
          cases o with
          | none => exact et_is (et_and (a := true) (b := false) (et_B (ev_var h4)) fun _ => et_is (et_and (a := false) (b := false) (et_test (ev_op (ev_var h5) ev_c rv_notN)) fun q => Bool.noConfusion q) rfl) rfl
          | some n =>
            refine et_is (et_and (a := true) (b := (missing s.board (some (some n))).isSome) (et_B (ev_var h4)) fun _ => et_is (et_and (a := true) (b := (missing s.board (some (some n))).isSome) (et_test (ev_op (ev_var h5) ev_c rv_notN)) fun _ => et_test (ev_is (ev_op (fat e1 h0 (ev_var h5)) ev_c rv_isN) ?_)) rfl) rfl
            show V.bl (decide (refO fa (bget s.board n) = .non)) = V.bl (if (bget s.board n).isSome = true then none else some n).isSome
            cases bget s.board n with
            | none => rfl
            | some f => rfl
      have lenv : ∀ {H1 σ'}, Ex H H1 → σ'[1]? = some (some (.ref p)) → Ev (tCB (fun xs H Q => ∃ x n, xs = [x] ∧ LenV K x H n ∧ Q (.int n) H) (tCons (tVar 1) tNil)) σ' H1 (.int ((simV x).length : Int)) := fun {H1 σ'} e1 h1 => ev_cb (ea_cons (ev_var h1) ea_nil) (rc_len fun H5 e5 => .inr ⟨_, st_of ((e1.trans e5) _ _ hp), rfl⟩)
      have last : ∀ {H1 σ' v}, Ex H H1 → σ'[1]? = some (some (.ref p)) → atI (simV x) (-1) = some v → Ev (tOp (rIxT K) (tVar 1) (tUn (rU fun i => .int (-i)) (tC (.int 1)))) σ' H1 v := fun {H1 σ' v} e1 h1 h2 => ev_op (ev_var h1) (ev_un ev_c ru_neg) (rv_ixT (st_of (e1 _ _ hp)) h2)
      have failN : ∀ {H1 σ' te} (n : Str), Ex H H1 → isLabelP n → σ'[0]? = some (some (.ref a.R)) → Evl.Ev te σ' H1 (.str n) → execS x s = fail s "Name" n → tRet (tMeth (a_Runner K) "s3_fail" (free (sp_fail K)) [] E0 (tVar 0) (tCons (tC (.str "Name")) (tCons te tNil))) { nx := fun _ H' => Q .non H', rt := Q } σ' H1 := fun {H1 σ' te} n e1 hn h0 h1 hx => by
        rw [hx] at k
        exact s_retX (x_meth (ev_var h0) (m.grow e1).runner rfl (ea_cons ev_c (ea_cons h1 ea_nil)) fun H4 e4 => ⟨H0, a, s, fa, lg, fr, _, n, rfl, m.grow (e1.trans e4), isKind_Name, hn, wf, hst, fun H5 fa' lg' v pre m5 o5 _ => k H5 fa' lg' v pre m5 o5⟩)
      cases x with
      | note i => cases hot
      | again =>
        refine q_when (b := true) (et_test (ev_op (it0 (Ex.refl H) rfl rfl) ev_c (rv_eq rfl))) (fun _ H1 e1 => ?_) fun q => Bool.noConfusion q
        have m1 := m.grow e1
        have ek : execS .again s = (match s.hand.getLast? with | some h => (some h, s) | none => fail s "State" "nothing handled") := rfl
        rw [ek] at k
        refine q_asg (ev_meth (ev_var rfl) m1.runner rfl ea_nil (pur_v fun H2 e2 => ⟨H0, a, s, fa, lg, fr, rfl, m1.grow e2, rfl⟩)) fun H2 e2 => ?_
        have m2 := m1.grow e2
        cases hg : s.hand.getLast? with
        | none =>
          rw [hg] at k
          refine s_retX ?_
          refine et_test (ev_op (ev_var rfl) ev_c rv_notN) H2 (Ex.refl H2) _ fun H3 e3 => ?_
          have m3 := m2.grow e3
          exact x_meth (ev_var rfl) m3.runner rfl (ea_cons ev_c (ea_cons ev_c ea_nil)) fun H4 e4 => ⟨H0, a, s, fa, lg, fr, _, _, rfl, m3.grow e4, isKind_State, isLabel_nothing, wf, hst, fun H5 fa' lg' v pre m5 o5 _ => k H5 fa' lg' v pre m5 o5⟩
        | some g =>
          rw [hg] at k
          refine s_retX ?_
          refine et_test (ev_op (ev_var rfl) ev_c rv_notN) H2 (Ex.refl H2) _ fun H3 e3 => ?_
          have m3 := m2.grow e3
          exact eu_tup (ea_cons ev_c (ea_cons (ev_var rfl) ea_nil)) (show 2 ≤ 100000 by decide) H3 (Ex.refl H3) _ fun q H4 _ e4 h4 => k H4 fa lg (.ref q) (List.prefix_refl _) (m3.grow e4) ⟨q, rfl, h4⟩
      | raise kd lb src =>
        obtain ⟨nv, hnv1, hnv2⟩ : ∃ nv, atI (simV (.raise kd lb src)) (-1) = some nv ∧ ∀ o, src = some o → nv = oV o := by
          cases src with
          | none => exact ⟨.str lb, rfl, fun o q => by cases q⟩
          | some o => exact ⟨oV o, rfl, fun o' q => by cases q; rfl⟩
        have hls : decide (V.int ((simV (.raise kd lb src)).length : Int) = V.int 4) = Option.isSome src := by cases src <;> rfl
        have ek : execS (.raise kd lb src) s = (match missing s.board src with | some n => fail s "Name" n | none => finR (made s kd lb) s.rows.length src) := rfl
        refine q_when (b := false) (et_test (ev_op (it0 (Ex.refl H) rfl rfl) ev_c (rv_eq rfl))) (fun q => Bool.noConfusion q) fun _ H1 e1 => ?_
        refine q_asg (v := .bl true) (ev_is (ev_op (it0 e1 rfl rfl) ev_c (rv_eq rfl)) rfl) fun H2 e2 => ?_
        have e02 := e1.trans e2
        refine q_when (b := false) (et_and (a := false) (b := false) (et_not (a := true) (et_B (ev_var rfl))) fun q => Bool.noConfusion q) (fun q => Bool.noConfusion q) fun _ H3 e3 => ?_
        have e03 := e02.trans e3
        refine q_par (ea_cons (ev_is (ev_op (lenv e03 rfl) (ev_if (v := .int 4) (b := true) (et_B (ev_var rfl)) (fun _ => ev_c) fun q => Bool.noConfusion q) (rv_eq rfl)) (congrArg V.bl hls)) (ea_cons (last e03 rfl hnv1) ea_nil)) fun H4 e4 => ?_
        have e04 := e03.trans e4
        refine q_when (b := (missing s.board src).isSome) (mis src nv hnv2 e04 rfl rfl rfl) (fun q H5 e5 => ?_) fun q H5 e5 => ?_
        · cases hm : missing s.board src with
          | none => rw [hm] at q; exact Bool.noConfusion q
          | some n =>
            rw [hm] at ek
            have hs2 : src = some (some n) := by
              cases src with
              | none => cases hm
              | some o =>
                cases o with
                | none => cases hm
                | some n' =>
                  have hm' : (if (bget s.board n').isSome = true then none else some n') = some n := hm
                  split at hm'
                  · cases hm'
                  · rw [Option.some.inj hm']
            have e := hnv2 _ hs2
            subst e
            exact failN n (e04.trans e5) (ok.2.2 n hs2).2 rfl (ev_var rfl) ek
        · have hm : missing s.board src = none := by
            cases hm : missing s.board src with
            | none => rfl
            | some n => rw [hm] at q; exact Bool.noConfusion q
          rw [hm] at ek
          have m5 := m.grow (e04.trans e5)
          refine q_asgX (et_B (ev_var rfl) H5 (Ex.refl H5) _ fun H6 e6 => ?_)
          have e06 := (e04.trans e5).trans e6
          refine x_meth (ev_var rfl) (m5.grow e6).runner rfl (ea_cons (it1 e06 rfl rfl) (ea_cons (it2 e06 rfl rfl) ea_nil)) fun H7 e7 => ?_
          refine ⟨H0, a, s, fa, lg, fr, kd, lb, rfl, (m5.grow e6).grow e7, ok.1.1, ok.2.1, wf, hst, fun H8 fa' lg' pre m8 _ => ?_⟩
          exact tail _ _ ⟨fa', lg', made s kd lb, s.rows.length, true, src, nv, rfl, pre, m8, wf.made kd lb, by rw [made_len]; omega, hnv2, hm, ek⟩
      | throw n src =>
        obtain ⟨nv, hnv1, hnv2⟩ : ∃ nv, atI (simV (.throw n src)) (-1) = some nv ∧ ∀ o, src = some o → nv = oV o := by
          cases src with
          | none => exact ⟨.str n, rfl, fun o q => by cases q⟩
          | some o => exact ⟨oV o, rfl, fun o' q => by cases q; rfl⟩
        have hls : decide (V.int ((simV (.throw n src)).length : Int) = V.int 3) = Option.isSome src := by cases src <;> rfl
        have ek : execS (.throw n src) s = (match bget s.board n with | none => fail s "Name" n | some f => (match missing s.board src with | some m => fail s "Name" m | none => finR s f src)) := rfl
        refine q_when (b := false) (et_test (ev_op (it0 (Ex.refl H) rfl rfl) ev_c (rv_eq rfl))) (fun q => Bool.noConfusion q) fun _ H1 e1 => ?_
        refine q_asg (v := .bl false) (ev_is (ev_op (it0 e1 rfl rfl) ev_c (rv_eq rfl)) rfl) fun H2 e2 => ?_
        have e02 := e1.trans e2
        cases hb : bget s.board n with
        | none =>
          rw [hb] at ek
          refine q_when (b := true) (et_and (a := true) (b := true) (et_not (a := false) (et_B (ev_var rfl))) fun _ => et_test (ev_is (ev_op (fat e02 rfl (it1 e02 rfl rfl)) ev_c rv_isN) (by rw [hb]; rfl))) (fun _ H3 e3 => ?_) fun q => Bool.noConfusion q
          exact failN n (e02.trans e3) ok.2.1 rfl (it1 (e02.trans e3) rfl rfl) ek
        | some f =>
          rw [hb] at ek
          refine q_when (b := false) (et_and (a := true) (b := false) (et_not (a := false) (et_B (ev_var rfl))) fun _ => et_test (ev_is (ev_op (fat e02 rfl (it1 e02 rfl rfl)) ev_c rv_isN) (by rw [hb]; rfl))) (fun q => Bool.noConfusion q) fun _ H3 e3 => ?_
          have e03 := e02.trans e3
          refine q_par (ea_cons (ev_is (ev_op (lenv e03 rfl) (ev_if (v := .int 3) (b := false) (et_B (ev_var rfl)) (fun q => Bool.noConfusion q) fun _ => ev_c) (rv_eq rfl)) (congrArg V.bl hls)) (ea_cons (last e03 rfl hnv1) ea_nil)) fun H4 e4 => ?_
          have e04 := e03.trans e4
          refine q_when (b := (missing s.board src).isSome) (mis src nv hnv2 e04 rfl rfl rfl) (fun q H5 e5 => ?_) fun q H5 e5 => ?_
          · cases hm : missing s.board src with
            | none => rw [hm] at q; exact Bool.noConfusion q
            | some n2 =>
              rw [hm] at ek
              have hs2 : src = some (some n2) := by
                cases src with
                | none => cases hm
                | some o =>
                  cases o with
                  | none => cases hm
                  | some n' =>
                    have hm' : (if (bget s.board n').isSome = true then none else some n') = some n2 := hm
                    split at hm'
                    · cases hm'
                    · rw [Option.some.inj hm']
              have e := hnv2 _ hs2
              subst e
              exact failN n2 (e04.trans e5) (ok.2.2 n2 hs2).2 rfl (ev_var rfl) ek
          · have hm : missing s.board src = none := by
              cases hm : missing s.board src with
              | none => rfl
              | some n => rw [hm] at q; exact Bool.noConfusion q
            rw [hm] at ek
            refine q_asg (v := refF fa f) (ev_if (b := false) (et_B (ev_var rfl)) (fun q => Bool.noConfusion q) fun _ => ev_is (fat (e04.trans e5) rfl (it1 (e04.trans e5) rfl rfl)) (by rw [hb]; rfl)) fun H6 e6 => ?_
            exact tail _ _ ⟨fa, lg, s, f, false, src, nv, rfl, List.prefix_refl _, m.grow ((e04.trans e5).trans e6), wf.mono (by omega) (Nat.le_refl _), wf.bget hb, hnv2, hm, ek⟩
end
end L2.EX
namespace L2.EX
open PySem PySem.Spec PyProof.Rows Evl NdefX
/-! Wrappers of the rules for super(). -/
abbrev PW : Program := PySem.Challenge.pw_exitstacks_k27_whole_raised_again_and_ag
section
variable {X : Cx} {body : List Stmt} {i j k : Nat} {C D f2 : Addr} {m sn : Str} {ps : List Str} {sp : Sp} {dvs : List V} {e : Expr} {es : List Expr} {t : TA} {p0 p1 apos pos : Pos}
theorem pk_super (S : SupAt X D sn) (hN : X.N[i]? = some sn) (hv : X.env.scope.names.lookup sn = some .local) (M : SupM X.K C D m f2) (F : FOk X.prog X.w X.K X.mg X.base j f2 ps dvs sp) (hr : Room k X.A) (ha : PA X (e :: es) t) (hj : j ≤ k := by first | decide | omega)
    (he : starEach (e :: es) X.env = (false, eval e X.env) :: starEach es X.env := by rfl) (hpl : (backTo pos (starEach es X.env)).any (·.1) = false := by rfl)
    (hev : eval (.Call (.Attribute (.Call (.Name "super" p0) [] [] p1) m apos) (e :: es) [] pos) X.env = (do
      let ov ← attributeBase (.Call (.Name "super" p0) [] [] p1) m X.env (eval (.Call (.Name "super" p0) [] [] p1) X.env)
      standAt apos.atName
      let (f, first) ← holding [ov] (getMethod ov m (pure false))
      callWith pos f first (backTo pos (starEach (e :: es) X.env)) []) := by rfl) :
    PEA X (.func body X.env) (.Call (.Attribute (.Call (.Name "super" p0) [] [] p1) m apos) (e :: es) [] pos) (tSuper i C f2 (free sp) dvs t) := by
  obtain ⟨⟨fd, ds, F1, F2, F3⟩, kp⟩ := F
  exact pea_super S hN hv M (FnOk.free F1) (hr.mono hj) F2 F3 ha he hpl hev
theorem pk_super0 (S : SupAt X D sn) (hN : X.N[i]? = some sn) (hv : X.env.scope.names.lookup sn = some .local) (M : SupM X.K C D m f2) (F : FOk X.prog X.w X.K X.mg X.base j f2 ps dvs sp) (hr : Room k X.A) (hj : j ≤ k := by first | decide | omega)
    (hev : eval (.Call (.Attribute (.Call (.Name "super" p0) [] [] p1) m apos) [] [] pos) X.env = (do
      let ov ← attributeBase (.Call (.Name "super" p0) [] [] p1) m X.env (eval (.Call (.Name "super" p0) [] [] p1) X.env)
      standAt apos.atName
      let (f, first) ← holding [ov] (getMethod ov m (pure false))
      callWith pos f first (backTo pos (starEach [] X.env)) []) := by rfl) :
    PEA X (.func body X.env) (.Call (.Attribute (.Call (.Name "super" p0) [] [] p1) m apos) [] [] pos) (tSuper0 i C f2 (free sp) dvs) := by
  obtain ⟨⟨fd, ds, F1, F2, F3⟩, kp⟩ := F
  exact pea_super0 S hN hv M (FnOk.free F1) (hr.mono hj) F2 F3 hev
end
section
variable {P : Program} {K : Frg} {x qual : Str} {params : Arguments} {body : List Stmt} {scope : Scope} {D : Addr} {dvs : List V} {kws : List (Str × V)} {f : Addr} {fd : FuncData} {G : NF} {ps : List Str}
theorem SFun.bindsN (F : SFun P K x qual params body scope D [] kws f fd G)
    (h : ∀ (cl : List (Str × Addr)) (kV doc pm : Value) (an : Option Addr) (cdv ct : Value) (us : List Value), us.length = ps.length → bindArgs (PySem.W.fnX x qual params body scope cl .none kV doc pm an cdv ct) ⟨us, []⟩ = pure (ps.zip us)) : Binds K fd ps [] := by
  obtain ⟨oc, od, osl, dV, kV, doc, pm, ct, an, cda, cc, ccl, cdd, ccs, vs, file, tf, cl, cld, csl, rfl, _, _, _, _, _, _, hD, _, _⟩ := F.ex
  rcases hD with ⟨_, rfl⟩ | ⟨e, _⟩
  · exact .all (h _ kV doc pm an _ ct)
  · exact absurd rfl e
theorem SFun.binds (F : SFun P K x qual params body scope D dvs kws f fd G) (n j : Nat) (hd : dvs ≠ []) (hn : n + ((dvs.length - j) + kws.length) = ps.length)
    (h : ∀ (cl : List (Str × Addr)) (T D : Addr) (doc pm : Value) (an : Option Addr) (cdv ct : Value) (us its ks : List Value), us.length = n → its.length = dvs.length → ks.length = kws.length →
      ∃ k, bindArgs (PySem.W.fnX x qual params body scope cl (.ref T) (.ref D) doc pm an cdv ct) ⟨us, []⟩ = seqItems? (.ref T) >>= k ∧ KwChain D ((kws.map (·.1)).zip ks) (k (some its.toArray)) (ps.zip (us ++ (its.drop j ++ ks))))
    (hk : kws ≠ []) : ∃ ds, Vals (dvs.drop j ++ kws.map (·.2)) ds ∧ Binds K fd ps ds := by
  obtain ⟨oc, od, osl, dV, kV, doc, pm, ct, an, cda, cc, ccl, cdd, ccs, vs, file, tf, cl, cld, csl, rfl, _, _, _, _, _, _, hD, hK, _⟩ := F.ex
  rcases hD with ⟨e, _⟩ | ⟨_, T, o, its, m, rfl, lT, oT, rT⟩
  · exact absurd e hd
  · rcases hK with e | ⟨D', rfl, hq⟩
    · exact absurd e hk
    · obtain ⟨ks, hl, rk, hks⟩ := kwd_vals hq
      refine ⟨its.drop j ++ ks, (rT.drop j).append rk, fun s us X hlen => ?_⟩
      have l1 : its.length = dvs.length := rT.length.symm
      have l2 : us.length = n := by
        rw [List.length_append, List.length_append, List.length_drop, l1, hl] at hlen
        omega
      obtain ⟨k, e1, e2⟩ := h _ T D' doc pm an _ ct us its ks l2 l1 hl
      refine BindsTo.of_looks fun M => ?_
      rw [e1]
      exact looks_items X lT oT (KwChain.looks X hks e2)
end
end L2.EX
namespace L2.EX
open PySem PySem.Spec PyProof.Rows Evl
/-! A statement is executed: the runner's three defs, one above another. -/
section
variable {w : World} {K : Frg} {mg : Str → Option Value} {base : Heap}
/-- a statement: a simple one, or a try -/
def sp_execute (K : Frg) : Sp := fun vs H Q _ => ∃ H0 a s fa lg fr p, vs = [.ref a.R, .ref a.act, .ref p] ∧ Ms K H0 H a s fa lg fr ∧ WF 1 0 s ∧ s.steps ≤ 1000 ∧
  ((∃ x, H p = some (.tup (simV x)) ∧ x.Ok ∧ ∀ H' fa' lg' v, fa <+: fa' → Ms K H0 H' a (execS x s).2 fa' lg' fr → OutV H' fa' v (execS x s).1 → Q v H') ∨
   (∃ ys, H p = some (.tup (.str "try" :: ys)) ∧ fr.length ≤ 1000 ∧ ∀ H' x dx, Ms K H0 H' a s fa lg (.tri x dx p "" .non .non :: fr) → Q .non H'))
theorem iteN {A B : Prop} {x y : Str} (n : (x == y) = false) (h : B) : if (x == y) = true then A else B := by
  rw [n, if_neg (by decide)]
  exact h
theorem q_match {te : TE} {t : V → TS} {tz : TS} {D : Ends} {σ : L2.St} {H : Hp} {v : V} (h : Evl.Ev te σ H v) (k : ∀ H1, Ex H H1 → t v { D with nx := tz D } σ H1) : tSeq (tMatch te t) tz D σ H := h H (Ex.refl H) _ fun H1 e1 => k H1 e1
theorem c_no {y z : Str} {tb : TS} {tr : V → TS} {D : Ends} {σ : L2.St} {H : Hp} (n : (z == y) = false) (h : tr (.str z) D σ H) : tCase (fStr y) tb tr (.str z) D σ H := ⟨_, rfl, iteN n h⟩
theorem c_yes {y z : Str} {tb : TS} {tr : V → TS} {D : Ends} {σ : L2.St} {H : Hp} (n : (z == y) = true) (h : tb D σ H) : tCase (fStr y) tb tr (.str z) D σ H := ⟨_, rfl, by
  rw [n, if_pos rfl]
  exact h⟩
theorem c_no2 {y y2 z : Str} {tb : TS} {tr : V → TS} {D : Ends} {σ : L2.St} {H : Hp} (n : (z == y) = false) (n2 : (z == y2) = false) (h : tr (.str z) D σ H) : tCase (fOr (fStr y) (fStr y2)) tb tr (.str z) D σ H := ⟨false, by
  show (match some (z == y) with | some true => some true | some false => some (z == y2) | none => none) = some false
  rw [n, n2], by
  rw [if_neg (by decide)]
  exact h⟩
theorem c_any {v : V} {tb : TS} {tr : V → TS} {D : Ends} {σ : L2.St} {H : Hp} (h : tb D σ H) : tCase fAny tb tr v D σ H := ⟨true, rfl, by
  rw [if_pos rfl]
  exact h⟩
theorem ok_Core_s3_execute (T : Tx w K mg) (F_TryFrame_init : FOk PW w K mg base 1 (f_TryFrame_init K) ["self", "statement"] [] (sp_ini (a_TryFrame K) R_TryFrame)) (F_Runner_s3_raising : FOk PW w K mg base 7 (f_Runner_s3_raising K) ["self", "statement"] [] (sp_raising K)) :
    FOk PW w K mg base 8 (f_Core_s3_execute K) ["self", "activation", "statement"] [] (sp_execute K) := by
  obtain ⟨fd, F⟩ := T.d_Core_s3_execute
  refine ⟨⟨fd, [], F.ok sc_Core_s3_execute (fun vs H Q E h => ?_) (fun cdv A outer s H vs Q E hr h => ?_), F.bindsN fun _ _ _ _ _ _ us hl => match us, hl with | [_, _, _], _ => rfl, .nil⟩, F.kp⟩
  · obtain ⟨H0, a, s, fa, lg, fr, p, rfl, _⟩ := h
    rfl
  · obtain ⟨H0, a, s, fa, lg, fr, p, rfl, m, wf, hst, alt⟩ := h
    refine ⟨_, (PSs.nox (pss_cons (ps_match (pe_ix ix_tup (pv 2) pe_int (fun _ _ => rfl)) (pms_cons pp_str pss_never (pms_cons pp_str (pss_one (ps_expr (pe_bm PySem.F.plainAttrs_list PySem.F.slot_list_append PySem.F.type_list_append mt_append (pe_fld (pv 1) rfl) (pa_cons (pk_make T.k_TryFrame F_TryFrame_init hr rfl T.g_TryFrame (pa_cons (pv 2) pa_nil)) pa_nil)))) (pms_cons pp_str pss_never (pms_cons (pp_or2 pp_str pp_str) pss_never (pms_cons (pp_or2 pp_str pp_str) pss_never (pms_cons pp_str (pss_one (ps_expr (pe_bm PySem.F.plainAttrs_list PySem.F.slot_list_append PySem.F.type_list_append mt_append (pe_fld (pv 0) rfl) (pa_cons (pv 2) pa_nil)))) (pms_cons pp_str pss_never (pms_cons pp_any (pss_one (ps_ret (pk_meth (pv 0) T.c_Runner T.m_Runner_s3_raising F_Runner_s3_raising hr (pa_cons (pv 2) pa_nil)))) pms_nil))))))))) (pss_one (ps_ret pe_non)))), ?_⟩
    rcases alt with ⟨x, hp, ok, k⟩ | ⟨ys, hp, hfl, k⟩
    · cases x with
      | note i =>
        refine q_match (v := .str "note") (ev_op (ev_var rfl) ev_c (rv_ixT (st_of hp) (atI_nat (j := 0) rfl))) fun H1 e1 => ?_
        refine c_no (by decide +kernel) (c_no (by decide +kernel) (c_no (by decide +kernel) (c_no2 (by decide +kernel) (by decide +kernel) (c_no2 (by decide +kernel) (by decide +kernel) (c_yes (by decide +kernel) ?_)))))
        have m1 := m.grow e1
        have nl := wf.nl
        refine s_app m1.logl (ev_fld (ev_var rfl) m1.runner T.c_Runner T.n_Runner_s3_log rfl) (ev_var rfl) (by have := m.log.len; omega) fun H2 e2 => ?_
        have m2 := m1.grow e2
        refine s_ret (σ := []) (D := { nx := fun _ H' => Q .non H', rt := Q }) (te := tC .non) ev_c fun H3 e3 => k H3 fa (lg ++ [.ref p]) .non (List.prefix_refl _) ⟨?_, ?_, m.len⟩ rfl
        · exact (m2.own.set 2 rfl).grow e3
        · have hp2 : H2 p = some (.tup (evV (.note i))) := (e1.trans e2) _ _ hp
          have t2 : TP H2 (upd H2 a.L (.lst (lg ++ [.ref p]))) := TP.upd m2.logl fun xs z => by cases z
          exact (m2.log.snoc hp2).tp (t2.trans (ex_tp e3))
      | again =>
        refine q_match (v := .str "again") (ev_op (ev_var rfl) ev_c (rv_ixT (st_of hp) (atI_nat (j := 0) rfl))) fun H1 e1 => ?_
        refine c_no (by decide +kernel) (c_no (by decide +kernel) (c_no (by decide +kernel) (c_no2 (by decide +kernel) (by decide +kernel) (c_no2 (by decide +kernel) (by decide +kernel) (c_no (by decide +kernel) (c_no (by decide +kernel) (c_any ?_)))))))
        have m1 := m.grow e1
        exact s_retX (x_meth (ev_var rfl) m1.runner rfl (ea_cons (ev_var rfl) ea_nil) fun H2 e2 => ⟨H0, a, s, fa, lg, fr, .again, p, rfl, m1.grow e2, (e1.trans e2) _ _ hp, rfl, ok, wf, hst, fun H' fa' lg' v pre m' o' _ => k H' fa' lg' v pre m' o'⟩)
      | raise kd lb src =>
        refine q_match (v := .str "raise") (ev_op (ev_var rfl) ev_c (rv_ixT (st_of hp) (atI_nat (j := 0) rfl))) fun H1 e1 => ?_
        refine c_no (by decide +kernel) (c_no (by decide +kernel) (c_no (by decide +kernel) (c_no2 (by decide +kernel) (by decide +kernel) (c_no2 (by decide +kernel) (by decide +kernel) (c_no (by decide +kernel) (c_no (by decide +kernel) (c_any ?_)))))))
        have m1 := m.grow e1
        exact s_retX (x_meth (ev_var rfl) m1.runner rfl (ea_cons (ev_var rfl) ea_nil) fun H2 e2 => ⟨H0, a, s, fa, lg, fr, .raise kd lb src, p, rfl, m1.grow e2, (e1.trans e2) _ _ hp, rfl, ok, wf, hst, fun H' fa' lg' v pre m' o' _ => k H' fa' lg' v pre m' o'⟩)
      | throw n src =>
        refine q_match (v := .str "throw") (ev_op (ev_var rfl) ev_c (rv_ixT (st_of hp) (atI_nat (j := 0) rfl))) fun H1 e1 => ?_
        refine c_no (by decide +kernel) (c_no (by decide +kernel) (c_no (by decide +kernel) (c_no2 (by decide +kernel) (by decide +kernel) (c_no2 (by decide +kernel) (by decide +kernel) (c_no (by decide +kernel) (c_no (by decide +kernel) (c_any ?_)))))))
        have m1 := m.grow e1
        exact s_retX (x_meth (ev_var rfl) m1.runner rfl (ea_cons (ev_var rfl) ea_nil) fun H2 e2 => ⟨H0, a, s, fa, lg, fr, .throw n src, p, rfl, m1.grow e2, (e1.trans e2) _ _ hp, rfl, ok, wf, hst, fun H' fa' lg' v pre m' o' _ => k H' fa' lg' v pre m' o'⟩)
    · refine q_match (v := .str "try") (ev_op (ev_var rfl) ev_c (rv_ixT (st_of hp) (atI_nat (j := 0) rfl))) fun H1 e1 => ?_
      refine c_no (by decide +kernel) (c_yes (by decide +kernel) ?_)
      have m1 := m.grow e1
      -- activation.s3_frames.append(TryFrame(statement))
      refine s_dropX ?_
      refine ev_fld (ev_var rfl) m1.acti T.c_Activation T.n_Activation_s3_frames rfl H1 (Ex.refl H1) _ fun H2 e2 => ⟨Or.inl ⟨rfl, _, sq_of ((m1.grow e2).fral)⟩, ?_⟩
      have m2 := m1.grow e2
      refine mk_own (fs := tFs p "" .non .non) m2.own (ea_cons (ev_var rfl) ea_nil) (fun H3 x dx Q' w3 _ k' => ini_at ⟨p, rfl, rfl⟩ w3 k') _ fun x dx H3 hx w3 t3 _ => ?_
      refine ⟨a.FR, frV fr, .ref x, rfl, rfl, w3.get 8 rfl, sz_lt (by unfold frV; simp; omega), ?_⟩
      have w4 : Own H0 (upd H3 a.FR (.lst (frV fr ++ [.ref x]))) ((baseC K a s.steps (bdK fa s.board) lg (flV fa s.rows.length) (frV fr ++ [.ref x]) (hdV fa s.hand) ++ (fr.map (fhc K) ++ fcells K fa s.rows)) ++ [(x, .ins (a_TryFrame K) dx (tFs p "" .non .non))]) := w3.set 8 rfl
      have t4 : TP H3 (upd H3 a.FR (.lst (frV fr ++ [.ref x]))) := TP.upd (u := .lst (frV fr)) (w3.get 8 rfl) fun xs z => by cases z
      have efr : frV (.tri x dx p "" .non .non :: fr) = frV fr ++ [.ref x] := by unfold frV; simp [Fh.ad]
      refine s_ret (σ := []) (D := { nx := fun _ H' => Q .non H', rt := Q }) (te := tC .non) ev_c fun H5 e5 => k H5 x dx ⟨?_, (m2.log.tp (t3.trans t4)).tp (ex_tp e5), m.len⟩
      unfold cells
      rw [efr]
      refine (w4.grow e5).perm ?_
      rw [List.append_assoc]
      refine List.Perm.append_left _ ?_
      exact (List.perm_append_comm (l₁ := [(x, HO.ins (a_TryFrame K) dx (tFs p "" .non .non))]) (l₂ := fr.map (fhc K) ++ fcells K fa s.rows))
theorem alt_head {H : Hp} {p : Addr} {A : Sim → Prop} {B : List V → Prop} (alt : (∃ x, H p = some (.tup (simV x)) ∧ A x) ∨ (∃ ys, H p = some (.tup (.str "try" :: ys)) ∧ B ys)) :
    ∃ (z : Str) (ys : List V), H p = some (.tup (.str z :: ys)) ∧ (z = "raise" ∨ z = "throw" ∨ z = "again" ∨ z = "note" ∨ z = "try") := by
  rcases alt with ⟨x, hp, _⟩ | ⟨ys, hp, _⟩
  · cases x with
    | note i => exact ⟨_, _, hp, .inr (.inr (.inr (.inl rfl)))⟩
    | again => exact ⟨_, _, hp, .inr (.inr (.inl rfl))⟩
    | raise kd lb src => exact ⟨_, _, hp, .inl rfl⟩
    | throw n src => exact ⟨_, _, hp, .inr (.inl rfl)⟩
  · exact ⟨_, _, hp, .inr (.inr (.inr (.inr rfl)))⟩
theorem nsc_WithCore_s3_execute : NdefX.NScope ["self", "activation", "statement", "__class__", "ending", "value", "leaver", "number"] ["self", "activation", "statement"] ["__class__"] (defScope s_WithCore_s3_execute) := NdefX.nscope_by (by decide +kernel)
theorem ok_WithCore_s3_execute (T : Tx w K mg) (F_Core_s3_execute : FOk PW w K mg base 8 (f_Core_s3_execute K) ["self", "activation", "statement"] [] (sp_execute K)) : FOk PW w K mg base 9 (f_WithCore_s3_execute K) ["self", "activation", "statement"] [] (sp_execute K) := by
  obtain ⟨fd, ⟨G1, G2, G3, G4, G5, G6, G7⟩, F, e1, e2, e3, e4, e5⟩ := T.d_WithCore_s3_execute
  have e1 : G1 = _ := e1
  have e2 : G2 = _ := e2
  have e3 : G3 = _ := e3
  have e4 : G4 = _ := e4
  have e5 : G5 = _ := e5
  subst e1 e2 e3 e4 e5
  refine ⟨⟨fd, _, SFun.ok (N := ["self", "activation", "statement", "__class__", "ending", "value", "leaver", "number"]) (ps := ["self", "activation", "statement"]) F nsc_WithCore_s3_execute rfl rfl (by decide +kernel) T.z_super T.e_any T.w_WithCore_s3_execute (fun vs H Q E h => ?_) (fun A outer s H vs Q E hr h SA => ?_), F.bindsN fun _ _ _ _ _ _ _ us hl => match us, hl with | [_, _, _], _ => rfl, .nil⟩, F.kp⟩
  · obtain ⟨H0, a, s, fa, lg, fr, p, rfl, _⟩ := h
    rfl
  · obtain ⟨H0, a, s, fa, lg, fr, p, rfl, m, wf, hst, alt⟩ := h
    refine ⟨_, (pssa_cons (psa_if (pt_cmpR op_ne (pe_ix ix_tup (pv 2) pe_int (fun _ _ => rfl)) pe_str (nomark _)) (pssa_cons (psa_ret (pk_super (i := 0) SA rfl rfl T.u_Core_s3_execute F_Core_s3_execute hr (pa_cons (pv 1) (pa_cons (pv 2) pa_nil)))) pssa_nil) pssa_nil) (pssa_of pss_never)), ?_⟩
    obtain ⟨z, ys, hp, hz⟩ := alt_head alt
    refine q_when (b := true) (et_test (ev_is (ev_op (ev_op (ev_var rfl) ev_c (rv_ixT (st_of hp) (atI_nat (j := 0) rfl))) ev_c (rv_ne rfl)) (by rcases hz with rfl | rfl | rfl | rfl | rfl <;> rfl))) (fun _ H1 e1 => ?_) fun q => Bool.noConfusion q
    have m1 := m.grow e1
    refine ⟨a.R, _, _, rfl, m1.runner, fun q hq => ?_⟩
    have e2 := e1.trans (Ex.new (o := .met (f_Core_s3_execute K) a.R) hq)
    refine ⟨_, rfl, _, rfl, upd_same, H0, a, s, fa, lg, fr, p, rfl, m.grow e2, wf, hst, ?_⟩
    rcases alt with ⟨x, hp, ok, k⟩ | ⟨ys, hp, hfl, k⟩
    · exact .inl ⟨x, e2 _ _ hp, ok, fun H' fa' lg' v pre m' o' _ => k H' fa' lg' v pre m' o'⟩
    · exact .inr ⟨ys, e2 _ _ hp, hfl, fun H' x dx m' _ => k H' x dx m'⟩
theorem nsc_Runner_s3_execute : NdefX.NScope ["self", "activation", "statement", "__class__", "stack"] ["self", "activation", "statement"] ["__class__"] (defScope s_Runner_s3_execute) := NdefX.nscope_by (by decide +kernel)
theorem ok_Runner_s3_execute (T : Tx w K mg) (F_WithCore_s3_execute : FOk PW w K mg base 9 (f_WithCore_s3_execute K) ["self", "activation", "statement"] [] (sp_execute K)) : FOk PW w K mg base 10 (f_Runner_s3_execute K) ["self", "activation", "statement"] [] (sp_execute K) := by
  obtain ⟨fd, ⟨G1, G2, G3, G4, G5, G6, G7⟩, F, e1, e2, e3, e4, e5⟩ := T.d_Runner_s3_execute
  have e1 : G1 = _ := e1
  have e2 : G2 = _ := e2
  have e3 : G3 = _ := e3
  have e4 : G4 = _ := e4
  have e5 : G5 = _ := e5
  subst e1 e2 e3 e4 e5
  refine ⟨⟨fd, _, SFun.ok (N := ["self", "activation", "statement", "__class__", "stack"]) (ps := ["self", "activation", "statement"]) F nsc_Runner_s3_execute rfl rfl (by decide +kernel) T.z_super T.e_any T.w_Runner_s3_execute (fun vs H Q E h => ?_) (fun A outer s H vs Q E hr h SA => ?_), F.bindsN fun _ _ _ _ _ _ _ us hl => match us, hl with | [_, _, _], _ => rfl, .nil⟩, F.kp⟩
  · obtain ⟨H0, a, s, fa, lg, fr, p, rfl, _⟩ := h
    rfl
  · obtain ⟨H0, a, s, fa, lg, fr, p, rfl, m, wf, hst, alt⟩ := h
    refine ⟨_, (pssa_cons (psa_of (ps_if (pt_cmpR op_eq (pe_ix ix_tup (pv 2) pe_int (fun _ _ => rfl)) pe_str (nomark _)) pss_never pss_nil)) (pssa_cons (psa_if (pt_cmpR op_notIn_seq (pe_ix ix_tup (pv 2) pe_int (fun _ _ => rfl)) (pe_tup (pa_cons pe_str (pa_cons pe_str (pa_cons pe_str (pa_cons pe_str (pa_cons pe_str (pa_cons pe_str pa_nil))))))) rfl) (pssa_cons (psa_ret (pk_super (i := 0) SA rfl rfl T.u_WithCore_s3_execute F_WithCore_s3_execute hr (pa_cons (pv 1) (pa_cons (pv 2) pa_nil)))) pssa_nil) pssa_nil) (pssa_of pss_never))), ?_⟩
    obtain ⟨z, ys, hp, hz⟩ := alt_head alt
    refine q_when (b := false) (et_test (ev_is (ev_op (ev_op (ev_var rfl) ev_c (rv_ixT (st_of hp) (atI_nat (j := 0) rfl))) ev_c (rv_eq rfl)) (by rcases hz with rfl | rfl | rfl | rfl | rfl <;> rfl))) (fun q => Bool.noConfusion q) fun _ H1 e1 => ?_
    have m1 := m.grow e1
    refine q_when (b := true) (et_test (ev_is (ev_niU (ev_op (ev_var rfl) ev_c (rv_ixT (st_of (e1 _ _ hp)) (atI_nat (j := 0) rfl))) (eu_tup (ea_cons ev_c (ea_cons ev_c (ea_cons ev_c (ea_cons ev_c (ea_cons ev_c (ea_cons ev_c ea_nil)))))) (show 6 ≤ 100000 by decide)) rfl rfl) (by rcases hz with rfl | rfl | rfl | rfl | rfl <;> decide +kernel))) (fun _ H2 e2 => ?_) fun q => Bool.noConfusion q
    have m2 := m1.grow e2
    refine ⟨a.R, _, _, rfl, m2.runner, fun q hq => ?_⟩
    have e3 := (e1.trans e2).trans (Ex.new (o := .met (f_WithCore_s3_execute K) a.R) hq)
    refine ⟨_, rfl, _, rfl, upd_same, H0, a, s, fa, lg, fr, p, rfl, m.grow e3, wf, hst, ?_⟩
    rcases alt with ⟨x, hp, ok, k⟩ | ⟨ys, hp, hfl, k⟩
    · exact .inl ⟨x, e3 _ _ hp, ok, fun H' fa' lg' v pre m' o' _ => k H' fa' lg' v pre m' o'⟩
    · exact .inr ⟨ys, e3 _ _ hp, hfl, fun H' x dx m' _ => k H' x dx m'⟩
end
end L2.EX
namespace L2.EX
open PySem PySem.Spec PyProof.Rows Evl
/-! Frames: a body's and a try's steps and endings. -/
/-- a drawn body in memory -/
inductive BdyT (H : Hp) : List V → Bdy → Prop
  | nil : BdyT H [] .nil
  | sim {p : Addr} {vs : List V} {x : Sim} {r : Bdy} (h : H p = some (.tup (simV x))) (ok : x.Ok) (t : BdyT H vs r) : BdyT H (.ref p :: vs) (.sim x r)
  | tri {p b q hs h1 h2 e1 e2 : Addr} {x : Sim} {nm : Option Str} {h r : Bdy} {ws vs : List V} (hp : H p = some (.tup [.str "try", .ref b, .ref hs, .ref e1, .ref e2])) (hb : H b = some (.tup [.ref q])) (hq : H q = some (.tup (simV x))) (ok : x.Ok) (hh : H hs = some (.tup [.ref h1]))
      (hh1 : H h1 = some (.tup [.non, oV nm, .ref h2])) (hhb : H h2 = some (.tup ws)) (hw : ws.length ≤ 1000) (th : BdyT H ws h) (he1 : H e1 = some (.tup [])) (he2 : H e2 = some (.tup [])) (t : BdyT H vs r) : BdyT H (.ref p :: vs) (.tri x nm h r)
theorem BdyT.tp {H H' : Hp} (e : TP H H') {vs : List V} {b : Bdy} (h : BdyT H vs b) : BdyT H' vs b := by
  induction h with
  | nil => exact .nil
  | sim h ok _ ih => exact .sim (e _ _ h) ok ih
  | tri hp hb hq ok hh hh1 hhb hw _ he1 he2 _ ih1 ih2 => exact .tri (e _ _ hp) (e _ _ hb) (e _ _ hq) ok (e _ _ hh) (e _ _ hh1) (e _ _ hhb) hw ih1 (e _ _ he1) (e _ _ he2) ih2
/-- a try's statement -/
def TriAt (H : Hp) (p : Addr) (x : Sim) (nm : Option Str) (h : Bdy) : Prop := ∃ (b q hs h1 hb e1 e2 : Addr) (ws : List V), H p = some (.tup [.str "try", .ref b, .ref hs, .ref e1, .ref e2]) ∧ H b = some (.tup [.ref q]) ∧ H q = some (.tup (simV x)) ∧ x.Ok ∧ H hs = some (.tup [.ref h1]) ∧
  H h1 = some (.tup [.non, oV nm, .ref hb]) ∧ H hb = some (.tup ws) ∧ ws.length ≤ 1000 ∧ BdyT H ws h ∧ H e2 = some (.tup [])
theorem TriAt.tp {H H' : Hp} (e : TP H H') {p : Addr} {x : Sim} {nm : Option Str} {h : Bdy} (t : TriAt H p x nm h) : TriAt H' p x nm h := by
  obtain ⟨b, q, hs, h1, hb, e1, e2, ws, a1, a2, a3, a4, a5, a6, a7, a8, a9, a10⟩ := t
  exact ⟨b, q, hs, h1, hb, e1, e2, ws, e _ _ a1, e _ _ a2, e _ _ a3, a4, e _ _ a5, e _ _ a6, e _ _ a7, a8, a9.tp e, e _ _ a10⟩
def TriE (H : Hp) (p : Addr) : Prop := ∃ (v1 v2 v3 : V) (e2 : Addr), H p = some (.tup [.str "try", v1, v2, v3, .ref e2]) ∧ H e2 = some (.tup [])
/-- the ending as a value: at the end, of a fault -/
def EndT (H : Hp) (fa : List (Addr × Addr)) (v : V) : Option Nat → Prop
  | none => ∃ p, v = .ref p ∧ H p = some (.tup [.str "end", .non])
  | some f => ∃ p, v = .ref p ∧ H p = some (.tup [.str "fault", refF fa f])
theorem EndT.tp {H H' : Hp} (e : TP H H') {fa : List (Addr × Addr)} {v : V} {o : Option Nat} (h : EndT H fa v o) : EndT H' fa v o := by
  cases o with
  | none => obtain ⟨p, e1, e2⟩ := h; exact ⟨p, e1, e _ _ e2⟩
  | some f => obtain ⟨p, e1, e2⟩ := h; exact ⟨p, e1, e _ _ e2⟩
theorem EndT.pre {H : Hp} {fa fa' : List (Addr × Addr)} (e : fa <+: fa') {v : V} {o : Option Nat} (hl : ∀ f, o = some f → f < fa.length) (h : EndT H fa v o) : EndT H fa' v o := by
  cases o with
  | none => exact h
  | some f => obtain ⟨p, e1, e2⟩ := h; exact ⟨p, e1, by rw [pre_ref e (hl f rfl)]; exact e2⟩
def FmOk (H : Hp) (fa : List (Addr × Addr)) : Fh → Fm → Prop
  | .body _ _ p i, .body r => ∃ vs, H p = some (.tup vs) ∧ i ≤ vs.length ∧ vs.length ≤ 1000 ∧ BdyT H (vs.drop i) r
  | .tri _ _ p part nm pend, .tri0 y n h => part = "" ∧ nm = .non ∧ pend = .non ∧ TriAt H p y n h
  | .tri _ _ p part nm pend, .triB y n h => part = "body" ∧ nm = .non ∧ pend = .non ∧ TriAt H p y n h
  | .tri _ _ p part nm _, .triH n => part = "handler" ∧ nm = oV n ∧ TriE H p
  | .tri _ _ _ part _ pend, .triF o => part = "final" ∧ EndT H fa pend o ∧ ∀ g, o = some g → g < fa.length
  | _, _ => False
theorem FmOk.go {H H' : Hp} (e : TP H H') {fa fa' : List (Addr × Addr)} (pre : fa <+: fa') : ∀ {f : Fh} {m : Fm}, FmOk H fa f m → FmOk H' fa' f m
  | .body _ _ p i, .body r, ⟨vs, h1, h2, h3, h4⟩ => ⟨vs, e _ _ h1, h2, h3, h4.tp e⟩
  | .tri _ _ p part nm pend, .tri0 y n h, ⟨h1, h2, h3, h4⟩ => ⟨h1, h2, h3, h4.tp e⟩
  | .tri _ _ p part nm pend, .triB y n h, ⟨h1, h2, h3, h4⟩ => ⟨h1, h2, h3, h4.tp e⟩
  | .tri _ _ p part nm _, .triH n, ⟨h1, h2, v1, v2, v3, e2, h3, h4⟩ => ⟨h1, h2, v1, v2, v3, e2, e _ _ h3, e _ _ h4⟩
  | .tri _ _ _ part _ pend, .triF o, ⟨h1, h2, h3⟩ => ⟨h1, (h2.tp e).pre pre h3, fun g hg => Nat.lt_of_lt_of_le (h3 g hg) pre.length_le⟩
inductive FmsOk (H : Hp) (fa : List (Addr × Addr)) : List Fh → List Fm → Prop
  | nil : FmsOk H fa [] []
  | cons {f : Fh} {m : Fm} {fs : List Fh} {ms : List Fm} (h : FmOk H fa f m) (t : FmsOk H fa fs ms) : FmsOk H fa (f :: fs) (m :: ms)
theorem FmsOk.go {H H' : Hp} (e : TP H H') {fa fa' : List (Addr × Addr)} (pre : fa <+: fa') {fs : List Fh} {ms : List Fm} (h : FmsOk H fa fs ms) : FmsOk H' fa' fs ms := by
  induction h with
  | nil => exact .nil
  | cons h _ ih => exact .cons (h.go e pre) ih
section
variable {K : Frg} {H0 H H' : Hp} {a : RA} {s : PS} {fa : List (Addr × Addr)} {lg : List V} {fr : List Fh}
/-- the top frame -/
theorem Ms.top {f : Fh} (m : Ms K H0 H a s fa lg (f :: fr)) : H f.ad = some (fhc K f).2 := by
  have z := m.own.at_ (fhc K f) (List.mem_append_right _ (List.mem_append_left _ (List.mem_cons_self ..)))
  cases f <;> exact z
theorem Ms.setTop {f f' : Fh} (m : Ms K H0 H a s fa lg (f :: fr)) (e : f'.ad = f.ad) (nt : ∀ xs, (fhc K f).2 ≠ .tup xs) : Ms K H0 (upd H f.ad (fhc K f').2) a s fa lg (f' :: fr) := by
  have e1 : fhc K f = (f.ad, (fhc K f).2) := by cases f <;> rfl
  have e2 : fhc K f' = (f.ad, (fhc K f').2) := by rw [← e]; cases f' <;> rfl
  refine ⟨?_, m.log.tp (TP.upd m.top nt), m.len⟩
  have w : Own H0 H (baseC K a s.steps (bdK fa s.board) lg (flV fa s.rows.length) (frV (f :: fr)) (hdV fa s.hand) ++ (fhc K f :: (fr.map (fhc K) ++ fcells K fa s.rows))) := m.own
  rw [e1] at w
  have w2 : Own H0 (upd H f.ad (fhc K f').2) (baseC K a s.steps (bdK fa s.board) lg (flV fa s.rows.length) (frV (f :: fr)) (hdV fa s.hand) ++ ((f.ad, (fhc K f').2) :: (fr.map (fhc K) ++ fcells K fa s.rows))) := w.set 10 rfl
  have e3 : frV (f' :: fr) = frV (f :: fr) := by unfold frV; rw [List.map_cons, List.map_cons, e]
  unfold cells
  rw [e3, List.map_cons, e2]
  exact w2
end
section
variable {w : World} {K : Frg} {mg : Str → Option Value} {base : Heap}
def sp_bstep (K : Frg) : Sp := fun vs H Q _ => ∃ H0 a s fa lg x dx p i fr us r, vs = [.ref x, .ref a.R, .ref a.act] ∧ Ms K H0 H a s fa lg (.body x dx p i :: fr) ∧ H p = some (.tup us) ∧ i ≤ us.length ∧ us.length ≤ 1000 ∧ fr.length ≤ 900 ∧ BdyT H (us.drop i) r ∧ WF 0 0 s ∧ s.steps ≤ 999 ∧
  match r with
  | .nil => ∀ H' v, Ms K H0 H' a s fa lg (.body x dx p i :: fr) → EndT H' fa v none → Q v H'
  | .sim y _ => ∀ H' fa' lg' v, fa <+: fa' → Ms K H0 H' a (execS y (tick s)).2 fa' lg' (.body x dx p (i + 1) :: fr) → OutV H' fa' v (execS y (tick s)).1 → Q v H'
  | .tri _ _ _ _ => ∀ H' x2 dx2 p2, us[i]? = some (.ref p2) → Ms K H0 H' a (tick s) fa lg (.tri x2 dx2 p2 "" .non .non :: .body x dx p (i + 1) :: fr) → Q .non H'
theorem ok_BodyFrame_step (T : Tx w K mg) (F_Runner_s3_begin_statement : FOk PW w K mg base 1 (f_Runner_s3_begin_statement K) ["self"] [] (sp_tick K)) (F_Runner_s3_execute : FOk PW w K mg base 10 (f_Runner_s3_execute K) ["self", "activation", "statement"] [] (sp_execute K)) :
    FOk PW w K mg base 11 (f_BodyFrame_step K) ["self", "runner", "activation"] [] (sp_bstep K) := by
  obtain ⟨fd, F⟩ := T.d_BodyFrame_step
  refine ⟨⟨fd, [], F.ok sc_BodyFrame_step (fun vs H Q E h => ?_) (fun cdv A outer s H vs Q E hr h => ?_), F.bindsN fun _ _ _ _ _ _ us hl => match us, hl with | [_, _, _], _ => rfl, .nil⟩, F.kp⟩
  · obtain ⟨H0, a, s, fa, lg, x, dx, p, i, fr, us, r, rfl, _⟩ := h
    rfl
  · obtain ⟨H0, a, s, fa, lg, x, dx, p, i, fr, us, r, rfl, m, hp, hi, hu, hfr, hb, wf, hst, k⟩ := h
    refine ⟨_, (PSs.nox (pss_cons (ps_if (pt_cmpR op_eq (pe_fld (pv 0) rfl) (pe_callB call_len rfl T.z_len boot_len (pa_cons (pe_fld (pv 0) rfl) pa_nil)) (nomark _)) (pss_one (ps_ret (pe_tup (pa_cons pe_str (pa_cons pe_non pa_nil))))) pss_nil) (pss_cons (ps_set (i := 3) sc_BodyFrame_step.nd rfl (Or.inl rfl) (pe_ix ix_tup (pe_fld (pv 0) rfl) (pe_fld (pv 0) rfl) (fun _ _ => rfl))) (pss_cons (ps_fldaug (pv 0) pe_int in_add) (pss_cons (ps_expr (pk_meth0 (pv 1) T.c_Runner T.m_Runner_s3_begin_statement F_Runner_s3_begin_statement hr)) (pss_one (ps_ret (pk_meth (pv 1) T.c_Runner T.m_Runner_s3_execute F_Runner_s3_execute hr (pa_cons (pv 2) (pa_cons (pv 3) pa_nil)))))))))), ?_⟩
    have tst : EvT (tTest (tOp rEq (tFld K (tVar 0) "s3_place") (tCB (fun xs H Q => ∃ x n, xs = [x] ∧ LenV K x H n ∧ Q (.int n) H) (tCons (tFld K (tVar 0) "s3_body") tNil)))) [some (.ref x), some (.ref a.R), some (.ref a.act), none] H (decide (V.int (i : Int) = V.int (us.length : Int))) :=
      et_test (ev_op (ev_fld (ev_var rfl) m.top T.c_BodyFrame T.n_BodyFrame_s3_place rfl) (ev_cb (ea_cons (ev_fld (ev_var rfl) m.top T.c_BodyFrame T.n_BodyFrame_s3_body rfl) ea_nil) (rc_len fun H5 e5 => .inr ⟨_, st_of (e5 _ _ hp), rfl⟩)) (rv_eq rfl))
    by_cases hend : i = us.length
    · have hr : r = .nil := by
        rw [hend, List.drop_length] at hb
        cases hb
        rfl
      subst hr
      refine q_when (b := true) (et_is tst (decide_eq_true (by rw [hend]))) (fun _ H1 e1 => ?_) fun q => Bool.noConfusion q
      refine s_retU (eu_tup (ea_cons ev_c (ea_cons ev_c ea_nil)) (show 2 ≤ 100000 by decide)) fun q H2 _ e2 h2 => k H2 _ (m.grow (e1.trans e2)) ⟨q, rfl, h2⟩
    · have hlt : i < us.length := by omega
      refine q_when (b := false) (et_is tst (decide_eq_false fun z => hend (by have := V.int.inj z; omega))) (fun q => Bool.noConfusion q) fun _ H1 e1 => ?_
      have m1 := m.grow e1
      obtain ⟨p2, hp2⟩ : ∃ p2, us[i]? = some (.ref p2) := by
        have ed : us.drop i = us[i] :: us.drop (i + 1) := List.drop_eq_getElem_cons hlt
        rw [ed] at hb
        generalize hu' : us[i] = u at hb
        cases hb with
        | sim h ok t => exact ⟨_, by rw [List.getElem?_eq_getElem hlt, hu']⟩
        | tri hp hb hq ok hh hh1 hhb hw th he1 he2 t => exact ⟨_, by rw [List.getElem?_eq_getElem hlt, hu']⟩
      refine q_asg (ev_op (ev_fld (ev_var rfl) m1.top T.c_BodyFrame T.n_BodyFrame_s3_body rfl) (ev_fld (ev_var rfl) m1.top T.c_BodyFrame T.n_BodyFrame_s3_place rfl) (rv_ixT (st_of (e1 _ _ hp)) (atI_nat hp2))) fun H2 e2 => ?_
      have m2 := m1.grow e2
      refine q_fldadd ev_c (ev_var rfl) m2.top T.c_BodyFrame T.n_BodyFrame_s3_place rfl (show 2 < 1000 by decide) fun H3 e3 => ?_
      have m3 := (m2.grow e3).setTop (f' := .body x dx p (i + 1)) rfl (fun xs z => by cases z)
      have t3 : TP H (upd H3 x (fhc K (.body x dx p (i + 1))).2) := (ex_tp ((e1.trans e2).trans e3)).trans (TP.upd (m2.grow e3).top (fun xs z => by cases z))
      refine q_dropX (x_meth (ev_var rfl) m3.runner rfl ea_nil fun H4 e4 => ?_)
      refine ⟨H0, a, s, fa, lg, _, rfl, m3.grow e4, by omega, fun H5 m5 t5 => ?_⟩
      have tp5 := (t3.trans (ex_tp e4)).trans t5
      refine s_retX (x_meth (ev_var rfl) m5.runner rfl (ea_cons (ev_var rfl) (ea_cons (ev_var rfl) ea_nil)) fun H6 e6 => ?_)
      have tp6 := tp5.trans (ex_tp e6)
      refine ⟨H0, a, tick s, fa, lg, _, p2, rfl, m5.grow e6, wf.tick.mono (Nat.le_refl _) (Nat.zero_le _), by show s.steps + 1 ≤ 1000; omega, ?_⟩
      have ed : us.drop i = .ref p2 :: us.drop (i + 1) := by rw [List.drop_eq_getElem_cons hlt, (List.getElem?_eq_some_iff.mp hp2).2]
      rw [ed] at hb
      cases hb with
      | sim h ok t => exact .inl ⟨_, tp6 _ _ h, ok, fun H' fa' lg' v pre m' o' _ => k H' fa' lg' v pre m' o'⟩
      | tri hp hb hq ok hh hh1 hhb hw th he1 he2 t => exact .inr ⟨_, tp6 _ _ hp, by rw [List.length_cons]; omega, fun H' x2 dx2 m' _ => k H' x2 dx2 p2 hp2 m'⟩
end
end L2.EX
namespace L2.EX
open PySem PySem.Spec PyProof.Rows Evl
/-! The tree of kinds as asked by a run; a try's own steps. -/
section
variable {K : Frg} {H0 H H' : Hp} {a : RA} {s : PS} {fa : List (Addr × Addr)} {lg : List V} {fr : List Fh}
theorem Ms.setBoard {b : List (Str × Nat)} (m : Ms K H0 H a s fa lg fr) : Ms K H0 (upd H a.B (.dK (bdK fa b))) a { s with board := b } fa lg fr := ⟨m.own.set 1 rfl, m.log.tp (TP.upd m.board fun xs z => by cases z), m.len⟩
theorem Ms.setHand {b : List Nat} (m : Ms K H0 H a s fa lg fr) : Ms K H0 (upd H a.HD (.lst (hdV fa b))) a { s with hand := b } fa lg fr := ⟨m.own.set 9 rfl, m.log.tp (TP.upd m.hand fun xs z => by cases z), m.len⟩
theorem frV_cons (f : Fh) : frV (f :: fr) = frV fr ++ [.ref f.ad] := by
  unfold frV
  rw [List.map_cons, List.reverse_cons]
theorem frV_len : (frV fr).length = fr.length := by
  unfold frV
  simp
/-- a new frame on top -/
theorem Ms.push {f : Fh} {H3 : Hp} (w3 : Own H0 H3 (cells K a s fa lg fr ++ [fhc K f])) (l : LogOk H3 lg s.log) (hl : fa.length = s.rows.length) : Ms K H0 (upd H3 a.FR (.lst (frV fr ++ [.ref f.ad]))) a s fa lg (f :: fr) := by
  have g : H3 a.FR = some (.lst (frV fr)) := w3.get 8 rfl
  have w4 : Own H0 (upd H3 a.FR (.lst (frV fr ++ [.ref f.ad]))) ((baseC K a s.steps (bdK fa s.board) lg (flV fa s.rows.length) (frV fr ++ [.ref f.ad]) (hdV fa s.hand) ++ (fr.map (fhc K) ++ fcells K fa s.rows)) ++ [fhc K f]) := w3.set 8 rfl
  refine ⟨?_, l.tp (TP.upd g fun xs z => by cases z), hl⟩
  unfold cells
  rw [frV_cons]
  refine w4.perm ?_
  rw [List.append_assoc]
  exact List.Perm.append_left _ (List.perm_append_comm (l₁ := [fhc K f]) (l₂ := fr.map (fhc K) ++ fcells K fa s.rows))
theorem Ms.tpPush {f : Fh} {H3 : Hp} (w3 : Own H0 H3 (cells K a s fa lg fr ++ [fhc K f])) : TP H3 (upd H3 a.FR (.lst (frV fr ++ [.ref f.ad]))) := TP.upd (u := .lst (frV fr)) (w3.get 8 rfl) fun xs z => by cases z
end
section
variable {K : Frg} {σ : L2.St} {H H' H0 : Hp} {td ty tv : TE} {D : Ends} {tz : TS} {d : Addr} {kvs : List (Key × V)} {k : Key} {v : V}
theorem ev_din (hk : Ev ty σ H (kV k)) (h : Ev td σ H (.ref d)) (hd : H d = some (.dK kvs)) : Ev (tDIn ty td) σ H (.bl (valV kvs k).isSome) := fun H1 e1 _ q =>
  hk H1 e1 _ fun H2 e2 => h H2 (e1.trans e2) _ fun H3 e3 => ⟨d, _, rfl, DGet.k (((e1.trans e2).trans e3) _ _ hd), q H3 (e2.trans e3)⟩
theorem s_dput (hv : Ev tv σ H v) (h : Ev td σ H (.ref d)) (hk : Ev ty σ H (kV k)) (hd : H d = some (.dK kvs)) (hl : kvs.length < sizeLine) (q : ∀ H1, Ex H H1 → D.nx σ (upd H1 d (.dK (putK kvs k v)))) : sDPut td ty tv D σ H :=
  hv H (Ex.refl H) _ fun H1 e1 => h H1 e1 _ fun H2 e2 => hk H2 (e1.trans e2) _ fun H3 e3 => ⟨d, _, rfl, DPut.k (((e1.trans e2).trans e3) _ _ hd) hl, q H3 ((e1.trans e2).trans e3)⟩
theorem q_dput (hv : Ev tv σ H v) (h : Ev td σ H (.ref d)) (hk : Ev ty σ H (kV k)) (hd : H d = some (.dK kvs)) (hl : kvs.length < sizeLine) (q : ∀ H1, Ex H H1 → tz D σ (upd H1 d (.dK (putK kvs k v)))) : tSeq (sDPut td ty tv) tz D σ H := s_dput (D := { D with nx := tz D }) hv h hk hd hl q
end
section
variable {w : World} {K : Frg} {mg : Str → Option Value} {base : Heap}
def sp_known (K : Frg) : Sp := Pur fun vs H z => ∃ (a dx PD : Addr) (kvs : List (Key × V)) (k : Str), vs = [.ref a, .str k] ∧ H a = some (.ins (a_KindTree K) dx [("s1_parents", .ref PD)]) ∧ H PD = some (.dK kvs) ∧ z = .bl (valV kvs (Sum.inr k)).isSome
theorem ok_KindTree_is_known (T : Tx w K mg) : FOk PW w K mg base 1 (f_KindTree_is_known K) ["self", "kind"] [] (sp_known K) := by
  obtain ⟨fd, F⟩ := T.d_KindTree_is_known
  refine ⟨⟨fd, [], F.ok sc_KindTree_is_known (fun vs H Q E h => ?_) (fun cdv A outer s H vs Q E hr h => ?_), F.bindsN fun _ _ _ _ _ _ us hl => match us, hl with | [_, _], _ => rfl, .nil⟩, F.kp⟩
  · obtain ⟨z, ⟨a, dx, PD, kvs, kd, rfl, _⟩, _⟩ := h
    rfl
  · obtain ⟨z, ⟨a, dx, PD, kvs, kd, rfl, h1, h2, rfl⟩, k⟩ := h
    refine ⟨_, (PSs.nox (pss_one (ps_ret (pe_and (pe_callB call_isi rfl T.z_isinstance boot_isinstance (pa_cons (pv 1) (pa_cons (pe_gty rfl T.z_str boot_str) pa_nil))) (pe_one (pe_cmp (pc_din (hu_of hr) (pv 1) (pe_fld (pv 0) rfl)))))))), ?_⟩
    exact s_ret (ev_is (ev_andV (isi_str "str" true (ev_var rfl)) fun _ => ev_din (k := Sum.inr kd) (ev_var rfl) (ev_fld (ev_var rfl) h1 T.c_KindTree T.n_KindTree_s1_parents rfl) h2) (by rw [Bool.true_and])) k
def sp_need (K : Frg) : Sp := Pur fun vs H z => ∃ (a dx PD : Addr) (kvs : List (Key × V)) (k : Str), vs = [.ref a, .str k] ∧ H a = some (.ins (a_KindTree K) dx [("s1_parents", .ref PD)]) ∧ H PD = some (.dK kvs) ∧ (valV kvs (Sum.inr k)).isSome = true ∧ z = .non
theorem ok_KindTree_s1_need (T : Tx w K mg) (F_KindTree_is_known : FOk PW w K mg base 1 (f_KindTree_is_known K) ["self", "kind"] [] (sp_known K)) : FOk PW w K mg base 2 (f_KindTree_s1_need K) ["self", "kind"] [] (sp_need K) := by
  obtain ⟨fd, F⟩ := T.d_KindTree_s1_need
  refine ⟨⟨fd, [], F.ok sc_KindTree_s1_need (fun vs H Q E h => ?_) (fun cdv A outer s H vs Q E hr h => ?_), F.bindsN fun _ _ _ _ _ _ us hl => match us, hl with | [_, _], _ => rfl, .nil⟩, F.kp⟩
  · obtain ⟨z, ⟨a, dx, PD, kvs, kd, rfl, _⟩, _⟩ := h
    rfl
  · obtain ⟨z, ⟨a, dx, PD, kvs, kd, rfl, h1, h2, h3, rfl⟩, k⟩ := h
    refine ⟨_, (PSs.nox (pss_one (ps_if (pt_not (pt_val (pk_meth (pv 0) T.c_KindTree T.m_KindTree_is_known F_KindTree_is_known hr (pa_cons (pv 1) pa_nil)))) pss_never pss_nil))), ?_⟩
    exact s_when (b := false) (et_not (a := true) (et_B (ev_meth (ev_var rfl) h1 rfl (ea_cons (ev_var rfl) ea_nil) (pur_v fun H1 e1 => ⟨a, dx, PD, kvs, kd, rfl, e1 _ _ h1, e1 _ _ h2, by rw [h3]⟩)))) (fun q => Bool.noConfusion q) fun _ H1 e1 => k H1 e1
def sp_fits (K : Frg) : Sp := Pur fun vs H z => ∃ (a dx PD : Addr) (kvs : List (Key × V)) (k : Str), vs = [.ref a, .str k, .non] ∧ H a = some (.ins (a_KindTree K) dx [("s1_parents", .ref PD)]) ∧ H PD = some (.dK kvs) ∧ (valV kvs (Sum.inr k)).isSome = true ∧ z = .bl true
theorem ok_KindTree_fits (T : Tx w K mg) (F_KindTree_s1_need : FOk PW w K mg base 2 (f_KindTree_s1_need K) ["self", "kind"] [] (sp_need K)) : FOk PW w K mg base 3 (f_KindTree_fits K) ["self", "kind", "kinds"] [] (sp_fits K) := by
  obtain ⟨fd, F⟩ := T.d_KindTree_fits
  refine ⟨⟨fd, [], F.ok sc_KindTree_fits (fun vs H Q E h => ?_) (fun cdv A outer s H vs Q E hr h => ?_), F.bindsN fun _ _ _ _ _ _ us hl => match us, hl with | [_, _, _], _ => rfl, .nil⟩, F.kp⟩
  · obtain ⟨z, ⟨a, dx, PD, kvs, kd, rfl, _⟩, _⟩ := h
    rfl
  · obtain ⟨z, ⟨a, dx, PD, kvs, kd, rfl, h1, h2, h3, rfl⟩, k⟩ := h
    refine ⟨_, (PSs.nox (pss_cons (ps_expr (pk_meth (pv 0) T.c_KindTree T.m_KindTree_s1_need F_KindTree_s1_need hr (pa_cons (pv 1) pa_nil))) (pss_cons (ps_if (pt_cmpR op_isN (pv 2) pe_non (nomark _)) (pss_one (ps_ret pe_bl)) pss_nil) (pss_cons (ps_if (pt_not (pt_val (pe_callB call_isi rfl T.z_isinstance boot_isinstance (pa_cons (pv 2) (pa_cons (pe_gty rfl T.z_tuple boot_tuple) pa_nil))))) pss_never pss_nil) (pss_cons ps_never (pss_one ps_never)))))), ?_⟩
    refine q_drop (ev_meth (ev_var rfl) h1 rfl (ea_cons (ev_var rfl) ea_nil) (pur_v fun H1 e1 => ⟨a, dx, PD, kvs, kd, rfl, e1 _ _ h1, e1 _ _ h2, h3, rfl⟩)) fun H1 e1 => ?_
    exact q_when (b := true) (et_test (ev_op (ev_var rfl) ev_c rv_isN)) (fun _ H2 e2 => s_ret ev_c fun H3 e3 => k H3 ((e1.trans e2).trans e3)) fun q => Bool.noConfusion q
def sp_bended (K : Frg) : Sp := Pur fun vs H z => ∃ (x r c q : Addr) (e : Str) (v : V), vs = [.ref x, .ref r, .ref c, .ref q] ∧ H q = some (.tup [.str e, v]) ∧ z = (if e = "end" then .non else .ref q)
theorem ok_BodyFrame_ended (T : Tx w K mg) : FOk PW w K mg base 1 (f_BodyFrame_ended K) ["self", "runner", "activation", "ending"] [] (sp_bended K) := by
  obtain ⟨fd, F⟩ := T.d_BodyFrame_ended
  refine ⟨⟨fd, [], F.ok sc_BodyFrame_ended (fun vs H Q E h => ?_) (fun cdv A outer s H vs Q E hr h => ?_), F.bindsN fun _ _ _ _ _ _ us hl => match us, hl with | [_, _, _, _], _ => rfl, .nil⟩, F.kp⟩
  · obtain ⟨z, ⟨x, r, c, q, e, v, rfl, _⟩, _⟩ := h
    rfl
  · obtain ⟨z, ⟨x, r, c, q, e, v, rfl, h1, rfl⟩, k⟩ := h
    refine ⟨_, (PSs.nox (pss_one (ps_ret (pe_ifExp (pt_cmpR op_eq (pe_ix ix_tup (pv 3) pe_int (fun _ _ => rfl)) pe_str (nomark _)) pe_non (pv 3))))), ?_⟩
    refine s_ret (ev_if (b := decide (V.str e = V.str "end")) (et_test (ev_op (ev_op (ev_var rfl) ev_c (rv_ixT (st_of h1) (atI_nat (j := 0) rfl))) ev_c (rv_eq rfl))) (fun q => ?_) fun q => ?_) k
    · rw [if_pos (V.str.inj (of_decide_eq_true q))]
      exact ev_c
    · rw [if_neg (fun z => of_decide_eq_false q (congrArg V.str z))]
      exact ev_var rfl
def sp_begin (K : Frg) : Sp := fun vs H Q _ => ∃ H0 a s fa lg x dx p part part' nm pend fr bp, vs = [.ref x, .ref a.act, .str part', .ref bp] ∧ Ms K H0 H a s fa lg (.tri x dx p part nm pend :: fr) ∧ fr.length ≤ 900 ∧
  ∀ H' y dy, Ms K H0 H' a s fa lg (.body y dy bp 0 :: .tri x dx p part' nm pend :: fr) → Q .non H'
theorem ok_TryFrame_s3_begin (T : Tx w K mg) (F_BodyFrame_init : FOk PW w K mg base 1 (f_BodyFrame_init K) ["self", "body"] [] (sp_ini (a_BodyFrame K) R_BodyFrame)) : FOk PW w K mg base 3 (f_TryFrame_s3_begin K) ["self", "activation", "part", "body"] [] (sp_begin K) := by
  obtain ⟨fd, F⟩ := T.d_TryFrame_s3_begin
  refine ⟨⟨fd, [], F.ok sc_TryFrame_s3_begin (fun vs H Q E h => ?_) (fun cdv A outer s H vs Q E hr h => ?_), F.bindsN fun _ _ _ _ _ _ us hl => match us, hl with | [_, _, _, _], _ => rfl, .nil⟩, F.kp⟩
  · obtain ⟨H0, a, s, fa, lg, x, dx, p, part, part', nm, pend, fr, bp, rfl, _⟩ := h
    rfl
  · obtain ⟨H0, a, s, fa, lg, x, dx, p, part, part', nm, pend, fr, bp, rfl, m, hfr, k⟩ := h
    refine ⟨_, (PSs.nox (pss_cons (ps_fld (pv 0) (pv 2) rfl) (pss_one (ps_expr (pe_bm PySem.F.plainAttrs_list PySem.F.slot_list_append PySem.F.type_list_append mt_append (pe_fld (pv 1) rfl) (pa_cons (pk_make T.k_BodyFrame F_BodyFrame_init hr rfl T.g_BodyFrame (pa_cons (pv 3) pa_nil)) pa_nil)))))), ?_⟩
    refine q_fld (ev_var rfl) (ev_var rfl) m.top T.c_TryFrame T.n_TryFrame_s3_part (show 4 < 1000 by decide) fun H1 e1 => ?_
    have m1 : Ms K H0 (upd H1 x (.ins (a_TryFrame K) dx (tFs p part' nm pend))) a s fa lg (.tri x dx p part' nm pend :: fr) := (m.grow e1).setTop (f' := .tri x dx p part' nm pend) rfl (fun xs z => by cases z)
    refine s_dropX ?_
    refine ev_fld (ev_var rfl) m1.acti T.c_Activation T.n_Activation_s3_frames rfl _ (Ex.refl _) _ fun H2 e2 => ⟨Or.inl ⟨rfl, _, sq_of ((m1.grow e2).fral)⟩, ?_⟩
    have m2 := m1.grow e2
    refine mk_own (fs := bFs bp 0) m2.own (ea_cons (ev_var rfl) ea_nil) (fun H3 y dy Q' w3 _ k' => ini_at ⟨bp, rfl, rfl⟩ w3 k') _ fun y dy H3 hy w3 t3 _ => ?_
    refine ⟨a.FR, _, .ref y, rfl, rfl, w3.get 8 rfl, sz_lt (by rw [frV_len, List.length_cons]; omega), ?_⟩
    exact k _ y dy (Ms.push (f := .body y dy bp 0) w3 (m2.log.tp t3) m2.len)
def sp_tstep (K : Frg) : Sp := fun vs H Q _ => ∃ H0 a s fa lg x dx p fr y n hh, vs = [.ref x, .ref a.R, .ref a.act] ∧ Ms K H0 H a s fa lg (.tri x dx p "" .non .non :: fr) ∧ fr.length ≤ 900 ∧ TriAt H p y n hh ∧
  ∀ H' z dz b q, H' b = some (.tup [.ref q]) → H' q = some (.tup (simV y)) → Ms K H0 H' a s fa lg (.body z dz b 0 :: .tri x dx p "body" .non .non :: fr) → Q .non H'
theorem ok_TryFrame_step (T : Tx w K mg) (F_TryFrame_s3_begin : FOk PW w K mg base 3 (f_TryFrame_s3_begin K) ["self", "activation", "part", "body"] [] (sp_begin K)) : FOk PW w K mg base 4 (f_TryFrame_step K) ["self", "runner", "activation"] [] (sp_tstep K) := by
  obtain ⟨fd, F⟩ := T.d_TryFrame_step
  refine ⟨⟨fd, [], F.ok sc_TryFrame_step (fun vs H Q E h => ?_) (fun cdv A outer s H vs Q E hr h => ?_), F.bindsN fun _ _ _ _ _ _ us hl => match us, hl with | [_, _, _], _ => rfl, .nil⟩, F.kp⟩
  · obtain ⟨H0, a, s, fa, lg, x, dx, p, fr, y, n, hh, rfl, _⟩ := h
    rfl
  · obtain ⟨H0, a, s, fa, lg, x, dx, p, fr, y, n, hh, rfl, m, hfr, ⟨b, q, hs, h1, hb, e1, e2, ws, a1, a2, a3, _⟩, k⟩ := h
    refine ⟨_, (PSs.nox (pss_cons (ps_expr (pk_meth (pv 0) T.c_TryFrame T.m_TryFrame_s3_begin F_TryFrame_s3_begin hr (pa_cons (pv 2) (pa_cons pe_str (pa_cons (pe_ix ix_tup (pe_fld (pv 0) rfl) pe_int (fun _ _ => rfl)) pa_nil))))) (pss_one (ps_ret pe_non)))), ?_⟩
    refine q_dropX (x_meth (ev_var rfl) m.top rfl (ea_cons (ev_var rfl) (ea_cons ev_c (ea_cons (ev_op (ev_fld (ev_var rfl) m.top T.c_TryFrame T.n_TryFrame_s3_statement rfl) ev_c (rv_ixT (st_of a1) (atI_nat (j := 1) rfl))) ea_nil))) fun H1 f1 => ?_)
    refine ⟨H0, a, s, fa, lg, x, dx, p, "", "body", .non, .non, fr, b, rfl, m.grow f1, hfr, fun H2 z dz m2 t2 => ?_⟩
    have t := (ex_tp f1).trans t2
    exact s_ret (D := { nx := fun _ H' => Q .non H', rt := Q }) ev_c fun H3 f3 => k H3 z dz b q (f3 _ _ (t _ _ a2)) (f3 _ _ (t _ _ a3)) (m2.grow f3)
end
end L2.EX
namespace L2.EX
open PySem PySem.Spec PyProof.Rows Evl
/-! A try's endings. -/
section
variable {K : Frg} {σ : L2.St} {H H' H0 : Hp} {ta td ty tv : TE} {D : Ends} {tz tu tw : TS} {d l : Addr} {kvs : List (Key × V)} {k : Key} {v : V} {t u : TT}
theorem s_pop {xs : List V} (hl : H l = some (.lst xs)) (hx : xs ≠ []) (ha : Ev ta σ H (.ref l)) (k : ∀ H1, Ex H H1 → D.nx σ (upd H1 l (.lst xs.dropLast))) : tDrop (tBM0 K "list" rPop ta) D σ H := ha H (Ex.refl H) _ fun H1 e1 =>
  ⟨.inl ⟨rfl, xs, sq_of (e1 _ _ hl)⟩, l, xs, xs[xs.length - 1]'(by have := List.length_pos_iff.mpr hx; omega), rfl, rfl, e1 _ _ hl, List.getElem?_eq_getElem _, k H1 e1⟩
theorem q_pop {xs : List V} (hl : H l = some (.lst xs)) (hx : xs ≠ []) (ha : Ev ta σ H (.ref l)) (k : ∀ H1, Ex H H1 → tz D σ (upd H1 l (.lst xs.dropLast))) : tSeq (tDrop (tBM0 K "list" rPop ta)) tz D σ H := s_pop (D := { D with nx := tz D }) hl hx ha k
theorem x_and {Q : Bool → Hp → Prop} (h : EvT t σ H true) (k : ∀ H1, Ex H H1 → u σ H1 Q) : tAnd t u σ H Q := h H (Ex.refl H) _ fun H1 e1 => by
  show (if true = true then u σ H1 Q else Q false H1)
  rw [if_pos rfl]
  exact k H1 e1
theorem q_ifT (h : t σ H fun b H1 => b = true ∧ tu { D with nx := tz D } σ H1) (mono : ∀ Q Q' : Bool → Hp → Prop, (∀ b H1, Q b H1 → Q' b H1) → t σ H Q → t σ H Q') : tSeq (tIfS t tu tw) tz D σ H := by
  refine mono _ (fun b H1 => if b = true then tu { D with nx := tz D } σ H1 else tw { D with nx := tz D } σ H1) (fun b H1 ⟨e, q⟩ => ?_) h
  rw [if_pos e]
  exact q
/-- d.pop(k), there -/
theorem s_dpop (hd : H d = some (.dK kvs)) (h : Ev td σ H (.ref d)) (hk : Ev ty σ H (kV k)) (hv : valV kvs k = some v) (q : ∀ H1, Ex H H1 → D.nx σ (upd H1 d (.dK (dropK kvs k)))) : tDrop (tDPop1 td ty) D σ H := h H (Ex.refl H) _ fun H1 e1 =>
  ⟨d, rfl, .inl ⟨kvs, .inl (e1 _ _ hd)⟩, hk H1 e1 _ fun H2 e2 => ⟨kvs, k, v, (e1.trans e2) _ _ hd, rfl, hv, q H2 (e1.trans e2)⟩⟩
end
theorem dropK_no {kvs : List (Key × V)} {k : Key} (h : valV kvs k = none) : dropK kvs k = kvs := by
  unfold dropK
  refine List.filter_eq_self.mpr fun p hp => decide_eq_true fun e => ?_
  exact valV_not h (by rw [← e]; exact List.mem_map.mpr ⟨p, hp, rfl⟩)
theorem bdrop_no {b : List (Str × Nat)} {n : Str} (h : bget b n = none) : bdrop b n = b := by
  unfold bdrop
  refine List.filter_eq_self.mpr fun p hp => decide_eq_true fun e => ?_
  unfold bget at h
  have z : b.find? (fun p => decide (p.1 = n)) = none := Option.map_eq_none_iff.mp h
  exact (List.find?_eq_none.mp z p hp) (decide_eq_true e)
section
variable {w : World} {K : Frg} {mg : Str → Option Value} {base : Heap}
def knownK (k : Str) : Prop := (valV kindsK (Sum.inr k)).isSome = true
def sp_handled (K : Frg) : Sp := fun vs H Q _ => ∃ H0 a s fa lg x dx p fr y n hh f r, vs = [.ref x, .ref a.R, .ref a.act, refF fa f] ∧ Ms K H0 H a s fa lg (.tri x dx p "body" .non .non :: fr) ∧ fr.length ≤ 900 ∧ TriAt H p y n hh ∧ s.rows[f]? = some r ∧ knownK r.kind ∧ s.board.length ≤ 1000 ∧ s.hand.length ≤ 1000 ∧
  ∀ H' z dz bp ws, H' bp = some (.tup ws) → ws.length ≤ 1000 → BdyT H' ws hh → Ms K H0 H' a (pushB n f s) fa lg (.body z dz bp 0 :: .tri x dx p "handler" (oV n) .non :: fr) → Q (.bl true) H'
theorem ok_TryFrame_s3_is_handled (T : Tx w K mg) (F_KindTree_fits : FOk PW w K mg base 3 (f_KindTree_fits K) ["self", "kind", "kinds"] [] (sp_fits K)) (F_Fault_kind : FOk PW w K mg base 1 (f_Fault_kind K) ["self"] [] (sp_get (a_Fault K) "s1_kind")) (F_TryFrame_s3_begin : FOk PW w K mg base 3 (f_TryFrame_s3_begin K) ["self", "activation", "part", "body"] [] (sp_begin K)) :
    FOk PW w K mg base 4 (f_TryFrame_s3_is_handled K) ["self", "runner", "activation", "fault"] [] (sp_handled K) := by
  obtain ⟨fd, F⟩ := T.d_TryFrame_s3_is_handled
  refine ⟨⟨fd, [], F.ok sc_TryFrame_s3_is_handled (fun vs H Q E h => ?_) (fun cdv A outer s H vs Q E hr h => ?_), F.bindsN fun _ _ _ _ _ _ us hl => match us, hl with | [_, _, _, _], _ => rfl, .nil⟩, F.kp⟩
  · obtain ⟨H0, a, s, fa, lg, x, dx, p, fr, y, n, hh, f, r, rfl, _⟩ := h
    rfl
  · obtain ⟨H0, a, s, fa, lg, x, dx, p, fr, y, n, hh, f, r, rfl, m, hfr, ⟨b, q, hs, h1, hb, e1, e2, ws, a1, a2, a3, a4, a5, a6, a7, a8, a9, a10⟩, hr1, hkn, hbl, hhl, k⟩ := h
    refine ⟨_, (PSs.nox (pss_cons (ps_for PassesOwn.never rfl (pi_tup (pe_ix ix_tup (pe_fld (pv 0) rfl) pe_int (fun _ _ => rfl))) (pg_tup rfl (pgs_cons (pg_name (i := 4) sc_TryFrame_s3_is_handled.nd rfl (Or.inl rfl)) (pgs_cons (pg_name (i := 5) sc_TryFrame_s3_is_handled.nd rfl (Or.inl rfl)) (pgs_cons (pg_name (i := 6) sc_TryFrame_s3_is_handled.nd rfl (Or.inl rfl)) pgs_nil)))) (pss_one (ps_if (pt_val (pk_meth (pe_fld (pv 1) rfl) T.c_KindTree T.m_KindTree_fits F_KindTree_fits hr (pa_cons (pk_prop (pv 3) T.c_Fault T.p_Fault_kind F_Fault_kind hr) (pa_cons (pv 4) pa_nil)))) (Evl.pss_cut (ps_if (pt_cmpR op_notN (pv 5) pe_non (nomark _)) (pss_one (ps_dput (hu_of hr) (pe_fld (pv 1) rfl) (pv 5) (pv 3) rfl)) pss_nil) (pss_cons (ps_fld (pv 0) (pv 5) rfl) (pss_cons (ps_expr (pe_bm PySem.F.plainAttrs_list PySem.F.slot_list_append PySem.F.type_list_append mt_append (pe_fld (pv 2) rfl) (pa_cons (pv 3) pa_nil))) (pss_cons (ps_expr (pk_meth (pv 0) T.c_TryFrame T.m_TryFrame_s3_begin F_TryFrame_s3_begin hr (pa_cons (pv 2) (pa_cons pe_str (pa_cons (pv 6) pa_nil))))) (pss_one (ps_ret pe_bl)))))) pss_nil))) (pss_one (ps_ret pe_bl)))), ?_⟩
    refine q_forT (a := hs) (xs := [.ref h1]) (ev_op (ev_fld (ev_var rfl) m.top T.c_TryFrame T.n_TryFrame_s3_statement rfl) ev_c (rv_ixT (st_of a1) (atI_nat (j := 2) rfl))) (st_of a5) (fun i σ' H' => i = 0 ∧ σ' = [some (.ref x), some (.ref a.R), some (.ref a.act), some (refF fa f), none, none, none] ∧ Ex H H')
      (fun H1 f1 => ⟨rfl, rfl, f1⟩) (fun i σ' H' _ ⟨_, _, f1⟩ => st_of (f1 _ _ a5)) (fun i v σ' H' hx pv => ?_) fun σ' H' pv => absurd pv.1 (show ¬ (1 = 0) by decide)
    obtain ⟨rfl, rfl, f1⟩ := pv
    cases hx
    refine ⟨h1, _, rfl, st_of (f1 _ _ a6), rfl, g_cons (g_cons (g_cons (g_nil ?_)))⟩
    show tIfS _ _ _ _ [some (.ref x), some (.ref a.R), some (.ref a.act), some (refF fa f), some .non, some (oV n), some (.ref hb)] H'
    have m1 := m.grow f1
    refine s_when (b := true) (et_B (ev_meth (ev_fld (ev_var rfl) m1.runner T.c_Runner T.n_Runner_s3_tree rfl) m1.tree rfl (ea_cons (ev_prop (ev_var rfl) (m1.fault hr1) (get_v (m1.fault hr1) rfl)) (ea_cons (ev_var rfl) ea_nil)) (pur_v fun H2 f2 => ⟨a.T, a.dT, a.PD, kindsK, r.kind, rfl, f2 _ _ m1.tree, f2 _ _ m1.pard, hkn, rfl⟩))) (fun _ H2 f2 => ?_) fun q => Bool.noConfusion q
    have m2 := m1.grow f2
    have f02 := f1.trans f2
    -- the board
    refine q_cut (M := fun σ' H3 => σ' = [some (.ref x), some (.ref a.R), some (.ref a.act), some (refF fa f), some .non, some (oV n), some (.ref hb)] ∧ TP H H3 ∧ Ms K H0 H3 a { s with board := bputO n f s.board } fa lg (.tri x dx p "body" .non .non :: fr)) ?_ ?_
    · cases n with
      | none => exact s_when (b := false) (et_test (ev_op (ev_var rfl) ev_c rv_notN)) (fun q => Bool.noConfusion q) fun _ H3 f3 => ⟨rfl, ex_tp (f02.trans f3), m2.grow f3⟩
      | some nn =>
        refine s_when (b := true) (et_test (ev_op (ev_var rfl) ev_c rv_notN)) (fun _ H3 f3 => ?_) fun q => Bool.noConfusion q
        have m3 := m2.grow f3
        refine s_dput (k := Sum.inr nn) (ev_var rfl) (ev_fld (ev_var rfl) m3.runner T.c_Runner T.n_Runner_s3_board rfl) (ev_var rfl) m3.board (sz_lt (by unfold bdK; rw [List.length_map]; omega)) fun H4 f4 => ⟨rfl, (ex_tp ((f02.trans f3).trans f4)).trans (TP.upd (m3.grow f4).board fun xs z => by cases z), ?_⟩
        rw [putK_bd]
        exact (m3.grow f4).setBoard
    · rintro σ' H3 ⟨rfl, t3, m3⟩
      -- self.s3_name = name
      refine q_fld (ev_var rfl) (ev_var rfl) m3.top T.c_TryFrame T.n_TryFrame_s3_name (show 4 < 1000 by decide) fun H4 f4 => ?_
      have m4 : Ms K H0 (upd H4 x (.ins (a_TryFrame K) dx (tFs p "body" (oV n) .non))) a { s with board := bputO n f s.board } fa lg (.tri x dx p "body" (oV n) .non :: fr) := (m3.grow f4).setTop (f' := .tri x dx p "body" (oV n) .non) rfl (fun xs z => by cases z)
      have t4 : TP H (upd H4 x (.ins (a_TryFrame K) dx (tFs p "body" (oV n) .non))) := (t3.trans (ex_tp f4)).trans (TP.upd (m3.grow f4).top fun xs z => by cases z)
      -- activation.s3_handled.append(fault)
      refine q_app m4.hand (ev_fld (ev_var rfl) m4.acti T.c_Activation T.n_Activation_s3_handled rfl) (ev_var rfl) (by unfold hdV; rw [List.length_map]; show s.hand.length < _; omega) fun H5 f5 => ?_
      have eh : hdV fa s.hand ++ [refF fa f] = hdV fa (s.hand ++ [f]) := by unfold hdV; rw [List.map_append]; rfl
      have m5 : Ms K H0 (upd H5 a.HD (.lst (hdV fa s.hand ++ [refF fa f]))) a (pushB n f s) fa lg (.tri x dx p "body" (oV n) .non :: fr) := by
        rw [eh]
        exact (m4.grow f5).setHand
      have t5 : TP H (upd H5 a.HD (.lst (hdV fa s.hand ++ [refF fa f]))) := (t4.trans (ex_tp f5)).trans (TP.upd (u := .lst (hdV fa s.hand)) (m4.grow f5).hand fun xs z => by cases z)
      refine q_dropX (x_meth (ev_var rfl) m5.top rfl (ea_cons (ev_var rfl) (ea_cons ev_c (ea_cons (ev_var rfl) ea_nil))) fun H6 f6 => ?_)
      refine ⟨H0, a, _, fa, lg, x, dx, p, "body", "handler", oV n, .non, fr, hb, rfl, m5.grow f6, hfr, fun H7 z dz m7 t7 => ?_⟩
      have t := ((t5.trans (ex_tp f6)).trans t7)
      exact s_ret (D := { nx := fun _ H' => Q .non H', rt := Q }) ev_c fun H8 f8 => k H8 z dz hb ws (f8 _ _ (t _ _ a7)) a8 (a9.tp (t.trans (ex_tp f8))) (m7.grow f8)
end
end L2.EX
namespace L2.EX
open PySem PySem.Spec PyProof.Rows Evl
/-! A try's ended. -/
section
variable {w : World} {K : Frg} {mg : Str → Option Value} {base : Heap}
def sp_tended (K : Frg) : Sp := fun vs H Q _ => ∃ H0 a s fa lg x dx p part nm pend fr q, vs = [.ref x, .ref a.R, .ref a.act, .ref q] ∧ Ms K H0 H a s fa lg (.tri x dx p part nm pend :: fr) ∧ fr.length ≤ 900 ∧ s.board.length ≤ 1000 ∧ s.hand.length ≤ 1000 ∧
  ((∃ y n hh f r, part = "body" ∧ nm = .non ∧ pend = .non ∧ TriAt H p y n hh ∧ H q = some (.tup [.str "fault", refF fa f]) ∧ s.rows[f]? = some r ∧ knownK r.kind ∧
      ∀ H' z dz bp ws, H' bp = some (.tup ws) → ws.length ≤ 1000 → BdyT H' ws hh → Ms K H0 H' a (pushB n f s) fa lg (.body z dz bp 0 :: .tri x dx p "handler" (oV n) .non :: fr) → Q .non H') ∨
   (∃ n o, part = "handler" ∧ nm = oV n ∧ TriE H p ∧ EndT H fa (.ref q) o ∧ s.hand ≠ [] ∧ ∀ H' z dz bp, H' bp = some (.tup []) → Ms K H0 H' a (pushE o (popB n s)) fa lg (.body z dz bp 0 :: .tri x dx p "final" nm (.ref q) :: fr) → Q .non H') ∨
   (∃ o, part = "final" ∧ EndT H fa pend o ∧ H q = some (.tup [.str "end", .non]) ∧ (o ≠ none → s.hand ≠ []) ∧ ∀ H', Ms K H0 H' a (popE o s) fa lg (.tri x dx p part nm pend :: fr) → Q pend H'))
theorem EndT.shape {H : Hp} {fa : List (Addr × Addr)} {v : V} {o : Option Nat} (h : EndT H fa v o) : ∃ p e u, v = .ref p ∧ H p = some (.tup [.str e, u]) ∧ decide (V.str e = V.str "fault") = o.isSome ∧ (∀ f, o = some f → u = refF fa f) := by
  cases o with
  | none => obtain ⟨p, e1, e2⟩ := h; exact ⟨p, "end", .non, e1, e2, rfl, fun f q => by cases q⟩
  | some f => obtain ⟨p, e1, e2⟩ := h; exact ⟨p, "fault", refF fa f, e1, e2, rfl, fun g q => by cases q; rfl⟩
theorem hdV_drop (fa : List (Addr × Addr)) (l : List Nat) : (hdV fa l).dropLast = hdV fa l.dropLast := by
  unfold hdV
  rw [List.map_dropLast]
theorem hdV_ne {fa : List (Addr × Addr)} {l : List Nat} (h : l ≠ []) : hdV fa l ≠ [] := fun e => h (List.map_eq_nil_iff.mp e)
theorem ok_TryFrame_ended (T : Tx w K mg) (F_TryFrame_s3_begin : FOk PW w K mg base 3 (f_TryFrame_s3_begin K) ["self", "activation", "part", "body"] [] (sp_begin K)) (F_TryFrame_s3_is_handled : FOk PW w K mg base 4 (f_TryFrame_s3_is_handled K) ["self", "runner", "activation", "fault"] [] (sp_handled K)) :
    FOk PW w K mg base 5 (f_TryFrame_ended K) ["self", "runner", "activation", "ending"] [] (sp_tended K) := by
  obtain ⟨fd, F⟩ := T.d_TryFrame_ended
  refine ⟨⟨fd, [], F.ok sc_TryFrame_ended (fun vs H Q E h => ?_) (fun cdv A outer s H vs Q E hr h => ?_), F.bindsN fun _ _ _ _ _ _ us hl => match us, hl with | [_, _, _, _], _ => rfl, .nil⟩, F.kp⟩
  · obtain ⟨H0, a, s, fa, lg, x, dx, p, part, nm, pend, fr, q, rfl, _⟩ := h
    rfl
  · obtain ⟨H0, a, s, fa, lg, x, dx, p, part, nm, pend, fr, q, rfl, m, hfr, hbl, hhl, alt⟩ := h
    refine ⟨_, (PSs.nox (pss_cons (ps_if (PW.pt (pw_and (pt_cmpR op_eq (pe_fld (pv 0) rfl) pe_str (nomark _)) (pw_and1 (pt_cmpR op_eq (pe_ix ix_tup (pv 3) pe_int (fun _ _ => rfl)) pe_str (nomark _))))) (pss_cons (ps_expr (pk_meth (pv 0) T.c_TryFrame T.m_TryFrame_s3_begin F_TryFrame_s3_begin hr (pa_cons (pv 2) (pa_cons pe_str (pa_cons (pe_ix ix_tup (pe_fld (pv 0) rfl) pe_int (fun _ _ => rfl)) pa_nil))))) (pss_one (ps_ret pe_non))) pss_nil) (pss_cons (ps_if (PW.pt (pw_and (pt_cmpR op_eq (pe_fld (pv 0) rfl) pe_str (nomark _)) (pw_and (pt_cmpR op_eq (pe_ix ix_tup (pv 3) pe_int (fun _ _ => rfl)) pe_str (nomark _)) (pw_and1 (pt_val (pk_meth (pv 0) T.c_TryFrame T.m_TryFrame_s3_is_handled F_TryFrame_s3_is_handled hr (pa_cons (pv 1) (pa_cons (pv 2) (pa_cons (pe_ix ix_tup (pv 3) pe_int (fun _ _ => rfl)) pa_nil))))))))) (pss_one (ps_ret pe_non)) pss_nil) (pss_cons (ps_if (pt_cmpR op_eq (pe_fld (pv 0) rfl) pe_str (nomark _)) (pss_cons (ps_if (pt_cmpR op_eq (pe_ix ix_tup (pe_fld (pv 0) rfl) pe_int (fun _ _ => rfl)) pe_str (nomark _)) (pss_one (ps_expr (pe_bm0 PySem.F.plainAttrs_list PySem.F.slot_list_pop PySem.F.type_list_pop mt_pop (pe_fld (pv 2) rfl)))) pss_nil) (pss_one (ps_ret (pe_ifExp (pt_cmpR op_eq (pe_ix ix_tup (pv 3) pe_int (fun _ _ => rfl)) pe_str (nomark _)) (pe_fld (pv 0) rfl) (pv 3))))) pss_nil) (Evl.pss_cut (ps_if (pt_cmpR op_eq (pe_fld (pv 0) rfl) pe_str (nomark _)) (pss_cons (ps_expr (pe_bm0 PySem.F.plainAttrs_list PySem.F.slot_list_pop PySem.F.type_list_pop mt_pop (pe_fld (pv 2) rfl))) (pss_one (ps_if (PW.pt (pw_and (pt_cmpR op_notN (pe_fld (pv 0) rfl) pe_non (nomark _)) (pw_and1 (pt_cmp (pc_din (hu_of hr) (pe_fld (pv 0) rfl) (pe_fld (pv 1) rfl)))))) (pss_one (ps_expr (pe_dpop1 (pe_fld (pv 1) rfl) (pe_fld (pv 0) rfl) ⟨rfl, rfl, rfl, rfl⟩))) pss_nil))) pss_nil) (pss_cons (ps_fld (pv 0) (pv 3) rfl) (Evl.pss_cut (ps_if (pt_cmpR op_eq (pe_ix ix_tup (pv 3) pe_int (fun _ _ => rfl)) pe_str (nomark _)) (pss_one (ps_expr (pe_bm PySem.F.plainAttrs_list PySem.F.slot_list_append PySem.F.type_list_append mt_append (pe_fld (pv 2) rfl) (pa_cons (pe_ix ix_tup (pv 3) pe_int (fun _ _ => rfl)) pa_nil)))) pss_nil) (pss_cons (ps_expr (pk_meth (pv 0) T.c_TryFrame T.m_TryFrame_s3_begin F_TryFrame_s3_begin hr (pa_cons (pv 2) (pa_cons pe_str (pa_cons (pe_ix ix_tup (pe_fld (pv 0) rfl) pe_int (fun _ _ => rfl)) pa_nil))))) (pss_one (ps_ret pe_non)))))))))), ?_⟩
    have part_ : ∀ {H1} (c : Str), Ex H H1 → EvT (tTest (tOp rEq (tFld K (tVar 0) "s3_part") (tC (.str c)))) [some (.ref x), some (.ref a.R), some (.ref a.act), some (.ref q)] H1 (decide (V.str part = V.str c)) := fun c e1 => et_test (ev_op (ev_fld (ev_var rfl) (m.grow e1).top T.c_TryFrame T.n_TryFrame_s3_part rfl) ev_c (rv_eq rfl))
    rcases alt with ⟨y, n, hh, f, r, rfl, rfl, rfl, tri, hq, hr1, hkn, k⟩ | ⟨n, o, rfl, rfl, tri, hq, hne, k⟩ | ⟨o, rfl, hp, hq, hne, k⟩
    · refine q_when (b := false) (et_is (et_and (a := true) (part_ "body" (Ex.refl H)) fun _ => et_test (ev_op (ev_op (ev_var rfl) ev_c (rv_ixT (st_of hq) (atI_nat (j := 0) rfl))) ev_c (rv_eq rfl))) rfl) (fun q => Bool.noConfusion q) fun _ H1 e1 => ?_
      refine x_and (part_ "body" e1) fun H2 e2 => x_and (et_test (ev_is (ev_op (ev_op (ev_var rfl) ev_c (rv_ixT (st_of ((e1.trans e2) _ _ hq)) (atI_nat (j := 0) rfl))) ev_c (rv_eq rfl)) rfl)) fun H3 e3 => ?_
      have e13 := (e1.trans e2).trans e3
      refine x_meth (ev_var rfl) (m.grow e13).top rfl (ea_cons (ev_var rfl) (ea_cons (ev_var rfl) (ea_cons (ev_op (ev_var rfl) ev_c (rv_ixT (st_of (e13 _ _ hq)) (atI_nat (j := 1) rfl))) ea_nil))) fun H4 e4 => ?_
      have e14 := e13.trans e4
      refine ⟨H0, a, s, fa, lg, x, dx, p, fr, y, n, hh, f, r, rfl, m.grow e14, hfr, tri.tp (ex_tp e14), hr1, hkn, hbl, hhl, fun H5 z dz bp ws b1 b2 b3 m5 _ => ⟨true, rfl, ?_⟩⟩
      show (if true = true then tRet (tC .non) _ _ _ else _)
      rw [if_pos rfl]
      exact s_ret (D := { nx := _, rt := Q }) ev_c fun H6 e6 => k H6 z dz bp ws (e6 _ _ b1) b2 (b3.tp (ex_tp e6)) (m5.grow e6)
    · obtain ⟨q', ee, u, eq', hq', hde, hu⟩ := hq.shape
      cases eq'
      obtain ⟨v1, v2, v3, e2a, hp5, he2⟩ := tri
      refine q_when (b := false) (et_and (a := false) (b := false) (part_ "body" (Ex.refl H)) fun q => Bool.noConfusion q) (fun q => Bool.noConfusion q) fun _ H1 e1 => ?_
      refine q_when (b := false) (et_and (a := false) (b := false) (part_ "body" e1) fun q => Bool.noConfusion q) (fun q => Bool.noConfusion q) fun _ H2 e2 => ?_
      have e12 := e1.trans e2
      refine q_when (b := false) (part_ "final" e12) (fun q => Bool.noConfusion q) fun _ H3 e3 => ?_
      have e13 := e12.trans e3
      refine q_cut (M := fun σ' H4 => σ' = [some (.ref x), some (.ref a.R), some (.ref a.act), some (.ref q)] ∧ TP H H4 ∧ Ms K H0 H4 a (popB n s) fa lg (.tri x dx p "handler" (oV n) pend :: fr)) ?_ ?_
      · refine s_when (b := true) (part_ "handler" e13) (fun _ H4 e4 => ?_) fun q => Bool.noConfusion q
        have m4 := m.grow (e13.trans e4)
        refine q_pop m4.hand (hdV_ne hne) (ev_fld (ev_var rfl) m4.acti T.c_Activation T.n_Activation_s3_handled rfl) fun H5 e5 => ?_
        have m5 : Ms K H0 (upd H5 a.HD (.lst (hdV fa s.hand).dropLast)) a { s with hand := s.hand.dropLast } fa lg (.tri x dx p "handler" (oV n) pend :: fr) := by
          rw [hdV_drop]
          exact (m4.grow e5).setHand
        have t5 : TP H (upd H5 a.HD (.lst (hdV fa s.hand).dropLast)) := (ex_tp ((e13.trans e4).trans e5)).trans (TP.upd (m4.grow e5).hand fun xs z => by cases z)
        cases n with
        | none => exact s_when (b := false) (et_and (a := false) (b := false) (et_test (ev_op (ev_fld (ev_var rfl) m5.top T.c_TryFrame T.n_TryFrame_s3_name rfl) ev_c rv_notN)) fun q => Bool.noConfusion q) (fun q => Bool.noConfusion q) fun _ H6 e6 => ⟨rfl, t5.trans (ex_tp e6), m5.grow e6⟩
        | some nn =>
          have tst : EvT (tAnd (tTest (tOp (fun x y H Q => y = .non ∧ Q (.bl (!decide (x = .non))) H) (tFld K (tVar 0) "s3_name") (tC .non))) (tB (tDIn (tFld K (tVar 0) "s3_name") (tFld K (tVar 1) "s3_board")))) [some (.ref x), some (.ref a.R), some (.ref a.act), some (.ref q)] (upd H5 a.HD (.lst (hdV fa s.hand).dropLast)) (valV (bdK fa s.board) (Sum.inr nn)).isSome :=
            et_is (et_and (a := true) (et_test (ev_op (ev_fld (ev_var rfl) m5.top T.c_TryFrame T.n_TryFrame_s3_name rfl) ev_c rv_notN)) fun _ => et_B (ev_din (k := Sum.inr nn) (ev_fld (ev_var rfl) m5.top T.c_TryFrame T.n_TryFrame_s3_name rfl) (ev_fld (ev_var rfl) m5.runner T.c_Runner T.n_Runner_s3_board rfl) m5.board)) (Bool.true_and _)
          refine s_when tst (fun qv H6 e6 => ?_) fun qv H6 e6 => ?_
          · obtain ⟨vv, hvv⟩ := Option.isSome_iff_exists.mp qv
            have m6 := m5.grow e6
            refine s_dpop m6.board (ev_fld (ev_var rfl) m6.runner T.c_Runner T.n_Runner_s3_board rfl) (ev_fld (ev_var rfl) m6.top T.c_TryFrame T.n_TryFrame_s3_name rfl) hvv fun H7 e7 => ⟨rfl, (t5.trans (ex_tp (e6.trans e7))).trans (TP.upd (m6.grow e7).board fun xs z => by cases z), ?_⟩
            rw [dropK_bd]
            exact (m6.grow e7).setBoard
          · refine ⟨rfl, t5.trans (ex_tp e6), ?_⟩
            have hb0 : bget s.board nn = none := by
              rw [valV_bd] at qv
              cases hb : bget s.board nn with
              | none => rfl
              | some g => rw [hb] at qv; cases qv
            have ep : popB (some nn) s = { s with hand := s.hand.dropLast } := by
              show { s with board := bdrop s.board nn, hand := s.hand.dropLast } = _
              rw [bdrop_no hb0]
            rw [ep]
            exact m5.grow e6
      · rintro σ' H4 ⟨rfl, t4, m4⟩
        refine q_fld (ev_var rfl) (ev_var rfl) m4.top T.c_TryFrame T.n_TryFrame_s3_pending (show 4 < 1000 by decide) fun H5 e5 => ?_
        have m5 : Ms K H0 (upd H5 x (.ins (a_TryFrame K) dx (tFs p "handler" (oV n) (.ref q)))) a (popB n s) fa lg (.tri x dx p "handler" (oV n) (.ref q) :: fr) := (m4.grow e5).setTop (f' := .tri x dx p "handler" (oV n) (.ref q)) rfl (fun xs z => by cases z)
        have t5 : TP H (upd H5 x (.ins (a_TryFrame K) dx (tFs p "handler" (oV n) (.ref q)))) := (t4.trans (ex_tp e5)).trans (TP.upd (m4.grow e5).top fun xs z => by cases z)
        refine q_cut (M := fun σ' H6 => σ' = [some (.ref x), some (.ref a.R), some (.ref a.act), some (.ref q)] ∧ TP H H6 ∧ Ms K H0 H6 a (pushE o (popB n s)) fa lg (.tri x dx p "handler" (oV n) (.ref q) :: fr)) ?_ ?_
        · refine s_when (b := o.isSome) (et_test (ev_is (ev_op (ev_op (ev_var rfl) ev_c (rv_ixT (st_of (t5 _ _ hq')) (atI_nat (j := 0) rfl))) ev_c (rv_eq rfl)) (congrArg V.bl hde))) (fun qo H6 e6 => ?_) fun qo H6 e6 => ?_
          · cases o with
            | none => exact Bool.noConfusion qo
            | some g =>
              have m6 := m5.grow e6
              have hug := hu g rfl
              subst hug
              have hl : (popB n s).hand.length ≤ s.hand.length := by show s.hand.dropLast.length ≤ _; rw [List.length_dropLast]; omega
              refine s_app m6.hand (ev_fld (ev_var rfl) m6.acti T.c_Activation T.n_Activation_s3_handled rfl) (ev_op (ev_var rfl) ev_c (rv_ixT (st_of (e6 _ _ (t5 _ _ hq'))) (atI_nat (j := 1) rfl))) (by unfold hdV; rw [List.length_map]; omega) fun H7 e7 => ⟨rfl, (t5.trans (ex_tp (e6.trans e7))).trans (TP.upd (m6.grow e7).hand fun xs z => by cases z), ?_⟩
              have eh : hdV fa (popB n s).hand ++ [refF fa g] = hdV fa ((popB n s).hand ++ [g]) := by unfold hdV; rw [List.map_append]; rfl
              rw [eh]
              exact (m6.grow e7).setHand
          · cases o with
            | none => exact ⟨rfl, t5.trans (ex_tp e6), m5.grow e6⟩
            | some g => exact Bool.noConfusion qo
        · rintro σ' H6 ⟨rfl, t6, m6⟩
          refine q_dropX (x_meth (ev_var rfl) m6.top rfl (ea_cons (ev_var rfl) (ea_cons ev_c (ea_cons (ev_op (ev_fld (ev_var rfl) m6.top T.c_TryFrame T.n_TryFrame_s3_statement rfl) ev_c (rv_ixT (st_of (t6 _ _ hp5)) (atI_nat (j := 4) rfl))) ea_nil))) fun H7 e7 => ?_)
          refine ⟨H0, a, _, fa, lg, x, dx, p, "handler", "final", oV n, .ref q, fr, e2a, rfl, m6.grow e7, hfr, fun H8 z dz m8 t8 => ?_⟩
          exact s_ret (D := { nx := fun _ H' => Q .non H', rt := Q }) ev_c fun H9 e9 => k H9 z dz e2a (e9 _ _ (t8 _ _ (e7 _ _ (t6 _ _ he2)))) (m8.grow e9)
    · obtain ⟨q', ee, u, eq', hq', hde, hu⟩ := hp.shape
      subst eq'
      refine q_when (b := false) (et_and (a := false) (b := false) (part_ "body" (Ex.refl H)) fun q => Bool.noConfusion q) (fun q => Bool.noConfusion q) fun _ H1 e1 => ?_
      refine q_when (b := false) (et_and (a := false) (b := false) (part_ "body" e1) fun q => Bool.noConfusion q) (fun q => Bool.noConfusion q) fun _ H2 e2 => ?_
      have e12 := e1.trans e2
      refine q_when (b := true) (part_ "final" e12) (fun _ H3 e3 => ?_) fun q => Bool.noConfusion q
      have e13 := e12.trans e3
      have m3 := m.grow e13
      refine q_when (b := o.isSome) (et_test (ev_is (ev_op (ev_op (ev_fld (ev_var rfl) m3.top T.c_TryFrame T.n_TryFrame_s3_pending rfl) ev_c (rv_ixT (st_of (e13 _ _ hq')) (atI_nat (j := 0) rfl))) ev_c (rv_eq rfl)) (congrArg V.bl hde))) (fun qo H4 e4 => ?_) fun qo H4 e4 => ?_
      · cases o with
        | none => exact Bool.noConfusion qo
        | some g =>
          have m4 := m3.grow e4
          refine s_pop m4.hand (hdV_ne (hne (by simp))) (ev_fld (ev_var rfl) m4.acti T.c_Activation T.n_Activation_s3_handled rfl) fun H5 e5 => ?_
          have m5 : Ms K H0 (upd H5 a.HD (.lst (hdV fa s.hand).dropLast)) a { s with hand := s.hand.dropLast } fa lg (.tri x dx p "final" nm (.ref q') :: fr) := by
            rw [hdV_drop]
            exact (m4.grow e5).setHand
          have t5 : TP H (upd H5 a.HD (.lst (hdV fa s.hand).dropLast)) := (ex_tp ((e13.trans e4).trans e5)).trans (TP.upd (m4.grow e5).hand fun xs z => by cases z)
          exact s_ret (D := { nx := fun _ H' => Q .non H', rt := Q }) (ev_if (b := true) (et_test (ev_is (ev_op (ev_op (ev_var rfl) ev_c (rv_ixT (st_of (t5 _ _ hq)) (atI_nat (j := 0) rfl))) ev_c (rv_eq rfl)) rfl)) (fun _ => ev_fld (ev_var rfl) m5.top T.c_TryFrame T.n_TryFrame_s3_pending rfl) fun q => Bool.noConfusion q) fun H6 e6 => k H6 (m5.grow e6)
      · cases o with
        | none =>
          have m4 := m3.grow e4
          exact s_ret (D := { nx := fun _ H' => Q .non H', rt := Q }) (ev_if (b := true) (et_test (ev_is (ev_op (ev_op (ev_var rfl) ev_c (rv_ixT (st_of ((e13.trans e4) _ _ hq)) (atI_nat (j := 0) rfl))) ev_c (rv_eq rfl)) rfl)) (fun _ => ev_fld (ev_var rfl) m4.top T.c_TryFrame T.n_TryFrame_s3_pending rfl) fun q => Bool.noConfusion q) fun H6 e6 => k H6 (m4.grow e6)
        | some g => exact Bool.noConfusion qo
end
end L2.EX
namespace L2.EX
open PySem PySem.Spec PyProof.Rows Evl
/-! What stays true of the machine of frames. -/
def cntB : List Fm → Nat
  | [] => 0
  | .tri0 _ _ _ :: F => cntB F + 1
  | .triB _ _ _ :: F => cntB F + 1
  | .body _ :: F => cntB F
  | .triH _ :: F => cntB F
  | .triF _ :: F => cntB F
def hcnt : List Fm → Nat
  | [] => 0
  | .triH _ :: F => hcnt F + 1
  | .triF (some _) :: F => hcnt F + 1
  | .triF none :: F => hcnt F
  | .body _ :: F => hcnt F
  | .tri0 _ _ _ :: F => hcnt F
  | .triB _ _ _ :: F => hcnt F
def msz : List Fm → Nat
  | [] => 0
  | .body r :: F => r.size + msz F
  | .tri0 _ _ h :: F => h.size + 1 + msz F
  | .triB _ _ h :: F => h.size + msz F
  | .triH _ :: F => msz F
  | .triF _ :: F => msz F
def lwt : List Fm → Nat
  | [] => 0
  | .tri0 _ _ _ :: F => lwt F + 2
  | .body _ :: F => lwt F + 1
  | .triB _ _ _ :: F => lwt F + 1
  | .triH _ :: F => lwt F + 1
  | .triF _ :: F => lwt F + 1
theorem lwt_cons (m : Fm) (F : List Fm) : lwt F + 1 ≤ lwt (m :: F) := by cases m <;> simp [lwt]
theorem lwt_len : ∀ F : List Fm, F.length ≤ lwt F
  | [] => Nat.le_refl _
  | m :: F => by
    have := lwt_len F
    have := lwt_cons m F
    rw [List.length_cons]
    omega
theorem cntB_tail (m : Fm) (F : List Fm) : cntB F ≤ cntB (m :: F) := by cases m <;> simp [cntB]
theorem msz_tail (m : Fm) (F : List Fm) : msz F ≤ msz (m :: F) := by cases m <;> simp only [msz] <;> omega
def KN (s : PS) : Prop := ∀ r ∈ s.rows, knownK r.kind
theorem KN.sub {s : PS} {rows : List FR} (h : KN s) (e : ∀ r ∈ rows, ∃ r' ∈ s.rows, r'.kind = r.kind) : KN { s with rows := rows } := fun r hr => by
  obtain ⟨r', h1, h2⟩ := e r hr
  rw [← h2]
  exact h r' h1
theorem kind_modify {rows : List FR} {i : Nat} {g : FR → FR} (hg : ∀ r, (g r).kind = r.kind) : ∀ r ∈ rows.modify i g, ∃ r' ∈ rows, r'.kind = r.kind := fun r hr => by
  obtain ⟨j, hj⟩ := List.getElem?_of_mem hr
  rw [List.getElem?_modify] at hj
  cases q : rows[j]? with
  | none => rw [q] at hj; cases hj
  | some r' =>
    rw [q] at hj
    refine ⟨r', List.mem_of_getElem? q, ?_⟩
    by_cases e : i = j
    · simp [e] at hj; rw [← hj, hg]
    · simp [e] at hj; rw [← hj]
theorem KN.raised {s : PS} (h : KN s) (f : Nat) : KN (raised s f) := by
  rw [raised_under]
  unfold under
  cases s.hand.getLast? with
  | none => exact h
  | some g =>
    show KN { s with rows := if g = f then s.rows else setCtx (setCtx s.rows (endp s.rows f g) none) f (some g) }
    by_cases e : g = f
    · rw [if_pos e]; exact h
    · rw [if_neg e]
      refine h.sub fun r hr => ?_
      obtain ⟨r1, h1, e1⟩ := kind_modify (rows := setCtx s.rows (endp s.rows f g) none) (i := f) (g := fun r => { r with ctx := some g }) (fun _ => rfl) r hr
      obtain ⟨r2, h2, e2⟩ := kind_modify (rows := s.rows) (i := endp s.rows f g) (g := fun r => { r with ctx := none }) (fun _ => rfl) r1 h1
      exact ⟨r2, h2, e2.trans e1⟩
theorem KN.made {s : PS} (h : KN s) {k l : Str} (hk : knownK k) : KN (made s k l) := fun r hr => by
  rcases List.mem_append.mp (show r ∈ s.rows ++ [(⟨k, l, none, none, false⟩ : FR)] from hr) with m | m
  · exact h r m
  · rw [List.mem_singleton.mp m]; exact hk
theorem KN.fail {s : PS} (h : KN s) {k l : Str} (hk : knownK k) : KN (fail s k l).2 := (h.made hk).raised _
theorem KN.finR {s : PS} (h : KN s) (f : Nat) (src : Option (Option Str)) : KN (finR s f src).2 := by
  cases src with
  | none => exact h.raised f
  | some o => exact KN.raised (s := { s with rows := setCause s.rows f (o.bind (bget s.board)) }) (h.sub (kind_modify fun _ => rfl)) f
theorem known_State : knownK "State" := by
  unfold knownK
  decide +kernel
theorem known_Name : knownK "Name" := by
  unfold knownK
  decide +kernel
theorem KN.execS {s : PS} (h : KN s) {x : Sim} (ok : x.Ok) : KN (execS x s).2 := by
  cases x with
  | note i => exact h
  | again =>
    show KN (match s.hand.getLast? with | some h => (some h, s) | none => EX.fail s "State" "nothing handled").2
    cases s.hand.getLast? with
    | some g => exact h
    | none => exact h.fail known_State
  | raise a l src =>
    show KN (match missing s.board src with | some n => EX.fail s "Name" n | none => EX.finR (EX.made s a l) s.rows.length src).2
    cases missing s.board src with
    | some n => exact h.fail known_Name
    | none => exact (h.made ok.1.2).finR _ src
  | throw n src =>
    show KN (match bget s.board n with | none => EX.fail s "Name" n | some f => (match missing s.board src with | some m => EX.fail s "Name" m | none => EX.finR s f src)).2
    cases bget s.board n with
    | none => exact h.fail known_Name
    | some f =>
      show KN (match missing s.board src with | some m => EX.fail s "Name" m | none => EX.finR s f src).2
      cases missing s.board src with
      | some n => exact h.fail known_Name
      | none => exact h.finR f src
def hcE : En → List Fm → Nat
  | .go, F => hcnt F
  | _, F => hcnt F.tail
structure Good (en : En) (F : List Fm) (s : PS) : Prop where
  wf : WF 0 (cntB F) s
  sz : s.steps + msz F ≤ 400
  hc : hcE en F ≤ s.hand.length
  lw : lwt F ≤ 2 * s.steps + 1
  kn : KN s
  hl : s.hand.length + cntB F ≤ s.steps
section
variable {F : List Fm} {s : PS} {x : Sim} {nm : Option Str} {h r : Bdy} {fm : Fm} {o : Option Nat} {en : En}
theorem Good.exec (g : Good .go (.body (.sim x r) :: F) s) (ok : x.Ok) : Good (match (execS x (tick s)).1 with | none => .go | some f => .flt f) (.body r :: F) (execS x (tick s)).2 := by
  have k := execS_keeps x (tick s)
  refine ⟨(g.wf.tick.execS x).mono (Nat.le_refl _) (by show cntB F ≤ cntB F + 1; omega), ?_, ?_, ?_, KN.execS (s := tick s) g.kn ok, ?_⟩
  · have := g.sz
    rw [k.1]
    show s.steps + 1 + (r.size + msz F) ≤ 400
    have : s.steps + (r.size + 1 + msz F) ≤ 400 := this
    omega
  · rw [k.2.2]
    have := g.hc
    have : hcnt F ≤ s.hand.length := this
    show _ ≤ s.hand.length
    cases (execS x (tick s)).1 <;> exact this
  · rw [k.1]
    have := g.lw
    show lwt F + 1 ≤ 2 * (s.steps + 1) + 1
    have : lwt F + 1 ≤ 2 * s.steps + 1 := this
    omega
  · rw [k.2.2, k.1]
    show s.hand.length + cntB F ≤ s.steps + 1
    have : s.hand.length + cntB F ≤ s.steps := g.hl
    omega
theorem Good.btry (g : Good .go (.body (.tri x nm h r) :: F) s) : Good .go (.tri0 x nm h :: .body r :: F) (tick s) := by
  refine ⟨g.wf.tick.mono (Nat.zero_le _) (Nat.le_refl _), ?_, g.hc, ?_, g.kn, ?_⟩
  · have : s.steps + (h.size + r.size + 2 + msz F) ≤ 400 := g.sz
    show s.steps + 1 + (h.size + 1 + (r.size + msz F)) ≤ 400
    omega
  · have : lwt F + 1 ≤ 2 * s.steps + 1 := g.lw
    show lwt F + 1 + 2 ≤ 2 * (s.steps + 1) + 1
    omega
  · show s.hand.length + (cntB F + 1) ≤ s.steps + 1
    have : s.hand.length + cntB F ≤ s.steps := g.hl
    omega
theorem Good.t0 (g : Good .go (.tri0 x nm h :: F) s) : Good .go (.body (.sim x .nil) :: .triB x nm h :: F) s := by
  refine ⟨g.wf, ?_, g.hc, g.lw, g.kn, g.hl⟩
  have : s.steps + (h.size + 1 + msz F) ≤ 400 := g.sz
  show s.steps + (0 + 1 + (h.size + msz F)) ≤ 400
  omega
theorem Good.pop (g : Good en (fm :: .body r :: F) s) (hn : en ≠ .go) (en' : En) : Good en' (.body r :: F) s := by
  refine ⟨g.wf.mono (Nat.le_refl _) (cntB_tail fm (.body r :: F)), ?_, ?_, ?_, g.kn, Nat.le_trans (Nat.add_le_add_left (cntB_tail fm (.body r :: F)) _) g.hl⟩
  · have := msz_tail fm (.body r :: F)
    have := g.sz
    omega
  · have h1 : hcnt F ≤ s.hand.length := by
      have := g.hc
      cases en with
      | go => exact absurd rfl hn
      | fin => exact this
      | flt f => exact this
    cases en' <;> exact h1
  · have := g.lw
    have := lwt_cons fm (.body r :: F)
    omega
theorem Good.ptb {f : Nat} (g : Good (.flt f) (fm :: .triB x nm h :: F) s) (hf : f < s.rows.length) : Good .go (.body h :: .triH nm :: F) (pushB nm f s) := by
  have c := cntB_tail fm (.triB x nm h :: F)
  have c2 : cntB (.triB x nm h :: F) = cntB F + 1 := rfl
  refine ⟨(g.wf.mono (k' := 0) (j' := cntB F + 1) (Nat.le_refl _) (by omega)).pushB nm hf, ?_, ?_, ?_, g.kn, ?_⟩
  · have := msz_tail fm (.triB x nm h :: F)
    have := g.sz
    show s.steps + (h.size + msz F) ≤ 400
    have : msz (.triB x nm h :: F) = h.size + msz F := rfl
    omega
  · have : hcnt F ≤ s.hand.length := g.hc
    show hcnt F + 1 ≤ (s.hand ++ [f]).length
    simp
    omega
  · have := g.lw
    have := lwt_cons fm (.triB x nm h :: F)
    show lwt F + 1 + 1 ≤ 2 * s.steps + 1
    have : lwt (.triB x nm h :: F) = lwt F + 1 := rfl
    omega
  · show (s.hand ++ [f]).length + cntB F ≤ s.steps
    have hl := g.hl
    simp
    omega
theorem Good.pth (g : Good en (fm :: .triH nm :: F) s) (hn : en ≠ .go) (ho : ∀ f, o = some f → f < s.rows.length) : Good .go (.body .nil :: .triF o :: F) (pushE o (popB nm s)) ∧ s.hand ≠ [] := by
  have c := cntB_tail fm (.triH nm :: F)
  have c2 : cntB (.triH nm :: F) = cntB F := rfl
  have hh : hcnt F + 1 ≤ s.hand.length := by
    have := g.hc
    cases en with
    | go => exact absurd rfl hn
    | fin => exact this
    | flt f => exact this
  have hne : s.hand ≠ [] := fun e => by rw [e] at hh; simp at hh
  have w2 := (g.wf.mono (k' := 0) (j' := cntB F) (Nat.le_refl _) (by omega)).popB nm
  have hl := g.hl
  have sz := g.sz
  have lw := g.lw
  have lc := lwt_cons fm (.triH nm :: F)
  have l2 : lwt (.triH nm :: F) = lwt F + 1 := rfl
  have mt := msz_tail fm (.triH nm :: F)
  have m2 : msz (.triH nm :: F) = msz F := rfl
  have dl : s.hand.dropLast.length = s.hand.length - 1 := List.length_dropLast
  refine ⟨?_, hne⟩
  cases o with
  | none =>
    refine ⟨w2, by show s.steps + (0 + msz F) ≤ 400; omega, by show hcnt F ≤ s.hand.dropLast.length; omega, by show lwt F + 1 + 1 ≤ 2 * s.steps + 1; omega, g.kn, by show s.hand.dropLast.length + cntB F ≤ s.steps; omega⟩
  | some f =>
    refine ⟨⟨w2.brd, fun i hi => ?_, w2.ctx, w2.cau, w2.rnk, w2.nr, w2.nl, w2.nb⟩, by show s.steps + (0 + msz F) ≤ 400; omega, by show hcnt F + 1 ≤ (s.hand.dropLast ++ [f]).length; simp; omega, by show lwt F + 1 + 1 ≤ 2 * s.steps + 1; omega, g.kn, by show (s.hand.dropLast ++ [f]).length + cntB F ≤ s.steps; simp; omega⟩
    rcases List.mem_append.mp (show i ∈ s.hand.dropLast ++ [f] from hi) with m | m
    · exact w2.hnd i m
    · rw [List.mem_singleton.mp m]; exact ho f rfl
theorem Good.ptf (g : Good .fin (fm :: .triF o :: F) s) : Good (En.of o) (.triF o :: F) (popE o s) ∧ (o ≠ none → s.hand ≠ []) := by
  have c := cntB_tail fm (.triF o :: F)
  have c2 : cntB (.triF o :: F) = cntB F := rfl
  have hl := g.hl
  have sz := g.sz
  have lw := g.lw
  have lc := lwt_cons fm (.triF o :: F)
  have l2 : lwt (.triF o :: F) = lwt F + 1 := rfl
  have mt := msz_tail fm (.triF o :: F)
  have m2 : msz (.triF o :: F) = msz F := rfl
  have w2 := g.wf.mono (k' := 0) (j' := cntB F) (Nat.le_refl _) (by omega)
  cases o with
  | none => exact ⟨⟨w2, by show s.steps + msz F ≤ 400; omega, g.hc, by show lwt F + 1 ≤ 2 * s.steps + 1; omega, g.kn, by show s.hand.length + cntB F ≤ s.steps; omega⟩, fun z => absurd rfl z⟩
  | some f =>
    have hh : hcnt F + 1 ≤ s.hand.length := g.hc
    have dl : s.hand.dropLast.length = s.hand.length - 1 := List.length_dropLast
    refine ⟨⟨⟨w2.brd, fun i hi => w2.hnd i (List.dropLast_subset _ hi), w2.ctx, w2.cau, w2.rnk, w2.nr, w2.nl, w2.nb⟩, by show s.steps + msz F ≤ 400; omega, by show hcnt F ≤ s.hand.dropLast.length; omega, by show lwt F + 1 ≤ 2 * s.steps + 1; omega, g.kn, by show s.hand.dropLast.length + cntB F ≤ s.steps; omega⟩, fun _ e => by rw [e] at hh; simp at hh⟩
theorem Good.bnil (g : Good .go (.body .nil :: F) s) : Good .fin (.body .nil :: F) s := ⟨g.wf, g.sz, g.hc, g.lw, g.kn, g.hl⟩
end
end L2.EX
namespace L2.EX
open PySem PySem.Spec PyProof.Rows Evl
/-! The loop over the frames: the machine runs as the plain one. -/
section
variable {K : Frg} {H0 H H' : Hp} {a : RA} {s : PS} {fa : List (Addr × Addr)} {lg : List V} {fr : List Fh}
/-- the top frame is dropped -/
theorem Ms.pop {f : Fh} (m : Ms K H0 H a s fa lg (f :: fr)) : Ms K H0 (upd H a.FR (.lst (frV (f :: fr)).dropLast)) a s fa lg fr := by
  have e : (frV (f :: fr)).dropLast = frV fr := by rw [frV_cons, List.dropLast_concat]
  rw [e]
  have w : Own H0 (upd H a.FR (.lst (frV fr))) (baseC K a s.steps (bdK fa s.board) lg (flV fa s.rows.length) (frV fr) (hdV fa s.hand) ++ (fhc K f :: (fr.map (fhc K) ++ fcells K fa s.rows))) := m.own.set 8 rfl
  exact ⟨w.erase 10, m.log.tp (TP.upd m.fral fun xs z => by cases z), m.len⟩
theorem Ms.tpPop {f : Fh} (m : Ms K H0 H a s fa lg (f :: fr)) {o : HO} : TP H (upd H a.FR o) := TP.upd m.fral fun xs z => by cases z
theorem Ms.pop2 {f : Fh} (m : Ms K H0 H a s fa lg (f :: fr)) : Ms K H0 (upd H a.FR (.lst (frV (f :: fr)).dropLast)) a s fa lg fr ∧ TP H (upd H a.FR (.lst (frV (f :: fr)).dropLast)) := ⟨m.pop, m.tpPop⟩
theorem frV_last (f : Fh) : atI (frV (f :: fr)) (-1) = some (.ref f.ad) := by
  rw [frV_cons]
  exact atI_last _ _
theorem frV_ne (f : Fh) : frV (f :: fr) ≠ [] := by
  rw [frV_cons]
  simp
end
def EnV (H : Hp) (fa : List (Addr × Addr)) (v : V) : En → Prop
  | .go => v = .non
  | .fin => EndT H fa v none
  | .flt f => EndT H fa v (some f)
theorem EnV.ne {H : Hp} {fa : List (Addr × Addr)} {v : V} {en : En} (h : EnV H fa v en) (hn : en ≠ .go) : ∃ p e u, v = .ref p ∧ H p = some (.tup [.str e, u]) ∧ (e = "end" ∨ e = "fault") := by
  cases en with
  | go => exact absurd rfl hn
  | fin => obtain ⟨p, e1, e2⟩ := h; exact ⟨p, "end", .non, e1, e2, .inl rfl⟩
  | flt f => obtain ⟨p, e1, e2⟩ := h; exact ⟨p, "fault", refF fa f, e1, e2, .inr rfl⟩
theorem EnV.of {H : Hp} {fa : List (Addr × Addr)} {v : V} {o : Option Nat} (h : EnV H fa v (En.of o)) : EndT H fa v o := by cases o <;> exact h
section
variable {w : World} {K : Frg} {mg : Str → Option Value} {base : Heap}
def adv0 (K : Frg) (a : RA) (x dx p : Addr) : List (Addr × HO) :=
  [(a.R, .ins (a_Runner K) a.dR (rFs a.T a.B a.L a.F 0 a.A)), (a.B, .dK []), (a.L, .lst []), (a.F, .lst []), (a.T, .ins (a_KindTree K) a.dT [("s1_parents", .ref a.PD)]), (a.PD, .dK kindsK), (a.A, .lst []), (a.act, .ins (a_Activation K) a.dA [("s3_frames", .ref a.FR), ("s3_handled", .ref a.HD)]), (a.FR, .lst [.ref x]), (a.HD, .lst []), (x, .ins (a_BodyFrame K) dx (bFs p 0))]
def ps0 : PS := ⟨[], [], [], [], 0⟩
/-- the whole run -/
def sp_advance (K : Frg) : Sp := fun vs H Q _ => ∃ H0 a x dx p us b, vs = [.ref a.R, .ref a.act, .non] ∧ Own H0 H (adv0 K a x dx p) ∧ H p = some (.tup us) ∧ us.length ≤ 1000 ∧ BdyT H us b ∧ b.hot = true ∧ b.size ≤ 300 ∧
  ∀ H' fa lg fr v, Own H0 H' ((cells K a (exec b ps0).2 fa lg fr).set 6 (a.A, .lst [])) → LogOk H' lg (exec b ps0).2.log → fa.length = (exec b ps0).2.rows.length → EndT H' fa v (exec b ps0).1 → Q v H'
theorem good0 {b : Bdy} (h : b.size ≤ 300) : Good .go [.body b] ps0 := ⟨⟨(fun p hp => absurd hp List.not_mem_nil), (fun p hp => absurd hp List.not_mem_nil), (fun i c q => by cases q), (fun i r c q => by cases q), ⟨fun _ => 0, fun i c q => by cases q⟩, Nat.le_refl _, Nat.le_refl _, Nat.le_refl _⟩, (by show 0 + (b.size + 0) ≤ 400; omega), Nat.le_refl _, Nat.le_refl _, (fun r hr => absurd hr List.not_mem_nil), Nat.le_refl _⟩
def AdvW (K : Frg) (H0 : Hp) (a : RA) (b : Bdy) (m : Nat) (σ' : L2.St) (H' : Hp) : Prop := ∃ fa lg s en frs fms v, Run (exec b ps0) m en fms s ∧ σ' = [some (.ref a.R), some (.ref a.act), some v, some (.ref a.FR)] ∧ Ms K H0 H' a s fa lg frs ∧ FmsOk H' fa frs fms ∧ EnV H' fa v en ∧ Good en fms s ∧ ∀ f, en = .flt f → f < s.rows.length
theorem FmsOk.len {H : Hp} {fa : List (Addr × Addr)} {fs : List Fh} {ms : List Fm} (h : FmsOk H fa fs ms) : fs.length = ms.length := by
  induction h with
  | nil => rfl
  | cons _ _ ih => simp [ih]
theorem AdvW.of {K : Frg} {H0 : Hp} {a : RA} {b : Bdy} {m m' : Nat} {H' : Hp} {fa : List (Addr × Addr)} {lg : List V} {s : PS} {en : En} {frs : List Fh} {fms : List Fm} {v : V} (lt : m' < m) (r : Run (exec b ps0) m' en fms s) (ms : Ms K H0 H' a s fa lg frs) (fo : FmsOk H' fa frs fms) (ev : EnV H' fa v en) (g : Good en fms s) (hf : ∀ f, en = .flt f → f < s.rows.length) :
    ∃ m'', m'' < m ∧ AdvW K H0 a b m'' [some (.ref a.R), some (.ref a.act), some v, some (.ref a.FR)] H' := ⟨m', lt, fa, lg, s, en, frs, fms, v, r, rfl, ms, fo, ev, g, hf⟩
theorem ok_Runner_s3_advance (T : Tx w K mg) (F_BodyFrame_step : FOk PW w K mg base 11 (f_BodyFrame_step K) ["self", "runner", "activation"] [] (sp_bstep K)) (F_TryFrame_step : FOk PW w K mg base 4 (f_TryFrame_step K) ["self", "runner", "activation"] [] (sp_tstep K))
    (F_BodyFrame_ended : FOk PW w K mg base 1 (f_BodyFrame_ended K) ["self", "runner", "activation", "ending"] [] (sp_bended K)) (F_TryFrame_ended : FOk PW w K mg base 5 (f_TryFrame_ended K) ["self", "runner", "activation", "ending"] [] (sp_tended K)) :
    FOk PW w K mg base 12 (f_Runner_s3_advance K) ["self", "activation", "ending"] [.non] (sp_advance K) := by
  obtain ⟨fd, F⟩ := T.d_Runner_s3_advance
  obtain ⟨ds, hd, hb⟩ := FunD.binds1 (ps := ["self", "activation", "ending"]) F 2 0 (show ([V.non] : List V) ≠ [] from List.cons_ne_nil _ _) rfl (fun T kV doc pm an cdv ct us its hl hi => by
    match us, hl, its, hi with
    | [u1, u2], _, [i1], _ => exact ⟨_, rfl, rfl⟩)
  refine ⟨⟨fd, ds, F.ok sc_Runner_s3_advance (fun vs H Q E h => ?_) (fun cdv A outer s H vs Q E hr h => ?_), hb, hd⟩, F.kp⟩
  · obtain ⟨H0, a, x, dx, p, us, b, rfl, _⟩ := h
    rfl
  · obtain ⟨H0, a, x, dx, p, us, b, rfl, w0, hp, hus, bd, hot, hsz, k⟩ := h
    refine ⟨_, (PSs.nox (pss_cons (ps_if (pt_cmpR op_gt (pe_callB call_len rfl T.z_len boot_len (pa_cons (pe_fld (pv 0) rfl) pa_nil)) (pe_gint rfl T.i_MOST_FUNCTIONS) (nomark _)) (pss_one ps_never) pss_nil) (pss_cons (ps_expr (pe_bm PySem.F.plainAttrs_list PySem.F.slot_list_append PySem.F.type_list_append mt_append (pe_fld (pv 0) rfl) (pa_cons (pv 1) pa_nil))) (pss_cons (ps_if (pt_cmpR op_notN (pv 2) pe_non (nomark _)) (pss_one ps_never) pss_nil) (pss_cons (ps_set (i := 3) sc_Runner_s3_advance.nd rfl (Or.inl rfl) (pe_fld (pv 1) rfl)) (pss_cons (ps_while PassesOwn.never (PW.pt (pw_or (pt_cmpR op_isN (pv 2) pe_non (nomark _)) (pw_or1 (pt_cmpR op_ne (pe_ix ix_tup (pv 2) pe_int (fun _ _ => rfl)) pe_str (nomark _))))) (pss_one (ps_if (pt_cmpR op_isN (pv 2) pe_non (nomark _)) (pss_one (ps_set (i := 2) sc_Runner_s3_advance.nd rfl (Or.inl rfl) (pe_alt (pk_meth (pe_ix ix_list (pv 3) (pe_un un_neg pe_int) (fun _ _ => rfl)) T.c_BodyFrame T.m_BodyFrame_step F_BodyFrame_step hr (pa_cons (pv 0) (pa_cons (pv 1) pa_nil))) (pk_meth (pe_ix ix_list (pv 3) (pe_un un_neg pe_int) (fun _ _ => rfl)) T.c_TryFrame T.m_TryFrame_step F_TryFrame_step hr (pa_cons (pv 0) (pa_cons (pv 1) pa_nil)))))) (pss_cons (ps_expr (pe_bm0 PySem.F.plainAttrs_list PySem.F.slot_list_pop PySem.F.type_list_pop mt_pop (pv 3))) (pss_cons (ps_if (pt_cmpR (op_eqLE hr.units0) (pv 3) (pe_lst pa_nil) (nomark _)) (pss_one ps_break) pss_nil) (pss_one (ps_set (i := 2) sc_Runner_s3_advance.nd rfl (Or.inl rfl) (pe_alt (pk_meth (pe_ix ix_list (pv 3) (pe_un un_neg pe_int) (fun _ _ => rfl)) T.c_BodyFrame T.m_BodyFrame_ended F_BodyFrame_ended hr (pa_cons (pv 0) (pa_cons (pv 1) (pa_cons (pv 2) pa_nil)))) (pk_meth (pe_ix ix_list (pv 3) (pe_un un_neg pe_int) (fun _ _ => rfl)) T.c_TryFrame T.m_TryFrame_ended F_TryFrame_ended hr (pa_cons (pv 0) (pa_cons (pv 1) (pa_cons (pv 2) pa_nil)))))))))))) (pss_cons (ps_expr (pe_bm0 PySem.F.plainAttrs_list PySem.F.slot_list_pop PySem.F.type_list_pop mt_pop (pe_fld (pv 0) rfl))) (pss_one (ps_ret (pv 2)))))))))), ?_⟩
    refine q_when (b := false) (et_is (et_test (ev_op (ev_cb (ea_cons (ev_fld (ev_var rfl) (w0.get 0 rfl) T.c_Runner T.n_Runner_s3_active rfl) ea_nil) (rc_len fun H5 e5 => .inl ⟨_, sq_of (e5 _ _ (w0.get 6 rfl)), rfl⟩)) ev_c rv_I0)) rfl) (fun q => Bool.noConfusion q) fun _ H1 e1 => ?_
    have w1 := w0.grow e1
    refine q_app (w1.get 6 rfl) (ev_fld (ev_var rfl) (w1.get 0 rfl) T.c_Runner T.n_Runner_s3_active rfl) (ev_var rfl) (by decide) fun H2 e2 => ?_
    have m2 : Ms K H0 (upd H2 a.A (.lst ([] ++ [.ref a.act]))) a ps0 [] [] [.body x dx p 0] := ⟨(w1.grow e2).set 6 rfl, .nil, rfl⟩
    have t2 : TP H (upd H2 a.A (.lst ([] ++ [.ref a.act]))) := (ex_tp (e1.trans e2)).trans (TP.upd (u := .lst []) ((w1.grow e2).get 6 rfl) fun xs z => by cases z)
    refine q_when (b := false) (et_test (ev_op (ev_var rfl) ev_c rv_notN)) (fun q => Bool.noConfusion q) fun _ H3 e3 => ?_
    have m3 := m2.grow e3
    refine q_asg (ev_fld (ev_var rfl) m3.acti T.c_Activation T.n_Activation_s3_frames rfl) fun H4 e4 => ?_
    have m4 := m3.grow e4
    have t4 := t2.trans (ex_tp (e3.trans e4))
    obtain ⟨n0, run0⟩ := run_all b ps0 hot
    refine q_while (AdvW K H0 a b) n0 ⟨[], [], ps0, .go, _, _, .non, run0, rfl, m4, .cons ⟨us, t4 _ _ hp, Nat.zero_le _, hus, by rw [List.drop_zero]; exact bd.tp t4⟩ .nil, rfl, good0 hsz, fun f q => by cases q⟩ ?_
    rintro n σ' H' ⟨fa, lg, s, en, frs, fms, v, hrun, rfl, m, fo, ev, g, hfl⟩
    have hfrl : frs.length ≤ 900 := by
      have := fo.len
      have := lwt_len fms
      have := g.lw
      have := g.sz
      omega
    have hst : s.steps ≤ 400 := by have := g.sz; omega
    refine ⟨true, ?_, fun _ H5 e5 => ⟨_, fun σ2 H2 q => q, ?_⟩, fun q => Bool.noConfusion q⟩
    · by_cases hn : en = .go
      · subst hn
        cases (show v = .non from ev)
        exact et_or (a := true) (b := true) (et_test (ev_op (ev_var rfl) ev_c rv_isN)) fun q => Bool.noConfusion q
      · obtain ⟨q, e, u, rfl, hq, he⟩ := ev.ne hn
        exact et_or (a := false) (b := true) (et_test (ev_op (ev_var rfl) ev_c rv_isN)) fun _ => et_test (ev_is (ev_op (ev_op (ev_var rfl) ev_c (rv_ixT (st_of hq) (atI_nat (j := 0) rfl))) ev_c (rv_ne rfl)) (by rcases he with rfl | rfl <;> rfl))
    · have m5 := m.grow e5
      have fo5 := fo.go (ex_tp e5) (List.prefix_refl fa)
      have wf0 : WF 0 0 s := g.wf.mono (Nat.le_refl _) (Nat.zero_le _)
      have top : ∀ {f : Fh} {fr : List Fh} {H6 : Hp}, Ms K H0 H6 a s fa lg (f :: fr) → Evl.Ev (tOp (rIxL K) (tVar 3) (tUn (rU fun i => .int (-i)) (tC (.int 1)))) [some (.ref a.R), some (.ref a.act), some v, some (.ref a.FR)] H6 (.ref f.ad) := fun m6 => ev_op (ev_var rfl) (ev_un ev_c ru_neg) (rv_ixL (sq_of m6.fral) (frV_last _))
      cases hrun with
      | @last o _ _ h =>
        obtain ⟨q, ee, u, rfl, hq, _⟩ := ev.ne (by cases o <;> (intro z; cases z))
        cases fo5 with
        | cons hf0 ht0 =>
          cases ht0
          refine s_if (b := false) (et_test (ev_op (ev_var rfl) ev_c rv_isN)) (fun q => Bool.noConfusion q) fun _ H6 e6 => ?_
          have m6 := m5.grow e6
          refine q_pop m6.fral (frV_ne _) (ev_var rfl) fun H7 e7 => ?_
          obtain ⟨m7, t70⟩ := (m6.grow e7).pop2
          have t7 := (ex_tp (e6.trans e7)).trans t70
          refine q_when (b := true) (et_test (ev_is (ev_opL (ev_var rfl) (el_lst ea_nil (Nat.zero_le _)) fun q' H8 h8 e8 => rv_eqL (sq_of (e8 _ _ m7.fral)) (sq_of h8)) rfl)) (fun _ H8 e8 => ?_) fun q => Bool.noConfusion q
          have m8 := m7.grow e8
          have t8 := t7.trans (ex_tp e8)
          have hev : EndT H8 fa (.ref q) o := EndT.tp ((ex_tp e5).trans t8) ev.of
          refine q_pop (tz := tRet (tVar 2)) (D := { nx := fun _ H' => Q .non H', rt := Q }) m8.actl (List.cons_ne_nil _ _) (ev_fld (ev_var rfl) m8.runner T.c_Runner T.n_Runner_s3_active rfl) fun H9 e9 => ?_
          have m9 := m8.grow e9
          have w9 : Own H0 (upd H9 a.A (.lst [])) ((cells K a s fa lg []).set 6 (a.A, .lst [])) := m9.own.set 6 rfl
          have t9 : TP H9 (upd H9 a.A (.lst [])) := TP.upd m9.actl fun xs z => by cases z
          refine s_ret (ev_var rfl) fun H10 e10 => ?_
          have k := k H10 fa lg [] (.ref q)
          rw [h] at k
          exact k (w9.grow e10) ((m9.log.tp t9).tp (ex_tp e10)) m.len (((hev.tp (ex_tp e9)).tp t9).tp (ex_tp e10))
      | bnil kr =>
        cases (show v = .non from ev)
        refine s_if (b := true) (et_test (ev_op (ev_var rfl) ev_c rv_isN)) (fun _ H6 e6 => ?_) fun q => Bool.noConfusion q
        have m6 := m5.grow e6
        have fo6 := fo5.go (ex_tp e6) (List.prefix_refl fa)
        cases fo6 with
        | cons hf ht =>
          rename_i f fs
          cases f with
          | tri => exact hf.elim
          | body x dx p i =>
            obtain ⟨us, b1, b2, b3, b4⟩ := hf
            refine Or.inl (x_meth (top m6) m6.top rfl (ea_cons (ev_var rfl) (ea_cons (ev_var rfl) ea_nil)) fun H7 e7 => ?_)
            refine ⟨H0, a, s, fa, lg, x, dx, p, i, fs, us, .nil, rfl, m6.grow e7, e7 _ _ b1, b2, b3, by rw [List.length_cons] at hfrl; omega, b4.tp (ex_tp e7), wf0, by omega, fun H8 v8 m8 ev8 t8 => ?_⟩
            exact AdvW.of (Nat.lt_succ_self _) kr m8 (.cons ⟨us, t8 _ _ (e7 _ _ b1), b2, b3, (b4.tp (ex_tp e7)).tp t8⟩ (ht.go ((ex_tp e7).trans t8) (List.prefix_refl _))) ev8 g.bnil fun f q => by cases q
      | @bnote _ xx rr _ _ _ e kr =>
        cases (show v = .non from ev)
        refine s_if (b := true) (et_test (ev_op (ev_var rfl) ev_c rv_isN)) (fun _ H6 e6 => ?_) fun q => Bool.noConfusion q
        have m6 := m5.grow e6
        have fo6 := fo5.go (ex_tp e6) (List.prefix_refl fa)
        cases fo6 with
        | cons hf ht =>
          rename_i f fs
          cases f with
          | tri => exact hf.elim
          | body x dx p i =>
            obtain ⟨us, b1, b2, b3, b4⟩ := hf
            refine Or.inl (x_meth (top m6) m6.top rfl (ea_cons (ev_var rfl) (ea_cons (ev_var rfl) ea_nil)) fun H7 e7 => ?_)
            generalize hdr : us.drop i = ds at b4
            cases b4 with
            | sim hx ok bt =>
              have hlt : i < us.length := by
                by_cases z : i < us.length
                · exact z
                · rw [List.drop_eq_nil_of_le (by omega)] at hdr
                  cases hdr
              have hdr1 := List.drop_eq_getElem_cons hlt
              rw [hdr] at hdr1
              injection hdr1 with _ hdr1
              have gx := Good.exec g ok
              have wlt := fun f => execS_lt g.wf.tick xx (f := f)
              rw [e] at gx wlt
              refine ⟨H0, a, s, fa, lg, x, dx, p, i, fs, us, .sim xx rr, rfl, m6.grow e7, e7 _ _ b1, b2, b3, by rw [List.length_cons] at hfrl; omega, by rw [hdr]; exact .sim (e7 _ _ hx) ok (bt.tp (ex_tp e7)), wf0, by omega, fun H8 fa8 lg8 v8 pre m8 ov t8 => ?_⟩
              rw [e] at m8 ov
              have tt := (ex_tp e7).trans t8
              exact AdvW.of (Nat.lt_succ_self _) kr m8 (.cons ⟨us, tt _ _ b1, hlt, b3, by rw [← hdr1]; exact bt.tp tt⟩ (ht.go tt pre)) ov gx (fun f q => by cases q)
      | @bflt _ _ xx rr _ _ _ e kr =>
        cases (show v = .non from ev)
        refine s_if (b := true) (et_test (ev_op (ev_var rfl) ev_c rv_isN)) (fun _ H6 e6 => ?_) fun q => Bool.noConfusion q
        have m6 := m5.grow e6
        have fo6 := fo5.go (ex_tp e6) (List.prefix_refl fa)
        cases fo6 with
        | cons hf ht =>
          rename_i f fs
          cases f with
          | tri => exact hf.elim
          | body x dx p i =>
            obtain ⟨us, b1, b2, b3, b4⟩ := hf
            refine Or.inl (x_meth (top m6) m6.top rfl (ea_cons (ev_var rfl) (ea_cons (ev_var rfl) ea_nil)) fun H7 e7 => ?_)
            generalize hdr : us.drop i = ds at b4
            cases b4 with
            | sim hx ok bt =>
              have hlt : i < us.length := by
                by_cases z : i < us.length
                · exact z
                · rw [List.drop_eq_nil_of_le (by omega)] at hdr
                  cases hdr
              have hdr1 := List.drop_eq_getElem_cons hlt
              rw [hdr] at hdr1
              injection hdr1 with _ hdr1
              have gx := Good.exec g ok
              have wlt := fun f => execS_lt g.wf.tick xx (f := f)
              rw [e] at gx wlt
              refine ⟨H0, a, s, fa, lg, x, dx, p, i, fs, us, .sim xx rr, rfl, m6.grow e7, e7 _ _ b1, b2, b3, by rw [List.length_cons] at hfrl; omega, by rw [hdr]; exact .sim (e7 _ _ hx) ok (bt.tp (ex_tp e7)), wf0, by omega, fun H8 fa8 lg8 v8 pre m8 ov t8 => ?_⟩
              rw [e] at m8 ov
              have tt := (ex_tp e7).trans t8
              exact AdvW.of (Nat.lt_succ_self _) kr m8 (.cons ⟨us, tt _ _ b1, hlt, b3, by rw [← hdr1]; exact bt.tp tt⟩ (ht.go tt pre)) ov gx (fun f q => by cases q; exact wlt _ rfl)
      | @btry _ xx nm hh rr _ _ kr =>
        cases (show v = .non from ev)
        refine s_if (b := true) (et_test (ev_op (ev_var rfl) ev_c rv_isN)) (fun _ H6 e6 => ?_) fun q => Bool.noConfusion q
        have m6 := m5.grow e6
        have fo6 := fo5.go (ex_tp e6) (List.prefix_refl fa)
        cases fo6 with
        | cons hf ht =>
          rename_i f fs
          cases f with
          | tri => exact hf.elim
          | body x dx p i =>
            obtain ⟨us, b1, b2, b3, b4⟩ := hf
            refine Or.inl (x_meth (top m6) m6.top rfl (ea_cons (ev_var rfl) (ea_cons (ev_var rfl) ea_nil)) fun H7 e7 => ?_)
            generalize hdr : us.drop i = ds at b4
            cases b4 with
            | tri hp2 hb2 hq2 ok hh2 hh12 hhb2 hw2 th he1 he2 bt =>
              rename_i p2 b2' q2 hs2 h12 h22 e12 e22 ws vs
              have hlt : i < us.length := by
                by_cases z : i < us.length
                · exact z
                · rw [List.drop_eq_nil_of_le (by omega)] at hdr
                  cases hdr
              have hdr1 := List.drop_eq_getElem_cons hlt
              rw [hdr] at hdr1
              injection hdr1 with hd0 hdr1
              refine ⟨H0, a, s, fa, lg, x, dx, p, i, fs, us, .tri xx nm hh rr, rfl, m6.grow e7, e7 _ _ b1, b2, b3, by rw [List.length_cons] at hfrl; omega, by rw [hdr]; exact .tri (e7 _ _ hp2) (e7 _ _ hb2) (e7 _ _ hq2) ok (e7 _ _ hh2) (e7 _ _ hh12) (e7 _ _ hhb2) hw2 (th.tp (ex_tp e7)) (e7 _ _ he1) (e7 _ _ he2) (bt.tp (ex_tp e7)), wf0, by omega, fun H8 x2 dx2 p2' hp2' m8 t8 => ?_⟩
              have tt := (ex_tp e7).trans t8
              have ep : p2' = p2 := by
                rw [List.getElem?_eq_getElem hlt, ← hd0] at hp2'
                exact (V.ref.inj (Option.some.inj hp2')).symm
              subst ep
              exact AdvW.of (v := .non) (Nat.lt_succ_self _) kr m8 (.cons ⟨rfl, rfl, rfl, b2', q2, hs2, h12, h22, e12, e22, ws, tt _ _ hp2, tt _ _ hb2, tt _ _ hq2, ok, tt _ _ hh2, tt _ _ hh12, tt _ _ hhb2, hw2, th.tp tt, tt _ _ he2⟩ (.cons ⟨us, tt _ _ b1, hlt, b3, by rw [← hdr1]; exact bt.tp tt⟩ (ht.go tt (List.prefix_refl fa)))) rfl g.btry fun f q => by cases q
      | @t0 _ xx nm hh _ _ kr =>
        cases (show v = .non from ev)
        refine s_if (b := true) (et_test (ev_op (ev_var rfl) ev_c rv_isN)) (fun _ H6 e6 => ?_) fun q => Bool.noConfusion q
        have m6 := m5.grow e6
        have fo6 := fo5.go (ex_tp e6) (List.prefix_refl fa)
        cases fo6 with
        | cons hf ht =>
          rename_i f fs
          cases f with
          | body => exact hf.elim
          | tri x dx p part nn pend =>
            obtain ⟨rfl, rfl, rfl, tri⟩ := hf
            refine Or.inr (x_meth (top m6) m6.top rfl (ea_cons (ev_var rfl) (ea_cons (ev_var rfl) ea_nil)) fun H7 e7 => ?_)
            refine ⟨H0, a, s, fa, lg, x, dx, p, fs, xx, nm, hh, rfl, m6.grow e7, by rw [List.length_cons] at hfrl; omega, tri.tp (ex_tp e7), fun H8 z dz bb qq hb8 hq8 m8 t8 => ?_⟩
            have tt := (ex_tp e7).trans t8
            have tri8 := tri.tp tt
            have ok : xx.Ok := by obtain ⟨_, _, _, _, _, _, _, _, _, _, _, ok, _⟩ := tri; exact ok
            exact AdvW.of (v := .non) (Nat.lt_succ_self _) kr m8 (.cons ⟨[.ref qq], hb8, Nat.zero_le _, (show 1 ≤ 1000 by decide), .sim hq8 ok .nil⟩ (.cons ⟨rfl, rfl, rfl, tri8⟩ (ht.go tt (List.prefix_refl fa)))) rfl g.t0 fun f q => by cases q
      | @pb0 _ _ rr _ _ kr =>
        obtain ⟨q, ee, u, rfl, hq, _⟩ := ev.ne (by intro z; cases z)
        cases fo5 with
        | cons hf0 ht0 =>
          cases ht0 with
          | cons hf1 ht1 =>
            rename_i f0 _ f1 fs
            refine s_if (b := false) (et_test (ev_op (ev_var rfl) ev_c rv_isN)) (fun q => Bool.noConfusion q) fun _ H6 e6 => ?_
            have m6 := m5.grow e6
            refine q_pop m6.fral (frV_ne _) (ev_var rfl) fun H7 e7 => ?_
            obtain ⟨m7, t70⟩ := (m6.grow e7).pop2
            have t7 := (ex_tp (e6.trans e7)).trans t70
            refine q_when (b := false) (et_test (ev_is (ev_opL (ev_var rfl) (el_lst ea_nil (Nat.zero_le _)) fun q' H8 h8 e8 => rv_eqL (sq_of (e8 _ _ m7.fral)) (sq_of h8)) (congrArg V.bl (List.isEmpty_eq_false_iff.mpr (frV_ne _))))) (fun q => Bool.noConfusion q) fun _ H8 e8 => ?_
            have m8 := m7.grow e8
            have t8 := t7.trans (ex_tp e8)
            have hf8 := hf1.go t8 (List.prefix_refl fa)
            have ht8 := ht1.go t8 (List.prefix_refl fa)
            have hq8 : H8 q = some (.tup [.str ee, u]) := t8 _ _ (e5 _ _ hq)
            have hfs : fs.length ≤ 900 := by rw [List.length_cons, List.length_cons] at hfrl; omega
            cases f1 with
            | tri => exact hf8.elim
            | body x dx p i =>
              have hee : ee = "end" := by
                obtain ⟨q3, z1, z2⟩ := ev
                cases z1
                rw [hq] at z2
                injection z2 with z2
                injection z2 with z2
                injection z2 with z2
                exact V.str.inj z2
              refine Or.inl (ev_meth (top m8) m8.top rfl (ea_cons (ev_var rfl) (ea_cons (ev_var rfl) (ea_cons (ev_var rfl) ea_nil))) (pur_v fun H9 e9 => ⟨x, a.R, a.act, q, ee, u, rfl, e9 _ _ hq8, rfl⟩) H8 (Ex.refl H8) _ fun H9 e9 => ?_)
              rw [if_pos hee]
              exact AdvW.of (Nat.lt_succ_self _) kr (m8.grow e9) ((FmsOk.cons hf8 ht8).go (ex_tp e9) (List.prefix_refl fa)) rfl (g.pop (by intro z; cases z) .go) fun f q => by cases q
      | @pbf _ ff _ rr _ _ kr =>
        obtain ⟨q, ee, u, rfl, hq, _⟩ := ev.ne (by intro z; cases z)
        cases fo5 with
        | cons hf0 ht0 =>
          cases ht0 with
          | cons hf1 ht1 =>
            rename_i f0 _ f1 fs
            refine s_if (b := false) (et_test (ev_op (ev_var rfl) ev_c rv_isN)) (fun q => Bool.noConfusion q) fun _ H6 e6 => ?_
            have m6 := m5.grow e6
            refine q_pop m6.fral (frV_ne _) (ev_var rfl) fun H7 e7 => ?_
            obtain ⟨m7, t70⟩ := (m6.grow e7).pop2
            have t7 := (ex_tp (e6.trans e7)).trans t70
            refine q_when (b := false) (et_test (ev_is (ev_opL (ev_var rfl) (el_lst ea_nil (Nat.zero_le _)) fun q' H8 h8 e8 => rv_eqL (sq_of (e8 _ _ m7.fral)) (sq_of h8)) (congrArg V.bl (List.isEmpty_eq_false_iff.mpr (frV_ne _))))) (fun q => Bool.noConfusion q) fun _ H8 e8 => ?_
            have m8 := m7.grow e8
            have t8 := t7.trans (ex_tp e8)
            have hf8 := hf1.go t8 (List.prefix_refl fa)
            have ht8 := ht1.go t8 (List.prefix_refl fa)
            have hq8 : H8 q = some (.tup [.str ee, u]) := t8 _ _ (e5 _ _ hq)
            have hfs : fs.length ≤ 900 := by rw [List.length_cons, List.length_cons] at hfrl; omega
            cases f1 with
            | tri => exact hf8.elim
            | body x dx p i =>
              have ev0 := ev
              have hee : ee = "fault" := by
                obtain ⟨q3, z1, z2⟩ := ev0
                cases z1
                rw [hq] at z2
                injection z2 with z2
                injection z2 with z2
                injection z2 with z2
                exact V.str.inj z2
              refine Or.inl (ev_meth (top m8) m8.top rfl (ea_cons (ev_var rfl) (ea_cons (ev_var rfl) (ea_cons (ev_var rfl) ea_nil))) (pur_v fun H9 e9 => ⟨x, a.R, a.act, q, ee, u, rfl, e9 _ _ hq8, rfl⟩) H8 (Ex.refl H8) _ fun H9 e9 => ?_)
              rw [if_neg (by rw [hee]; decide)]
              exact AdvW.of (en := .flt ff) (Nat.lt_succ_self _) kr (m8.grow e9) ((FmsOk.cons hf8 ht8).go (ex_tp e9) (List.prefix_refl fa)) (EndT.tp (o := some ff) (((ex_tp e5).trans t8).trans (ex_tp e9)) ev) (g.pop (by intro z; cases z) (.flt ff)) hfl
      | @ptb _ ff _ xx nm hh _ _ kr =>
        obtain ⟨q, ee, u, rfl, hq, _⟩ := ev.ne (by intro z; cases z)
        cases fo5 with
        | cons hf0 ht0 =>
          cases ht0 with
          | cons hf1 ht1 =>
            rename_i f0 _ f1 fs
            refine s_if (b := false) (et_test (ev_op (ev_var rfl) ev_c rv_isN)) (fun q => Bool.noConfusion q) fun _ H6 e6 => ?_
            have m6 := m5.grow e6
            refine q_pop m6.fral (frV_ne _) (ev_var rfl) fun H7 e7 => ?_
            obtain ⟨m7, t70⟩ := (m6.grow e7).pop2
            have t7 := (ex_tp (e6.trans e7)).trans t70
            refine q_when (b := false) (et_test (ev_is (ev_opL (ev_var rfl) (el_lst ea_nil (Nat.zero_le _)) fun q' H8 h8 e8 => rv_eqL (sq_of (e8 _ _ m7.fral)) (sq_of h8)) (congrArg V.bl (List.isEmpty_eq_false_iff.mpr (frV_ne _))))) (fun q => Bool.noConfusion q) fun _ H8 e8 => ?_
            have m8 := m7.grow e8
            have t8 := t7.trans (ex_tp e8)
            have hf8 := hf1.go t8 (List.prefix_refl fa)
            have ht8 := ht1.go t8 (List.prefix_refl fa)
            have hq8 : H8 q = some (.tup [.str ee, u]) := t8 _ _ (e5 _ _ hq)
            have hfs : fs.length ≤ 900 := by rw [List.length_cons, List.length_cons] at hfrl; omega
            cases f1 with
            | body => exact hf8.elim
            | tri x dx p part nn pend =>
              obtain ⟨rfl, rfl, rfl, tri⟩ := hf8
              have hq9 : H8 q = some (.tup [.str "fault", refF fa ff]) := by
                obtain ⟨q3, z1, z2⟩ := ev
                cases z1
                exact t8 _ _ (e5 _ _ z2)
              obtain ⟨r, hr1⟩ := row_at (hfl ff rfl)
              have hbl : s.board.length ≤ 1000 := by have := wf0.nb; omega
              have hhl : s.hand.length ≤ 1000 := by have := g.hl; omega
              refine Or.inr (x_meth (top m8) m8.top rfl (ea_cons (ev_var rfl) (ea_cons (ev_var rfl) (ea_cons (ev_var rfl) ea_nil))) fun H9 e9 => ?_)
              refine ⟨H0, a, s, fa, lg, x, dx, p, "body", .non, .non, fs, q, rfl, m8.grow e9, hfs, hbl, hhl, .inl ⟨xx, nm, hh, ff, r, rfl, rfl, rfl, tri.tp (ex_tp e9), e9 _ _ hq9, hr1, g.kn r (List.mem_of_getElem? hr1), fun H10 z dz bp ws b1 b2 b3 m10 t10 => ?_⟩⟩
              have tt := (ex_tp e9).trans t10
              have te : TriE H10 p := by
                obtain ⟨b, q, hs, h1, hb, e1, e2, ws, a1, a2, a3, a4, a5, a6, a7, a8, a9, a10⟩ := tri
                exact ⟨_, _, _, e2, tt _ _ a1, tt _ _ a10⟩
              exact AdvW.of (v := .non) (Nat.lt_succ_self _) kr m10 (.cons ⟨ws, b1, Nat.zero_le _, b2, by rw [List.drop_zero]; exact b3⟩ (.cons ⟨rfl, rfl, te⟩ (ht8.go tt (List.prefix_refl fa)))) rfl (g.ptb (hfl ff rfl)) fun f q => by cases q
      | @pth _ o _ nm _ _ kr =>
        obtain ⟨q, ee, u, rfl, hq, _⟩ := ev.ne (by cases o <;> (intro z; cases z))
        cases fo5 with
        | cons hf0 ht0 =>
          cases ht0 with
          | cons hf1 ht1 =>
            rename_i f0 _ f1 fs
            refine s_if (b := false) (et_test (ev_op (ev_var rfl) ev_c rv_isN)) (fun q => Bool.noConfusion q) fun _ H6 e6 => ?_
            have m6 := m5.grow e6
            refine q_pop m6.fral (frV_ne _) (ev_var rfl) fun H7 e7 => ?_
            obtain ⟨m7, t70⟩ := (m6.grow e7).pop2
            have t7 := (ex_tp (e6.trans e7)).trans t70
            refine q_when (b := false) (et_test (ev_is (ev_opL (ev_var rfl) (el_lst ea_nil (Nat.zero_le _)) fun q' H8 h8 e8 => rv_eqL (sq_of (e8 _ _ m7.fral)) (sq_of h8)) (congrArg V.bl (List.isEmpty_eq_false_iff.mpr (frV_ne _))))) (fun q => Bool.noConfusion q) fun _ H8 e8 => ?_
            have m8 := m7.grow e8
            have t8 := t7.trans (ex_tp e8)
            have hf8 := hf1.go t8 (List.prefix_refl fa)
            have ht8 := ht1.go t8 (List.prefix_refl fa)
            have hq8 : H8 q = some (.tup [.str ee, u]) := t8 _ _ (e5 _ _ hq)
            have hfs : fs.length ≤ 900 := by rw [List.length_cons, List.length_cons] at hfrl; omega
            cases f1 with
            | body => exact hf8.elim
            | tri x dx p part nn pend =>
              obtain ⟨rfl, rfl, tri⟩ := hf8
              have hev : EndT H8 fa (.ref q) o := EndT.tp ((ex_tp e5).trans t8) ev.of
              have hob : ∀ f, o = some f → f < s.rows.length := fun f z => hfl f (by rw [z]; rfl)
              have gp := g.pth (o := o) (by cases o <;> (intro z; cases z)) hob
              have hbl : s.board.length ≤ 1000 := by have := wf0.nb; omega
              have hhl : s.hand.length ≤ 1000 := by have := g.hl; omega
              refine Or.inr (x_meth (top m8) m8.top rfl (ea_cons (ev_var rfl) (ea_cons (ev_var rfl) (ea_cons (ev_var rfl) ea_nil))) fun H9 e9 => ?_)
              refine ⟨H0, a, s, fa, lg, x, dx, p, "handler", oV nm, pend, fs, q, rfl, m8.grow e9, hfs, hbl, hhl, .inr (.inl ⟨nm, o, rfl, rfl, ?_, hev.tp (ex_tp e9), gp.2, fun H10 z dz bp b1 m10 t10 => ?_⟩)⟩
              · obtain ⟨v1, v2, v3, e2, c1, c2⟩ := tri
                exact ⟨v1, v2, v3, e2, e9 _ _ c1, e9 _ _ c2⟩
              · have tt := (ex_tp e9).trans t10
                exact AdvW.of (v := .non) (Nat.lt_succ_self _) kr m10 (.cons ⟨[], b1, Nat.zero_le _, Nat.zero_le _, .nil⟩ (.cons ⟨rfl, hev.tp tt, fun f z => by rw [m8.len]; exact hob f z⟩ (ht8.go tt (List.prefix_refl fa)))) rfl gp.1 fun f q => by cases q
      | @ptf _ o _ _ _ kr =>
        obtain ⟨q, ee, u, rfl, hq, _⟩ := ev.ne (by intro z; cases z)
        cases fo5 with
        | cons hf0 ht0 =>
          cases ht0 with
          | cons hf1 ht1 =>
            rename_i f0 _ f1 fs
            refine s_if (b := false) (et_test (ev_op (ev_var rfl) ev_c rv_isN)) (fun q => Bool.noConfusion q) fun _ H6 e6 => ?_
            have m6 := m5.grow e6
            refine q_pop m6.fral (frV_ne _) (ev_var rfl) fun H7 e7 => ?_
            obtain ⟨m7, t70⟩ := (m6.grow e7).pop2
            have t7 := (ex_tp (e6.trans e7)).trans t70
            refine q_when (b := false) (et_test (ev_is (ev_opL (ev_var rfl) (el_lst ea_nil (Nat.zero_le _)) fun q' H8 h8 e8 => rv_eqL (sq_of (e8 _ _ m7.fral)) (sq_of h8)) (congrArg V.bl (List.isEmpty_eq_false_iff.mpr (frV_ne _))))) (fun q => Bool.noConfusion q) fun _ H8 e8 => ?_
            have m8 := m7.grow e8
            have t8 := t7.trans (ex_tp e8)
            have hf8 := hf1.go t8 (List.prefix_refl fa)
            have ht8 := ht1.go t8 (List.prefix_refl fa)
            have hq8 : H8 q = some (.tup [.str ee, u]) := t8 _ _ (e5 _ _ hq)
            have hfs : fs.length ≤ 900 := by rw [List.length_cons, List.length_cons] at hfrl; omega
            cases f1 with
            | body => exact hf8.elim
            | tri x dx p part nn pend =>
              obtain ⟨rfl, hpe, hob⟩ := hf8
              have hq9 : H8 q = some (.tup [.str "end", .non]) := by
                obtain ⟨q3, z1, z2⟩ := ev
                cases z1
                exact t8 _ _ (e5 _ _ z2)
              have gp := g.ptf
              have hbl : s.board.length ≤ 1000 := by have := wf0.nb; omega
              have hhl : s.hand.length ≤ 1000 := by have := g.hl; omega
              refine Or.inr (x_meth (top m8) m8.top rfl (ea_cons (ev_var rfl) (ea_cons (ev_var rfl) (ea_cons (ev_var rfl) ea_nil))) fun H9 e9 => ?_)
              refine ⟨H0, a, s, fa, lg, x, dx, p, "final", nn, pend, fs, q, rfl, m8.grow e9, hfs, hbl, hhl, .inr (.inr ⟨o, rfl, hpe.tp (ex_tp e9), e9 _ _ hq9, gp.2, fun H10 m10 t10 => ?_⟩)⟩
              have tt := (ex_tp e9).trans t10
              have er : (popE o s).rows = s.rows := by cases o <;> rfl
              refine AdvW.of (Nat.lt_succ_self _) kr m10 (.cons ⟨rfl, hpe.tp tt, hob⟩ (ht8.go tt (List.prefix_refl fa))) ?_ gp.1 fun f z => ?_
              · have h10 := hpe.tp tt
                cases o <;> exact h10
              · rw [er, ← m8.len]
                cases o with
                | none => cases z
                | some ff =>
                  cases z
                  exact hob _ rfl
end
end L2.EX
namespace L2.EX
open PySem PySem.Spec PyProof.Rows Evl
/-! The run's own start: activation, cleared state, the call. -/
section
variable {H0 H H' : Hp} {l : List (Addr × HO)} {p q : Addr} {o : HO}
theorem Own.new2 (w : Own H0 H l) (h : H p = none) : Own H0 (upd H p o) (l ++ [(p, o)]) := (w.new h).perm (List.perm_append_comm (l₁ := l) (l₂ := [(p, o)]))
theorem sz_le {n : Nat} (h : n ≤ 100000) : n ≤ sizeLine := Nat.le_trans h (by decide)
end
section
variable {K : Frg} {σ : L2.St} {H H' H0 : Hp} {ta : TE} {y : V} {a C dx : Addr} {fs : List (Str × V)} {f : Str}
theorem f_at {N : L2.St → Hp → Prop} (ha : Ev ta σ H (.ref a)) (ho : H a = some (.ins C dx fs)) (c : Cls K C) (n : NoAttr K C f) (hl : fs.length < 1000) (k : ∀ H1, Ex H H1 → N σ (upd H1 a (.ins C dx (putF f y fs)))) :
    ta σ H fun x H2 => ∃ a C dx fs, x = .ref a ∧ H2 a = some (.ins C dx fs) ∧ Cls K C ∧ NoAttr K C f ∧ fs.length < 1000 ∧ N σ (upd H2 a (.ins C dx (putF f y fs))) := ha H (Ex.refl H) _ fun H2 e2 => ⟨a, C, dx, fs, rfl, e2 a _ ho, c, n, hl, k H2 e2⟩
end
section
variable {K : Frg} {σ : L2.St} {H : Hp} {ta tv : TE} {t tr : TA} {f : Str} {D : Ends} {tz : TS} {Q : VK} {A : List V → Hp → Prop}
theorem q_fldX (h : tv σ H fun y H1 => ta σ H1 fun x H2 => ∃ a C dx fs, x = .ref a ∧ H2 a = some (.ins C dx fs) ∧ Cls K C ∧ NoAttr K C f ∧ fs.length < 1000 ∧ tz D σ (upd H2 a (.ins C dx (putF f y fs)))) : tSeq (sFld K ta tv f) tz D σ H := h
theorem s_fldX (h : tv σ H fun y H1 => ta σ H1 fun x H2 => ∃ a C dx fs, x = .ref a ∧ H2 a = some (.ins C dx fs) ∧ Cls K C ∧ NoAttr K C f ∧ fs.length < 1000 ∧ D.nx σ (upd H2 a (.ins C dx (putF f y fs)))) : sFld K ta tv f D σ H := h
theorem l_lst (h : t σ H fun xs H1 => xs.length ≤ sizeLine ∧ ∀ p, H1 p = none → Q (.ref p) (upd H1 p (.lst xs))) : tLst t σ H Q := h
theorem l_cons (h : ta σ H fun x H1 => tr σ H1 fun xs H2 => A (x :: xs) H2) : tCons ta tr σ H A := h
end
section
variable {w : World} {K : Frg} {mg : Str → Option Value} {base : Heap}
def acFs (FR HD : Addr) : List (Str × V) := [("s3_frames", .ref FR), ("s3_handled", .ref HD)]
def sp_ainit (K : Frg) : Sp := fun vs H Q _ => ∃ (H0 : Hp) (x dx p : Addr), vs = [.ref x, .ref p] ∧ Own H0 H [(x, .ins (a_Activation K) dx [])] ∧
  ∀ H' y dy FR HD, Own H0 H' [(x, .ins (a_Activation K) dx (acFs FR HD)), (FR, .lst [.ref y]), (HD, .lst []), (y, .ins (a_BodyFrame K) dy (bFs p 0))] → Q .non H'
theorem ok_Activation_init (T : Tx w K mg) (F_BodyFrame_init : FOk PW w K mg base 1 (f_BodyFrame_init K) ["self", "body"] [] (sp_ini (a_BodyFrame K) R_BodyFrame)) : FOk PW w K mg base 3 (f_Activation_init K) ["self", "body"] [] (sp_ainit K) := by
  obtain ⟨fd, F⟩ := T.d_Activation_init
  refine ⟨⟨fd, [], F.ok sc_Activation_init (fun vs H Q E h => ?_) (fun cdv A outer s H vs Q E hr h => ?_), F.bindsN fun _ _ _ _ _ _ us hl => match us, hl with | [_, _], _ => rfl, .nil⟩, F.kp⟩
  · obtain ⟨H0, x, dx, p, rfl, _⟩ := h
    rfl
  · obtain ⟨H0, x, dx, p, rfl, w0, k⟩ := h
    refine ⟨_, (PSs.nox (pss_cons (ps_fld (pv 0) (pe_lst (pa_cons (pk_make T.k_BodyFrame F_BodyFrame_init hr rfl T.g_BodyFrame (pa_cons (pv 1) pa_nil)) pa_nil)) rfl) (pss_one (ps_fld (pv 0) (pe_lst pa_nil) rfl)))), ?_⟩
    refine q_fldX (l_lst (l_cons (mk_own (fs := bFs p 0) w0 (ea_cons (ev_var rfl) ea_nil) (fun H3 y dy Q' w3 _ k' => ini_at ⟨p, rfl, rfl⟩ w3 k') _ fun y dy H3 hy w3 t3 _ => ?_)))
    refine ⟨sz_le (show 1 ≤ 100000 by decide), fun FR hFR => ?_⟩
    have w4 := w3.new2 (o := .lst [.ref y]) hFR
    refine f_at (ev_var rfl) (w4.get 0 rfl) T.c_Activation T.n_Activation_s3_frames (show 0 < 1000 by decide) fun H5 e5 => ?_
    have w5 := (w4.grow e5).set0 (o' := .ins (a_Activation K) dx [("s3_frames", .ref FR)])
    refine ⟨Nat.zero_le _, fun HD hHD => ?_⟩
    have w6 := w5.new2 (o := .lst []) hHD
    refine f_at (ev_var rfl) (w6.get 0 rfl) T.c_Activation T.n_Activation_s3_handled (show 1 < 1000 by decide) fun H7 e7 => ?_
    have w7 := (w6.grow e7).set0 (o' := .ins (a_Activation K) dx (acFs FR HD))
    refine k _ y dy FR HD (w7.perm (List.Perm.cons _ ?_))
    exact List.perm_append_comm (l₁ := [(FR, HO.lst [.ref y]), (HD, HO.lst [])]) (l₂ := [(y, HO.ins (a_BodyFrame K) dy (bFs p 0))])
theorem x_methT {sp : Sp} {dvs : List V} {E : XK} {te : TE} {tr : TA} {σ : L2.St} {H : Hp} {Q : VK} {a C dx : Addr} {fs : List (Str × V)} {m : Str} (h : Ev te σ H (.ref a)) (ho : H a = some (.ins C dx fs)) (hm : fs.lookup m = none) (k : ∀ H1, Ex H H1 → tr σ H1 fun vs H2 => sp (.ref a :: (vs ++ dvs)) H2 Q E) : tMeth C m sp dvs E te tr σ H Q :=
  h H (Ex.refl H) _ fun H1 e1 => ⟨a, dx, fs, rfl, e1 _ _ ho, hm, k H1 e1⟩
theorem x_make {sp : Sp} {dvs vs : List V} {E : XK} {tr : TA} {σ : L2.St} {H : Hp} {Q : VK} {C : Addr} (ha : EvA tr σ H vs) (k : ∀ H1, Ex H H1 → ∀ x dx, H1 x = none → H1 dx = none → dx ≠ x → sp (.ref x :: (vs ++ dvs)) (upd (upd H1 dx (.own x)) x (.ins C dx [])) (fun v H2 => v = .non ∧ Q (.ref x) H2) E) : tMake C sp dvs E tr σ H Q :=
  ha H (Ex.refl H) _ fun H1 e1 => k H1 e1
/-- the runner with its tree and its empty state -/
def run7 (K : Frg) (a : RA) : List (Addr × HO) := [(a.R, .ins (a_Runner K) a.dR (rFs a.T a.B a.L a.F 0 a.A)), (a.B, .dK []), (a.L, .lst []), (a.F, .lst []), (a.T, .ins (a_KindTree K) a.dT [("s1_parents", .ref a.PD)]), (a.PD, .dK kindsK), (a.A, .lst [])]
def RA.act4 (a : RA) (act dA FR HD : Addr) : RA := { a with act := act, dA := dA, FR := FR, HD := HD }
def sp_scall (K : Frg) : Sp := fun vs H Q _ => ∃ H0 a p us b, vs = [.ref a.R, .ref p] ∧ Own H0 H (run7 K a) ∧ H p = some (.tup us) ∧ us.length ≤ 1000 ∧ BdyT H us b ∧ b.hot = true ∧ b.size ≤ 300 ∧
  ∀ H' act dA FR HD fa lg fr v, Own H0 H' ((cells K (a.act4 act dA FR HD) (exec b ps0).2 fa lg fr).set 6 (a.A, .lst [])) → LogOk H' lg (exec b ps0).2.log → fa.length = (exec b ps0).2.rows.length → EndT H' fa v (exec b ps0).1 → Q v H'
theorem ok_Runner_s3_call (T : Tx w K mg) (F_Activation_init : FOk PW w K mg base 3 (f_Activation_init K) ["self", "body"] [] (sp_ainit K)) (F_Runner_s3_advance : FOk PW w K mg base 12 (f_Runner_s3_advance K) ["self", "activation", "ending"] [.non] (sp_advance K)) :
    FOk PW w K mg base 13 (f_Runner_s3_call K) ["self", "body"] [] (sp_scall K) := by
  obtain ⟨fd, F⟩ := T.d_Runner_s3_call
  refine ⟨⟨fd, [], F.ok sc_Runner_s3_call (fun vs H Q E h => ?_) (fun cdv A outer s H vs Q E hr h => ?_), F.bindsN fun _ _ _ _ _ _ us hl => match us, hl with | [_, _], _ => rfl, .nil⟩, F.kp⟩
  · obtain ⟨H0, a, p, us, b, rfl, _⟩ := h
    rfl
  · obtain ⟨H0, a, p, us, b, rfl, w0, hp, hus, bd, hot, hsz, k⟩ := h
    refine ⟨_, (PSs.nox (pss_one (ps_ret (pk_meth (pv 0) T.c_Runner T.m_Runner_s3_advance F_Runner_s3_advance hr (pa_cons (pk_make T.k_Activation F_Activation_init hr rfl T.g_Activation (pa_cons (pv 1) pa_nil)) pa_nil))))), ?_⟩
    refine s_retX (x_methT (ev_var rfl) (w0.get 0 rfl) rfl fun H1 e1 => ?_)
    have w1 := w0.grow e1
    refine x_make (ea_cons (ev_var rfl) ea_nil) fun H2 e2 act dA hx hd n => ?_
    have w2 := (w1.grow e2).made2 (C := a_Activation K) (fs := []) hx hd n
    have e3 := (e1.trans e2).trans (ex_made (o := .own act) (u := .ins (a_Activation K) dA []) hx hd n)
    refine ⟨_, act, dA, p, rfl, w2.cut, fun H3 y dy FR HD w3 t3 => ⟨rfl, ?_⟩⟩
    have w4 : Own H0 H3 (adv0 K (a.act4 act dA FR HD) y dy p) := w2.back w3
    have tt := (ex_tp e3).trans t3
    exact ⟨H0, a.act4 act dA FR HD, y, dy, p, us, b, rfl, w4, tt _ _ hp, hus, bd.tp tt, hot, hsz, fun H' fa lg fr v h1 h2 h3 h4 _ => k H' act dA FR HD fa lg fr v h1 h2 h3 h4⟩
/-- the state is cleared -/
def clr (B L F A : Addr) (fs : List (Str × V)) : List (Str × V) := putF "s3_active" (.ref A) (putF "s3_steps" (.int 0) (putF "s3_faults" (.ref F) (putF "s3_log" (.ref L) (putF "s3_board" (.ref B) fs))))
theorem putF_len {f : Str} {v : V} {fs : List (Str × V)} : (putF f v fs).length ≤ fs.length + 1 := by
  induction fs with
  | nil => exact Nat.le_refl _
  | cons g r ih =>
    unfold putF
    split
    · exact Nat.le_succ _
    · exact Nat.succ_le_succ ih
def sp_cclear (K : Frg) : Sp := fun vs H Q _ => ∃ H0 R dR fs, vs = [.ref R] ∧ Own H0 H [(R, .ins (a_Runner K) dR fs)] ∧ fs.length ≤ 900 ∧
  ∀ H' B L F A, Own H0 H' [(R, .ins (a_Runner K) dR (clr B L F A fs)), (B, .dK []), (L, .lst []), (F, .lst []), (A, .lst [])] → Q .non H'
theorem ok_Core_s3_clear (T : Tx w K mg) : FOk PW w K mg base 1 (f_Core_s3_clear K) ["self"] [] (sp_cclear K) := by
  obtain ⟨fd, F⟩ := T.d_Core_s3_clear
  refine ⟨⟨fd, [], F.ok sc_Core_s3_clear (fun vs H Q E h => ?_) (fun cdv A outer s H vs Q E hr h => ?_), F.bindsN fun _ _ _ _ _ _ us hl => match us, hl with | [_], _ => rfl, .nil⟩, F.kp⟩
  · obtain ⟨H0, R, dR, fs, rfl, _⟩ := h
    rfl
  · obtain ⟨H0, R, dR, fs, rfl, w0, hl, k⟩ := h
    refine ⟨_, (PSs.nox (pss_cons (ps_asg (pe_tup (pa_cons pe_dnewK (pa_cons (pe_lst pa_nil) (pa_cons (pe_lst pa_nil) pa_nil)))) (pg_tup rfl (pgs_cons (pg_fld (pv 0)) (pgs_cons (pg_fld (pv 0)) (pgs_cons (pg_fld (pv 0)) pgs_nil))))) (pss_one (ps_asg (pe_tup (pa_cons pe_int (pa_cons (pe_lst pa_nil) pa_nil))) (pg_tup rfl (pgs_cons (pg_fld (pv 0)) (pgs_cons (pg_fld (pv 0)) pgs_nil))))))), ?_⟩
    refine fun B hB => ?_
    have w1 := w0.new2 (o := .dK []) hB
    refine ⟨Nat.zero_le _, fun L hL => ?_⟩
    have w2 := w1.new2 (o := .lst []) hL
    refine ⟨Nat.zero_le _, fun F hF => ?_⟩
    have w3 := w2.new2 (o := .lst []) hF
    refine ⟨sz_le (show 3 ≤ 100000 by decide), fun q hq => ⟨q, _, rfl, st_of upd_same, rfl, ?_⟩⟩
    have w4 := w3.tmp (o := .tup [.ref B, .ref L, .ref F]) hq
    have l1 := fun f v => @putF_len f v fs
    refine g_cons (g_fld (ev_var rfl) (w4.get 0 rfl) T.c_Runner T.n_Runner_s3_board (by omega) fun H5 e5 => ?_)
    have w5 := (w4.grow e5).set0 (o' := .ins (a_Runner K) dR (putF "s3_board" (.ref B) fs))
    have l5 := l1 "s3_board" (.ref B)
    refine g_cons (g_fld (ev_var rfl) (w5.get 0 rfl) T.c_Runner T.n_Runner_s3_log (by omega) fun H6 e6 => ?_)
    have w6 := (w5.grow e6).set0 (o' := .ins (a_Runner K) dR (putF "s3_log" (.ref L) (putF "s3_board" (.ref B) fs)))
    have l6 := @putF_len "s3_log" (.ref L) (putF "s3_board" (.ref B) fs)
    refine g_cons (g_fld (ev_var rfl) (w6.get 0 rfl) T.c_Runner T.n_Runner_s3_faults (by omega) fun H7 e7 => g_nil ?_)
    have w7 := (w6.grow e7).set0 (o' := .ins (a_Runner K) dR (putF "s3_faults" (.ref F) (putF "s3_log" (.ref L) (putF "s3_board" (.ref B) fs))))
    have l7 := @putF_len "s3_faults" (.ref F) (putF "s3_log" (.ref L) (putF "s3_board" (.ref B) fs))
    refine ⟨Nat.zero_le _, fun A hA => ?_⟩
    have w8 := w7.new2 (o := .lst []) hA
    refine ⟨sz_le (show 2 ≤ 100000 by decide), fun q2 hq2 => ⟨q2, _, rfl, st_of upd_same, rfl, ?_⟩⟩
    have w9 := w8.tmp (o := .tup [.int 0, .ref A]) hq2
    refine g_cons (g_fld (ev_var rfl) (w9.get 0 rfl) T.c_Runner T.n_Runner_s3_steps (by omega) fun H10 e10 => ?_)
    have w10 := (w9.grow e10).set0 (o' := .ins (a_Runner K) dR (putF "s3_steps" (.int 0) (putF "s3_faults" (.ref F) (putF "s3_log" (.ref L) (putF "s3_board" (.ref B) fs)))))
    have l10 := @putF_len "s3_steps" (.int 0) (putF "s3_faults" (.ref F) (putF "s3_log" (.ref L) (putF "s3_board" (.ref B) fs)))
    refine g_cons (g_fld (ev_var rfl) (w10.get 0 rfl) T.c_Runner T.n_Runner_s3_active (by omega) fun H11 e11 => g_nil ?_)
    exact k _ B L F A ((w10.grow e11).set0)
def sp_rclear (K : Frg) : Sp := fun vs H Q _ => ∃ H0 R dR fs, vs = [.ref R] ∧ Own H0 H [(R, .ins (a_Runner K) dR fs)] ∧ fs.length ≤ 900 ∧
  ∀ H' B L F A, Own H0 H' [(R, .ins (a_Runner K) dR (putF "s4_opened" (.int 0) (clr B L F A fs))), (B, .dK []), (L, .lst []), (F, .lst []), (A, .lst [])] → Q .non H'
theorem nsc_Runner_s3_clear : NdefX.NScope ["self", "__class__"] ["self"] ["__class__"] (defScope s_Runner_s3_clear) := NdefX.nscope_by (by decide +kernel)
theorem ok_Runner_s3_clear (T : Tx w K mg) (F_Core_s3_clear : FOk PW w K mg base 1 (f_Core_s3_clear K) ["self"] [] (sp_cclear K)) : FOk PW w K mg base 2 (f_Runner_s3_clear K) ["self"] [] (sp_rclear K) := by
  obtain ⟨fd, ⟨G1, G2, G3, G4, G5, G6, G7⟩, F, e1, e2, e3, e4, e5⟩ := T.d_Runner_s3_clear
  have e1 : G1 = _ := e1
  have e2 : G2 = _ := e2
  have e3 : G3 = _ := e3
  have e4 : G4 = _ := e4
  have e5 : G5 = _ := e5
  subst e1 e2 e3 e4 e5
  refine ⟨⟨fd, _, SFun.ok (N := ["self", "__class__"]) (ps := ["self"]) F nsc_Runner_s3_clear rfl rfl (by decide +kernel) T.z_super T.e_any T.w_Runner_s3_clear (fun vs H Q E h => ?_) (fun A outer s H vs Q E hr h SA => ?_), F.bindsN fun _ _ _ _ _ _ _ us hl => match us, hl with | [_], _ => rfl, .nil⟩, F.kp⟩
  · obtain ⟨H0, R, dR, fs, rfl, _⟩ := h
    rfl
  · obtain ⟨H0, R, dR, fs, rfl, w0, hl, k⟩ := h
    refine ⟨_, (pssa_cons (psa_expr (pk_super0 (i := 0) SA rfl rfl T.u_Core_s3_clear F_Core_s3_clear hr)) (pssa_of (pss_one (ps_fld (pv 0) pe_int rfl)))), ?_⟩
    refine ⟨R, _, _, rfl, w0.get 0 rfl, fun q hq => ?_⟩
    refine ⟨H0, R, dR, fs, rfl, w0.tmp hq, hl, fun H1 B L F A w1 _ => ?_⟩
    have l1 := @putF_len "s3_board" (.ref B) fs
    have l2 := @putF_len "s3_log" (.ref L) (putF "s3_board" (.ref B) fs)
    have l3 := @putF_len "s3_faults" (.ref F) (putF "s3_log" (.ref L) (putF "s3_board" (.ref B) fs))
    have l4 := @putF_len "s3_steps" (.int 0) (putF "s3_faults" (.ref F) (putF "s3_log" (.ref L) (putF "s3_board" (.ref B) fs)))
    have l5 := @putF_len "s3_active" (.ref A) (putF "s3_steps" (.int 0) (putF "s3_faults" (.ref F) (putF "s3_log" (.ref L) (putF "s3_board" (.ref B) fs))))
    refine s_fld ev_c (ev_var rfl) (w1.get 0 rfl) T.c_Runner T.n_Runner_s4_opened (by unfold clr; omega) fun H2 e2 => ?_
    exact k _ B L F A ((w1.grow e2).set0)
end
end L2.EX
namespace L2.EX
open PySem PySem.Spec PyProof.Rows Evl
/-! The outcome; one run behind its check. -/
theorem call_repr_none {X : Cx} : CallR X (.builtin "repr") (fun xs H Q => xs = [.non] ∧ Q (.str "None") H) := by
  rintro pins s σ H xs us Q I r ⟨rfl, q⟩
  obtain ⟨u, rfl, rfl⟩ := vals1 r
  exact PySem.P.repr_of_none ⟨.str "None", H, I.tok _, ⟨_, rfl⟩, q⟩
section
variable {K : Frg} {σ : L2.St} {H : Hp} {te : TE} {D : Ends} {tz : TS} {g : TG}
theorem q_asgXT (h : te σ H fun x H1 => g x σ H1 fun σ' H' => tz D σ' H') : tSeq (tAsg te g) tz D σ H := h
theorem ev_ifL {t : TT} {ta tb : TE} {xs : List V} {b : Bool} (h : EvT t σ H b) (h1 : b = true → EvL ta σ H xs) (h2 : b = false → EvL tb σ H xs) : EvL (tIf t ta tb) σ H xs := fun H1 e Q q => h H1 e _ fun H2 e2 => by
  cases b with
  | true =>
    show ta σ H2 Q
    exact h1 rfl H2 (e.trans e2) Q fun p H3 hp e3 h3 => q p H3 (fresh_back e2 hp) (e2.trans e3) h3
  | false =>
    show tb σ H2 Q
    exact h2 rfl H2 (e.trans e2) Q fun p H3 hp e3 h3 => q p H3 (fresh_back e2 hp) (e2.trans e3) h3
theorem x_if {t : TT} {ta tb : TE} {Q : VK} {b : Bool} (h : EvT t σ H b) (h1 : b = true → ∀ H1, Ex H H1 → ta σ H1 Q) (h2 : b = false → ∀ H1, Ex H H1 → tb σ H1 Q) : tIf t ta tb σ H Q := h H (Ex.refl H) _ fun H2 e2 => by
  cases b with
  | true =>
    show ta σ H2 Q
    exact h1 rfl H2 e2
  | false =>
    show tb σ H2 Q
    exact h2 rfl H2 e2
theorem rc_reprN : RC (fun xs H Q => xs = [.non] ∧ Q (.str "None") H) [.non] H (.str "None") := fun H1 _ _ q => ⟨rfl, q H1 (Ex.refl H1)⟩
end
section
variable {w : World} {K : Frg} {mg : Str → Option Value} {base : Heap}
def oFs (way : Str) (f v : V) : List (Str × V) := [("s3_way", .str way), ("s3_value", .non), ("s3_fault", f), ("s3_text", .str "None"), ("s3_rows", v)]
def sp_oinit (K : Frg) : Sp := fun vs H Q _ => ∃ (H0 : Hp) (x dx : Addr) (fa : List (Addr × Addr)) (rows : List FR) (o : Option Nat) (way : Str), vs = [.ref x, .str way, .non, refO fa o] ∧ Own H0 H ((x, .ins (a_Outcome K) dx []) :: fcells K fa rows) ∧ (∀ f, o = some f → f < rows.length) ∧ rows.length ≤ 1000 ∧
  (∀ i c, ctxOf rows i = some c → c < rows.length) ∧ (∀ (i : Nat) (r : FR) (c : Nat), rows[i]? = some r → r.cause = some c → c < rows.length) ∧
  ∀ H' v, Own H0 H' ((x, .ins (a_Outcome K) dx (oFs way (refO fa o) v)) :: fcells K fa rows) → Q .non H'
theorem ok_Outcome_init (T : Tx w K mg) (F_rows_of : FOk PW w K mg base 4 (f_rows_of K) ["fault"] [] (sp_rows_of K)) : FOk PW w K mg base 5 (f_Outcome_init K) ["self", "way", "value", "fault"] [] (sp_oinit K) := by
  obtain ⟨fd, F⟩ := T.d_Outcome_init
  refine ⟨⟨fd, [], F.ok sc_Outcome_init (fun vs H Q E h => ?_) (fun cdv A outer s H vs Q E hr h => ?_), F.bindsN fun _ _ _ _ _ _ us hl => match us, hl with | [_, _, _, _], _ => rfl, .nil⟩, F.kp⟩
  · obtain ⟨H0, x, dx, fa, rows, o, way, rfl, _⟩ := h
    rfl
  · obtain ⟨H0, x, dx, fa, rows, o, way, rfl, w0, ho, hr1, hc, hu, k⟩ := h
    refine ⟨_, (PSs.nox (pss_cons (ps_asg (pe_tup (pa_cons (pv 1) (pa_cons (pv 2) (pa_cons (pv 3) pa_nil)))) (pg_tup rfl (pgs_cons (pg_fld (pv 0)) (pgs_cons (pg_fld (pv 0)) (pgs_cons (pg_fld (pv 0)) pgs_nil))))) (pss_cons (ps_fld (pv 0) (pe_callB call_repr_none rfl T.z_repr boot_repr (pa_cons (pv 2) pa_nil)) rfl) (pss_one (ps_fld (pv 0) (pe_ifExp (pt_cmpR op_notN (pv 3) pe_non (nomark _)) (pk_call F_rows_of hr rfl T.g_rows_of (pa_cons (pv 3) pa_nil)) (pe_lst pa_nil)) rfl))))), ?_⟩
    refine q_asgT (eu_tup (ea_cons (ev_var rfl) (ea_cons (ev_var rfl) (ea_cons (ev_var rfl) ea_nil))) (show 3 ≤ 100000 by decide)) rfl fun H1 e1 => ?_
    have w1 := w0.grow e1
    refine g_cons (g_fld (ev_var rfl) (w1.get 0 rfl) T.c_Outcome T.n_Outcome_s3_way (show 0 < 1000 by decide) fun H2 e2 => ?_)
    have w2 := (w1.grow e2).set0 (o' := .ins (a_Outcome K) dx [("s3_way", .str way)])
    refine g_cons (g_fld (ev_var rfl) (w2.get 0 rfl) T.c_Outcome T.n_Outcome_s3_value (show 1 < 1000 by decide) fun H3 e3 => ?_)
    have w3 := (w2.grow e3).set0 (o' := .ins (a_Outcome K) dx [("s3_way", .str way), ("s3_value", .non)])
    refine g_cons (g_fld (ev_var rfl) (w3.get 0 rfl) T.c_Outcome T.n_Outcome_s3_fault (show 2 < 1000 by decide) fun H4 e4 => g_nil ?_)
    have w4 := (w3.grow e4).set0 (o' := .ins (a_Outcome K) dx [("s3_way", .str way), ("s3_value", .non), ("s3_fault", refO fa o)])
    refine q_fld (ev_cb (ea_cons (ev_var rfl) ea_nil) rc_reprN) (ev_var rfl) (w4.get 0 rfl) T.c_Outcome T.n_Outcome_s3_text (show 3 < 1000 by decide) fun H5 e5 => ?_
    have w5 := (w4.grow e5).set0 (o' := .ins (a_Outcome K) dx [("s3_way", .str way), ("s3_value", .non), ("s3_fault", refO fa o), ("s3_text", .str "None")])
    cases o with
    | none =>
      refine s_fldL (ev_ifL (b := false) (et_test (ev_op (ev_var rfl) ev_c rv_notN)) (fun q => Bool.noConfusion q) fun _ => el_lst ea_nil (Nat.zero_le _)) (ev_var rfl) (w5.get 0 rfl) T.c_Outcome T.n_Outcome_s3_rows (show 4 < 1000 by decide) fun p H6 _ e6 _ => ?_
      exact k _ (.ref p) ((w5.grow e6).set0)
    | some f =>
      refine s_fldX (x_if (b := true) (et_test (ev_op (ev_var rfl) ev_c rv_notN)) (fun _ H6 e6 => x_call (ea_cons (ev_var rfl) ea_nil) fun H7 e7 => ?_) fun q => Bool.noConfusion q)
      have w7 := (w5.grow e6).grow e7
      refine ⟨_, fa, rows, f, rfl, Own.cut (A := [_]) w7, ho f rfl, hr1, hc, hu, fun z H8 e8 _ => ?_⟩
      have w8 := w7.grow e8
      refine f_at (ev_var rfl) (w8.get 0 rfl) T.c_Outcome T.n_Outcome_s3_rows (show 4 < 1000 by decide) fun H9 e9 => ?_
      exact k _ z ((w8.grow e9).set0)
def endC (K : Frg) (a : RA) (s : PS) (fa : List (Addr × Addr)) (lg : List V) (o d : Addr) (way : Str) (f v : V) : List (Addr × HO) :=
  [(a.R, .ins (a_Runner K) a.dR (rFs a.T a.B a.L a.F s.steps a.A)), (a.B, .dK (bdK fa s.board)), (a.L, .lst lg), (a.F, .lst (flV fa s.rows.length))] ++ ((o, .ins (a_Outcome K) d (oFs way f v)) :: fcells K fa s.rows)
def wayS : Option Nat → Str
  | none => "end"
  | some _ => "fault"
def sp_srun (K : Frg) : Sp := fun vs H Q _ => ∃ H0 a p us b, vs = [.ref a.R, .ref p] ∧ Own H0 H (run7 K a) ∧ H p = some (.tup us) ∧ us.length ≤ 1000 ∧ BdyT H us b ∧ b.hot = true ∧ b.size ≤ 300 ∧
  ∀ H' A fa lg o d v, Own H0 H' (endC K { a with A := A } (exec b ps0).2 fa lg o d (wayS (exec b ps0).1) (refO fa (exec b ps0).1) v) → LogOk H' lg (exec b ps0).2.log → fa.length = (exec b ps0).2.rows.length → Q (.ref o) H'
theorem nodup_app_sub {α : Type} {A A' B : List α} (h : A'.Sublist A) : (A' ++ B).Sublist (A ++ B) := List.Sublist.append h (List.Sublist.refl _)
theorem wf0 : WF 0 0 ps0 := (good0 (b := .nil) (by decide)).wf
theorem ok_Runner_s3_run (T : Tx w K mg) (F_Runner_s3_call : FOk PW w K mg base 13 (f_Runner_s3_call K) ["self", "body"] [] (sp_scall K)) (F_Outcome_init : FOk PW w K mg base 5 (f_Outcome_init K) ["self", "way", "value", "fault"] [] (sp_oinit K)) :
    FOk PW w K mg base 14 (f_Runner_s3_run K) ["self", "program"] [] (sp_srun K) := by
  obtain ⟨fd, F⟩ := T.d_Runner_s3_run
  refine ⟨⟨fd, [], F.ok sc_Runner_s3_run (fun vs H Q E h => ?_) (fun cdv A outer s H vs Q E hr h => ?_), F.bindsN fun _ _ _ _ _ _ us hl => match us, hl with | [_, _], _ => rfl, .nil⟩, F.kp⟩
  · obtain ⟨H0, a, p, us, b, rfl, _⟩ := h
    rfl
  · obtain ⟨H0, a, p, us, b, rfl, w0, hp, hus, bd, hot, hsz, k⟩ := h
    refine ⟨_, (PSs.nox (pss_cons (ps_asg (pe_tup (pa_cons pe_int (pa_cons (pe_lst pa_nil) pa_nil))) (pg_tup rfl (pgs_cons (pg_fld (pv 0)) (pgs_cons (pg_fld (pv 0)) pgs_nil)))) (pss_cons (ps_asg (pk_meth (pv 0) T.c_Runner T.m_Runner_s3_call F_Runner_s3_call hr (pa_cons (pv 1) pa_nil)) (pg_tup rfl (pgs_cons (pg_name (i := 2) sc_Runner_s3_run.nd rfl (Or.inl rfl)) (pgs_cons (pg_name (i := 3) sc_Runner_s3_run.nd rfl (Or.inl rfl)) pgs_nil)))) (pss_one (ps_ret (pk_make T.k_Outcome F_Outcome_init hr rfl T.g_Outcome (pa_cons (pv 2) (pa_cons (pe_ifExp (pt_cmpR op_eq (pv 2) pe_str (nomark _)) (pv 3) pe_non) (pa_cons (pe_ifExp (pt_cmpR op_eq (pv 2) pe_str (nomark _)) (pv 3) pe_non) pa_nil))))))))), ?_⟩
    have e1 := Ex.refl H
    refine ⟨Nat.zero_le _, fun A hA => ?_⟩
    refine ⟨sz_le (show 2 ≤ 100000 by decide), fun q hq => ⟨q, _, rfl, st_of upd_same, rfl, ?_⟩⟩
    have w1 := (w0.grow e1).new2 (o := .lst []) hA
    have w2 := w1.tmp (o := .tup [.int 0, .ref A]) hq
    have e2 : Ex H (upd (upd H A (.lst [])) q (.tup [.int 0, .ref A])) := (e1.trans (Ex.new hA)).trans (Ex.new hq)
    refine g_cons (g_fld (ev_var rfl) (w2.get 0 rfl) T.c_Runner T.n_Runner_s3_steps (show 9 < 1000 by decide) fun H3 e3 => ?_)
    have w3 := (w2.grow e3).set0 (o' := .ins (a_Runner K) a.dR (rFs a.T a.B a.L a.F 0 a.A))
    have t3 : TP _ (upd H3 a.R (.ins (a_Runner K) a.dR (rFs a.T a.B a.L a.F 0 a.A))) := (ex_tp (e2.trans e3)).trans (TP.upd ((w2.grow e3).get 0 rfl) fun xs z => by cases z)
    refine g_cons (g_fld (ev_var rfl) (w3.get 0 rfl) T.c_Runner T.n_Runner_s3_active (show 9 < 1000 by decide) fun H4 e4 => g_nil ?_)
    have w4 := (w3.grow e4).set0 (o' := .ins (a_Runner K) a.dR (rFs a.T a.B a.L a.F 0 A))
    have t4 : TP _ (upd H4 a.R (.ins (a_Runner K) a.dR (rFs a.T a.B a.L a.F 0 A))) := (t3.trans (ex_tp e4)).trans (TP.upd ((w3.grow e4).get 0 rfl) fun xs z => by cases z)
    have w5 : Own H0 (upd H4 a.R (.ins (a_Runner K) a.dR (rFs a.T a.B a.L a.F 0 A))) (run7 K { a with A := A }) := w4.erase 6
    refine q_asgXT (x_meth (ev_var rfl) (w5.get 0 rfl) rfl (ea_cons (ev_var rfl) ea_nil) fun H6 e6 => ?_)
    have t6 := t4.trans (ex_tp e6)
    refine ⟨H0, { a with A := A }, p, us, b, rfl, w5.grow e6, t6 _ _ hp, hus, bd.tp t6, hot, hsz, fun H7 act dA FR HD fa lg fr v w7 lo hl ev _ => ?_⟩
    obtain ⟨wfe, hfl⟩ := WF.exec b ps0 hot wf0
    have hst := exec_steps b ps0
    have hnr := wfe.nr
    obtain ⟨p', rfl, hp'⟩ : ∃ p', v = .ref p' ∧ H7 p' = some (.tup [.str (wayS (exec b ps0).1), refO fa (exec b ps0).1]) := by
      cases q : (exec b ps0).1 with
      | none => rw [q] at ev; exact ev
      | some f => rw [q] at ev; exact ev
    refine ⟨p', _, rfl, st_of hp', rfl, g_cons (g_cons (g_nil ?_))⟩
    refine s_retX (x_make (vs := [.str (wayS (exec b ps0).1), .non, refO fa (exec b ps0).1]) (ea_cons (ev_var rfl) (ea_cons ?_ (ea_cons ?_ ea_nil))) fun H8 e8 o d ho hd n => ?_)
    · refine ev_if (b := false) (et_test (ev_is (ev_op (ev_var rfl) ev_c (rv_eq rfl)) ?_)) (fun q => Bool.noConfusion q) fun _ => ev_c
      cases (exec b ps0).1 <;> rfl
    · cases q : (exec b ps0).1 with
      | none => exact ev_if (b := false) (et_test (ev_op (ev_var rfl) ev_c (rv_eq rfl))) (fun q => Bool.noConfusion q) fun _ => ev_c
      | some f => exact ev_if (b := true) (et_test (ev_op (ev_var rfl) ev_c (rv_eq rfl))) (fun _ => ev_var rfl) fun q => Bool.noConfusion q
    have w8 := (w7.grow e8).made2 (C := a_Outcome K) (fs := []) ho hd n
    have e9 := e8.trans (ex_made (o := .own o) (u := .ins (a_Outcome K) d []) ho hd n)
    have w9 : Own H0 (upd (upd H8 d (.own o)) o (.ins (a_Outcome K) d [])) (((baseC K (RA.act4 { a with A := A } act dA FR HD) (exec b ps0).2.steps (bdK fa (exec b ps0).2.board) lg (flV fa (exec b ps0).2.rows.length) (frV fr) (hdV fa (exec b ps0).2.hand)).set 6 (A, .lst []) ++ fr.map (fhc K)) ++ ((o, .ins (a_Outcome K) d []) :: fcells K fa (exec b ps0).2.rows)) := by
      refine w8.perm ?_
      rw [List.append_assoc]
      have e : (cells K (RA.act4 { a with A := A } act dA FR HD) (exec b ps0).2 fa lg fr).set 6 (A, .lst []) = (baseC K (RA.act4 { a with A := A } act dA FR HD) (exec b ps0).2.steps (bdK fa (exec b ps0).2.board) lg (flV fa (exec b ps0).2.rows.length) (frV fr) (hdV fa (exec b ps0).2.hand)).set 6 (A, .lst []) ++ (fr.map (fhc K) ++ fcells K fa (exec b ps0).2.rows) := rfl
      rw [e, List.append_assoc, List.append_assoc]
      exact List.Perm.append_left _ (List.Perm.append_left _ (List.perm_append_comm (l₁ := [(o, HO.ins (a_Outcome K) d [])]) (l₂ := fcells K fa (exec b ps0).2.rows)))
    refine ⟨_, o, d, fa, (exec b ps0).2.rows, (exec b ps0).1, _, rfl, w9.cut, hfl, by have : (ps0).steps = 0 := rfl; omega, wfe.ctx, wfe.cau, fun H10 v w10 t10 => ⟨rfl, ?_⟩⟩
    have w11 := w9.back w10
    refine k H10 A fa lg o d v (w11.sublist ?_) ((lo.tp (ex_tp e9)).tp t10) hl
    refine List.Sublist.append ?_ (List.Sublist.refl _)
    exact (List.sublist_append_left [_, _, _, _] [_, _, _, _, _, _]).trans (List.sublist_append_left _ _)
end
end L2.EX
namespace L2.EX
open PySem PySem.Spec PyProof.Rows RZ
open PySem.Sem (wp)
/-! Own rule: dict(zip(a, b, strict=True)) over two tuples of one length. -/
abbrev KwS : List (Str × Value) := [(Str.ofString "strict", .bool true)]
theorem zs_typeCall (a b : Value) : checkTypeCall "zip" ⟨[a, b], KwS⟩ = pure () := by kernel_rfl
theorem zs_newCall (a b : Value) : checkBuiltinCall "zip.__new__" ⟨[.type "zip", a, b], KwS⟩ = pure () := by kernel_rfl
theorem zs_args (obj a b : Value) : argsOk "object.__init__" ⟨[obj, a, b], KwS⟩ := by unfold argsOk; kernel_rfl
/-- the strict one; f0: what is known of its tuple, f: that it is held -/
abbrev IsZipS (h : Heap) (z TI TO : Addr) (f0 : Value) (f : Bool) : Prop := h.get? z = some { cls := .type "zip", dict := none, data := .fields #[f0, .bool f, .bool true, .ref TI, .ref TO], slots := #[] }
abbrev zsH5 (h : Heap) (l1 l2 : Addr) : Heap := (zipTH4 h l1 l2).push { cls := .type "zip", data := .fields #[.none, .bool false, .bool true, .ref (zipTH2 h l1 l2).objs.size, .ref (zipTH3 h l1 l2).objs.size] }
theorem zs_meets (l1 l2 : Addr) (xs ys : Array Value) :
    Meets (Builtin.«zip.__new__» ⟨[.type "zip", .ref l1, .ref l2], KwS⟩) (fun _ R s => s.heap.IsTuple l1 xs ∧ s.heap.IsTuple l2 ys ∧
      R (.ok (.ret (.ref (zipTH4 s.heap l1 l2).objs.size))) { s with heap := zsH5 s.heap l1 l2 }) :=
  .of_wp fun prog w A R s h => by
    obtain ⟨hp, g, d, tk, os⟩ := s; obtain ⟨hl1, hl2, h⟩ := h
    have hsub := sub_zip
    have e2 : (Str.ofString "strict" != ("strict" : Str)) = false := by decide +kernel
    have hL1 : Heap.IsTuple (Shared.heap ⟨hp, g, d, tk, os⟩) l1 xs := hl1
    have hL2 : Heap.IsTuple (Shared.heap ⟨hp.push { cls := .type "tuple_iterator", data := .fields #[.ref l1, .int 0 0] }, g, d, tk, os⟩) l2 ys := Heap.IsTuple.push hl2 _
    wp_walk using wpAny_pyIter_tuple hL1, wpAny_pyIter_tuple hL2
    exact ⟨_, rfl, h⟩
section
variable {prog : Program} {w : World} {A : Around} {E : Value → Shared → Prop} {s : Shared}
theorem zs_call {l1 l2 : Addr} {xs ys : Array Value} {Q : Value → Shared → Prop} (hl1 : s.heap.IsTuple l1 xs) (hl2 : s.heap.IsTuple l2 ys)
    (h : ∀ h', IsZipS h' (s.heap.objs.size + 4) (s.heap.objs.size + 2) (s.heap.objs.size + 3) .none false → IsPair h' (s.heap.objs.size + 2) (.ref s.heap.objs.size) (.ref (s.heap.objs.size + 1)) →
      IsPair h' (s.heap.objs.size + 3) .none .none → h'.IsTupleIter s.heap.objs.size l1 0 → h'.IsTupleIter (s.heap.objs.size + 1) l2 0 → h'.objs.size = s.heap.objs.size + 5 →
      (∀ c o, s.heap.get? c = some o → h'.get? c = some o) → Q (.ref (s.heap.objs.size + 4)) { s with heap := h' }) :
    wpAny (model prog w) A (call (.type "zip") [.ref l1, .ref l2] KwS) Q E s := by
  refine callType_newKw F.called_zip (by decide) (zs_typeCall _ _) (zs_newCall _ _) (fun obj => zs_args obj _ _) F.entry_zip_new (zs_meets l1 l2 xs ys) ⟨hl1, hl2, ?_⟩
  have z1 : (zipTH1 s.heap l1).objs.size = s.heap.objs.size + 1 := Heap.size_push ..
  have z2 : (zipTH2 s.heap l1 l2).objs.size = s.heap.objs.size + 2 := by rw [Heap.size_push, z1]
  have z3 : (zipTH3 s.heap l1 l2).objs.size = s.heap.objs.size + 3 := by rw [Heap.size_push, z2]
  have z4 : (zipTH4 s.heap l1 l2).objs.size = s.heap.objs.size + 4 := by rw [Heap.size_push, z3]
  have z5 : (zsH5 s.heap l1 l2).objs.size = s.heap.objs.size + 5 := by rw [Heap.size_push, z4]
  have g5 : (zsH5 s.heap l1 l2).get? (zipTH4 s.heap l1 l2).objs.size = some _ := Heap.get?_push_size _ rfl
  have g4 : (zsH5 s.heap l1 l2).get? (zipTH3 s.heap l1 l2).objs.size = some _ := Heap.get?_push_of_some _ (Heap.get?_push_size _ rfl)
  have g3 : (zsH5 s.heap l1 l2).get? (zipTH2 s.heap l1 l2).objs.size = some _ := Heap.get?_push_of_some _ (Heap.get?_push_of_some _ (Heap.get?_push_size _ rfl))
  have g2 : (zsH5 s.heap l1 l2).get? (zipTH1 s.heap l1).objs.size = some _ := Heap.get?_push_of_some _ (Heap.get?_push_of_some _ (Heap.get?_push_of_some _ (Heap.get?_push_size _ rfl)))
  have g1 : (zsH5 s.heap l1 l2).get? s.heap.objs.size = some _ := Heap.get?_push_of_some _ (Heap.get?_push_of_some _ (Heap.get?_push_of_some _ (Heap.get?_push_of_some _ (Heap.get?_push_size _ rfl))))
  show _ ∧ _
  rw [z2, z3, z4] at g5
  rw [z1, z2] at g3
  rw [z3] at g4
  rw [z1] at g2
  rw [z4]
  exact ⟨⟨_, g5, rfl⟩, h _ g5 g3 g4 ⟨_, g1, rfl, rfl⟩ ⟨_, g2, rfl, rfl⟩ z5 fun c o x => Heap.get?_push_of_some _ (Heap.get?_push_of_some _ (Heap.get?_push_of_some _ (Heap.get?_push_of_some _ (Heap.get?_push_of_some _ x))))⟩
/-- the next item or the end -/
theorem noe_item {it l : Addr} {i : Nat} {items} {x : Value} {Q : Option Value → Shared → Prop} (hit : s.heap.IsTupleIter it l i) (hl : s.heap.IsTuple l items) (hx : items[i]? = some x)
    (hQ : ∀ h', h'.IsTupleIter it l (i + 1) → Heap.SameBut it s.heap h' → Q (some x) { s with heap := h' }) : wpAny (model prog w) A (Builtin.SmallTypes.nextOrEnd (.ref it)) Q E s := by
  unfold Builtin.SmallTypes.nextOrEnd
  exact wpAny_bind (wpAny_attempt (nextOf_tuple_item hit hl hx fun h' a b => wpAny_pure (hQ h' a b)))
theorem noe_end {it l : Addr} {i : Nat} {items} {Q : Option Value → Shared → Prop} (hh : A.handled = none) (hit : s.heap.IsTupleIter it l i) (hl : s.heap.IsTuple l items) (hx : items[i]? = none)
    (hQ : ∀ h', Heap.ExtBut it s.heap h' → Q none { s with heap := h' }) : wpAny (model prog w) A (Builtin.SmallTypes.nextOrEnd (.ref it)) Q E s := by
  unfold Builtin.SmallTypes.nextOrEnd
  refine wpAny_bind (wpAny_attempt (nextOf_tuple_end hh hit hl hx fun h' e hk he => ?_))
  obtain ⟨o, ho, hc⟩ := he
  refine wpAny_bind (wpAny_isInstance (T := "StopIteration") (b := true) ⟨o, ho, hc⟩ isSubtype_stop ?_)
  exact wpAny_pure (hQ h' hk)
theorem stop_at {Q : Fin → Shared → Prop} (hh : A.handled = none) (hE : ∀ h' e, (∀ c o, s.heap.get? c = some o → h'.get? c = some o) → (∃ o, h'.get? e = some o ∧ o.cls = .type "StopIteration") → E (.ref e) { s with heap := h' }) :
    wpAny (model prog w) A (Builtin.SmallTypes.stopIteration (α := Fin)) Q E s := by
  unfold Builtin.SmallTypes.stopIteration
  refine wpAny_bind ?_
  simp only [newExc, newTuple]
  refine wpAny_bind (wpAny_newObj_type ?_ (by size_fits))
  refine wpAny_bind (m := firstArgMember _ _) (wpAny_of_eq (a := Value.none) (by first | rfl | (simp only [firstArgMember]; rfl)) ?_)
  refine wpAny_newObj_type ?_ (by size_fits)
  simp only [raiseNew]
  refine wpAny_bind (wpAny_handled ?_)
  first | rw [show A.in1.handled = none from hh] | rw [hh]
  refine wpAny_bind (wpAny_pure (wpAny_throw ?_))
  exact hE _ _ (fun c o e => Heap.get?_push_of_some _ (Heap.get?_push_of_some _ e)) ⟨_, Heap.get?_push_size _ rfl, rfl⟩
end
section
variable {prog : Program} {w : World} {A : Around} {E : Value → Shared → Prop} {s : Shared}
theorem zs_free_item {z TI TO i1 i2 l1 l2 : Addr} {k1 k2 : Nat} {xs ys : Array Value} {x y a b : Value} {Q : Value → Shared → Prop} (D : ZipApart z TI TO i1 i2 l1 l2)
    (hz : IsZipS s.heap z TI TO .none false) (hTI : IsPair s.heap TI (.ref i1) (.ref i2)) (hTO : IsPair s.heap TO a b)
    (h1 : s.heap.IsTupleIter i1 l1 k1) (h2 : s.heap.IsTupleIter i2 l2 k2) (hl1 : s.heap.IsTuple l1 xs) (hl2 : s.heap.IsTuple l2 ys) (hx : xs[k1]? = some x) (hy : ys[k2]? = some y)
    (hQ : ∀ h', IsZipS h' z TI TO (rawInt s.heap.objs.size) false → h'.IsTupleIter i1 l1 (k1 + 1) → h'.IsTupleIter i2 l2 (k2 + 1) → IsPair h' s.heap.objs.size x y →
      (∀ c o, c ≠ z → c ≠ TO → c ≠ i1 → c ≠ i2 → s.heap.get? c = some o → h'.get? c = some o) → Q (.ref s.heap.objs.size) { s with heap := h' }) :
    wpAny (model prog w) A (Builtin.«zip.__next__» ⟨[.ref z], []⟩) (fun fin s' => ∃ v, fin = .done (.ret v) ∧ Q v s') E s := by
  show wpAny _ _ (field (.ref z) 2 >>= _) _ _ _
  refine wpAny_bind (wpAny_field hz rfl (x := .bool true) rfl ?_)
  show wpAny _ _ (field (.ref z) 3 >>= _) _ _ _
  refine wpAny_bind (wpAny_field hz rfl (x := .ref TI) rfl ?_)
  refine wpAny_bind (wpAny_seqItems hTI rfl ?_)
  show wpAny _ _ (Builtin.SmallTypes.ownedTupleIsFree (.ref z) >>= _) _ _ _
  refine wpAny_bind ?_
  unfold Builtin.SmallTypes.ownedTupleIsFree
  refine wpAny_bind (wpAny_field hz rfl (x := .none) rfl (wpAny_pure ?_))
  simp only [if_true]
  refine wpAny_bind (wpAny_rule ?_)
  refine wpAny_bind (wpAny_field hz rfl (x := .ref TO) rfl ?_)
  refine wpAny_bind (wpAny_setField_rec hz (by simp) fun h₁ hz₁ hs₁ => ?_)
  replace hz₁ : IsZipS h₁ z TI TO .ellipsis false := hz₁
  refine wpAny_bind ?_
  simp only [List.zipIdx_cons, List.zipIdx_nil, List.forIn_cons, List.forIn_nil]
  refine wpAny_bind (wpAny_bind (wpAny_onRaise ?_))
  show wpAny _ _ (Builtin.SmallTypes.nextOrEnd (.ref i1)) _ _ _
  refine noe_item (h1.extBut hs₁.extBut D.i1z) (hl1.extBut hs₁.extBut D.l1z) hx fun h₂ h1₂ hs₂ => ?_
  have hTO₂ : IsPair h₂ TO a b := hs₂.extBut _ _ D.TOi1 (hs₁.extBut _ _ D.TOz hTO)
  refine wpAny_bind (wpAny_seqItems hTO₂ rfl ?_)
  refine wpAny_bind (wpAny_updateSeq_pair hTO₂ fun h₃ hTO₃ hs₃ => ?_)
  replace hTO₃ : IsPair h₃ TO x b := hTO₃
  refine wpAny_bind (wpAny_letGo (wpAny_pure ?_))
  refine wpAny_bind (wpAny_bind (wpAny_onRaise ?_))
  show wpAny _ _ (Builtin.SmallTypes.nextOrEnd (.ref i2)) _ _ _
  refine noe_item (((h2.extBut hs₁.extBut D.i2z).extBut hs₂.extBut D.i12.symm).extBut hs₃.extBut D.TOi2.symm) (((hl2.extBut hs₁.extBut D.l2z).extBut hs₂.extBut D.l2i1).extBut hs₃.extBut D.l2TO) hy fun h₄ h2₄ hs₄ => ?_
  have hTO₄ : IsPair h₄ TO x b := hs₄.extBut _ _ D.TOi2 hTO₃
  refine wpAny_bind (wpAny_seqItems hTO₄ rfl ?_)
  refine wpAny_bind (wpAny_updateSeq_pair hTO₄ fun h₅ hTO₅ hs₅ => ?_)
  replace hTO₅ : IsPair h₅ TO x y := hTO₅
  refine wpAny_bind (wpAny_letGo (wpAny_pure (wpAny_pure ?_)))
  refine wpAny_bind (wpAny_seqItems hTO₅ rfl ?_)
  refine wpAny_bind (wpAny_newTuple ?_)
  have hsz : h₅.objs.size = s.heap.objs.size := by rw [hs₅.1, hs₄.1, hs₃.1, hs₂.1, hs₁.1]
  have hz₅ : IsZipS h₅ z TI TO .ellipsis false := hs₅.extBut _ _ D.TOz.symm (hs₄.extBut _ _ D.i2z.symm (hs₃.extBut _ _ D.TOz.symm (hs₂.extBut _ _ D.i1z.symm hz₁)))
  have hk₅ : ∀ c o, c ≠ z → c ≠ TO → c ≠ i1 → c ≠ i2 → s.heap.get? c = some o → h₅.get? c = some o := fun c o c1 c2 c3 c4 e =>
    hs₅.extBut _ _ c2 (hs₄.extBut _ _ c4 (hs₃.extBut _ _ c2 (hs₂.extBut _ _ c3 (hs₁.extBut _ _ c1 e))))
  have h1₅ : h₅.IsTupleIter i1 l1 (k1 + 1) := ((h1₂.extBut hs₃.extBut D.TOi1.symm).extBut hs₄.extBut D.i12).extBut hs₅.extBut D.TOi1.symm
  have h2₅ : h₅.IsTupleIter i2 l2 (k2 + 1) := h2₄.extBut hs₅.extBut D.TOi2.symm
  have hzlt : z < h₅.objs.size := Heap.lt_size hz₅
  show wpAny _ _ (Builtin.SmallTypes.ownedTupleHandOut (.ref z) (.ref h₅.objs.size) >>= _) _ _ _
  refine wpAny_bind ?_
  unfold Builtin.SmallTypes.ownedTupleHandOut
  have hz₆ : IsZipS (h₅.push { cls := .type "tuple", data := .seq #[x, y] }) z TI TO .ellipsis false := Heap.get?_push_of_some _ hz₅
  refine wpAny_bind (wpAny_setField_rec hz₆ (by simp) fun h₇ hz₇ hs₇ => ?_)
  replace hz₇ : IsZipS h₇ z TI TO (rawInt h₅.objs.size) false := hz₇
  refine wpAny_setField_rec hz₇ (by simp) fun h₈ hz₈ hs₈ => ?_
  replace hz₈ : IsZipS h₈ z TI TO (rawInt h₅.objs.size) false := hz₈
  have up : ∀ c o, c ≠ z → h₅.get? c = some o → h₈.get? c = some o := fun c o c1 e => hs₈.extBut _ _ c1 (hs₇.extBut _ _ c1 (Heap.get?_push_of_some _ e))
  have hT₈ : IsPair h₈ h₅.objs.size x y := hs₈.extBut _ _ (Nat.ne_of_gt hzlt) (hs₇.extBut _ _ (Nat.ne_of_gt hzlt) (Heap.get?_push_size _ rfl))
  rw [hsz] at hz₈ hT₈
  refine wpAny_pure ⟨_, rfl, ?_⟩
  show Q (.ref h₅.objs.size) _
  rw [hsz]
  exact hQ h₈ hz₈ (h1₅.at fun o e => up _ o D.i1z e) (h2₅.at fun o e => up _ o D.i2z e) hT₈ fun c o c1 c2 c3 c4 e => up c o c1 (hk₅ c o c1 c2 c3 c4 e)
theorem zs_held {z TI TO T : Addr} {f : Bool} {oT : Obj} {Q : Bool → Shared → Prop} (hz : IsZipS s.heap z TI TO (rawInt T) f) (hT : s.heap.get? T = some oT)
    (h : ∀ h', IsZipS h' z TI TO (rawInt T) true → Heap.SameBut z s.heap h' → Q false { s with heap := h' }) : wpAny (model prog w) A (Builtin.SmallTypes.ownedTupleIsFree (.ref z)) Q E s := by
  unfold Builtin.SmallTypes.ownedTupleIsFree
  refine wpAny_bind (wpAny_field hz rfl (x := rawInt T) rfl ?_)
  show wpAny _ _ (loadIfAlive ((T : Int).toNat) >>= _) _ _ _
  rw [Int.toNat_natCast]
  refine wpAny_bind (PySem.W.kdx_alive hT ?_)
  simp only [Option.isNone_some, Bool.false_eq_true, if_false]
  refine wpAny_bind (wpAny_field hz rfl (x := .bool f) rfl ?_)
  cases f with
  | true =>
    rw [if_neg (show ¬ ((Value.bool true != Value.bool true) = true) from Bool.false_ne_true)]
    exact wpAny_pure (h s.heap hz (Heap.SameBut.refl _ _))
  | false =>
    rw [if_pos (show (Value.bool false != Value.bool true) = true from rfl)]
    exact wpAny_bind (wpAny_setField_rec hz (by simp) fun h₁ hz₁ hs₁ => wpAny_pure (h h₁ hz₁ hs₁))
theorem zs_held_item {z TI TO T i1 i2 l1 l2 : Addr} {f : Bool} {oT : Obj} {k1 k2 : Nat} {xs ys : Array Value} {x y : Value} {Q : Value → Shared → Prop} (D : ZipApart z TI TO i1 i2 l1 l2)
    (hz : IsZipS s.heap z TI TO (rawInt T) f) (hT : s.heap.get? T = some oT) (hTI : IsPair s.heap TI (.ref i1) (.ref i2))
    (h1 : s.heap.IsTupleIter i1 l1 k1) (h2 : s.heap.IsTupleIter i2 l2 k2) (hl1 : s.heap.IsTuple l1 xs) (hl2 : s.heap.IsTuple l2 ys) (hx : xs[k1]? = some x) (hy : ys[k2]? = some y)
    (hQ : ∀ h', IsZipS h' z TI TO (rawInt T) true → h'.IsTupleIter i1 l1 (k1 + 1) → h'.IsTupleIter i2 l2 (k2 + 1) → IsPair h' s.heap.objs.size x y →
      (∀ c o, c ≠ z → c ≠ i1 → c ≠ i2 → s.heap.get? c = some o → h'.get? c = some o) → Q (.ref s.heap.objs.size) { s with heap := h' }) :
    wpAny (model prog w) A (Builtin.«zip.__next__» ⟨[.ref z], []⟩) (fun fin s' => ∃ v, fin = .done (.ret v) ∧ Q v s') E s := by
  show wpAny _ _ (field (.ref z) 2 >>= _) _ _ _
  refine wpAny_bind (wpAny_field hz rfl (x := .bool true) rfl ?_)
  show wpAny _ _ (field (.ref z) 3 >>= _) _ _ _
  refine wpAny_bind (wpAny_field hz rfl (x := .ref TI) rfl ?_)
  refine wpAny_bind (wpAny_seqItems hTI rfl ?_)
  show wpAny _ _ (Builtin.SmallTypes.ownedTupleIsFree (.ref z) >>= _) _ _ _
  refine wpAny_bind (zs_held hz hT fun h₁ hz₁ hs₁ => ?_)
  simp only [Bool.false_eq_true, if_false]
  refine wpAny_bind ?_
  rw [← Array.forIn_toList]
  simp only [List.forIn_cons, List.forIn_nil]
  refine wpAny_bind (wpAny_bind (wpAny_holding ?_))
  show wpAny _ _ (Builtin.SmallTypes.nextOrEnd (.ref i1)) _ _ _
  refine noe_item (s := { s with heap := h₁ }) (h1.extBut hs₁.extBut D.i1z) (hl1.extBut hs₁.extBut D.l1z) hx fun h₂ h1₂ hs₂ => ?_
  refine wpAny_pure ?_
  refine wpAny_bind (wpAny_bind (wpAny_holding ?_))
  show wpAny _ _ (Builtin.SmallTypes.nextOrEnd (.ref i2)) _ _ _
  refine noe_item (s := { s with heap := h₂ }) ((h2.extBut hs₁.extBut D.i2z).extBut hs₂.extBut D.i12.symm) ((hl2.extBut hs₁.extBut D.l2z).extBut hs₂.extBut D.l2i1) hy fun h₃ h2₃ hs₃ => ?_
  refine wpAny_pure (wpAny_pure ?_)
  show wpAny _ _ (newTuple [x, y] >>= _) _ _ _
  refine wpAny_bind (wpAny_newTuple ?_)
  have hsz : h₃.objs.size = s.heap.objs.size := by rw [hs₃.1, hs₂.1, hs₁.1]
  have hz₃ : IsZipS h₃ z TI TO (rawInt T) true := hs₃.extBut _ _ D.i2z.symm (hs₂.extBut _ _ D.i1z.symm hz₁)
  have hk : ∀ c o, c ≠ z → c ≠ i1 → c ≠ i2 → s.heap.get? c = some o → h₃.get? c = some o := fun c o c1 c2 c3 e => hs₃.extBut _ _ c3 (hs₂.extBut _ _ c2 (hs₁.extBut _ _ c1 e))
  have h1₃ : h₃.IsTupleIter i1 l1 (k1 + 1) := h1₂.extBut hs₃.extBut D.i12
  refine wpAny_pure ⟨_, rfl, ?_⟩
  show Q (.ref h₃.objs.size) _
  have hp : IsPair (h₃.push { cls := .type "tuple", data := .seq #[x, y] }) h₃.objs.size x y := Heap.get?_push_size _ rfl
  rw [hsz] at hp ⊢
  exact hQ _ (Heap.get?_push_of_some _ hz₃) (h1₃.at fun o e => Heap.get?_push_of_some _ e) (h2₃.at fun o e => Heap.get?_push_of_some _ e) hp fun c o c1 c2 c3 e => Heap.get?_push_of_some _ (hk c o c1 c2 c3 e)
theorem zs_held_end {z TI TO T i1 i2 l1 l2 : Addr} {f : Bool} {oT : Obj} {k1 k2 : Nat} {xs ys : Array Value} {Q : Fin → Shared → Prop} (hh : A.handled = none) (D : ZipApart z TI TO i1 i2 l1 l2)
    (hz : IsZipS s.heap z TI TO (rawInt T) f) (hT : s.heap.get? T = some oT) (hTI : IsPair s.heap TI (.ref i1) (.ref i2))
    (h1 : s.heap.IsTupleIter i1 l1 k1) (h2 : s.heap.IsTupleIter i2 l2 k2) (hl1 : s.heap.IsTuple l1 xs) (hl2 : s.heap.IsTuple l2 ys) (hx : xs[k1]? = none) (hy : ys[k2]? = none)
    (hE : ∀ h' e, (∀ c o, c ≠ z → c ≠ i1 → c ≠ i2 → s.heap.get? c = some o → h'.get? c = some o) → (∃ o, h'.get? e = some o ∧ o.cls = .type "StopIteration") → E (.ref e) { s with heap := h' }) :
    wpAny (model prog w) A (Builtin.«zip.__next__» ⟨[.ref z], []⟩) Q E s := by
  show wpAny _ _ (field (.ref z) 2 >>= _) _ _ _
  refine wpAny_bind (wpAny_field hz rfl (x := .bool true) rfl ?_)
  show wpAny _ _ (field (.ref z) 3 >>= _) _ _ _
  refine wpAny_bind (wpAny_field hz rfl (x := .ref TI) rfl ?_)
  refine wpAny_bind (wpAny_seqItems hTI rfl ?_)
  show wpAny _ _ (Builtin.SmallTypes.ownedTupleIsFree (.ref z) >>= _) _ _ _
  refine wpAny_bind (zs_held hz hT fun h₁ hz₁ hs₁ => ?_)
  simp only [Bool.false_eq_true, if_false]
  refine wpAny_bind ?_
  rw [← Array.forIn_toList]
  simp only [List.forIn_cons, List.forIn_nil]
  refine wpAny_bind (wpAny_bind (wpAny_holding ?_))
  show wpAny _ _ (Builtin.SmallTypes.nextOrEnd (.ref i1)) _ _ _
  refine noe_end (s := { s with heap := h₁ }) hh (h1.extBut hs₁.extBut D.i1z) (hl1.extBut hs₁.extBut D.l1z) hx fun h₂ hs₂ => ?_
  refine wpAny_bind ?_
  show wpAny _ _ (forIn (([Value.ref i1, Value.ref i2].drop 1).zipIdx 1) _ _ >>= _) _ _ _
  simp only [List.drop_succ_cons, List.drop_zero, List.zipIdx_cons, List.zipIdx_nil, List.forIn_cons, List.forIn_nil]
  refine wpAny_bind (wpAny_bind (wpAny_bind ?_))
  refine noe_end (s := { s with heap := h₂ }) hh ((h2.extBut hs₁.extBut D.i2z).extBut hs₂ D.i12.symm) ((hl2.extBut hs₁.extBut D.l2z).extBut hs₂ D.l2i1) hy fun h₃ hs₃ => ?_
  refine wpAny_pure ?_
  refine wpAny_pure ?_
  refine wpAny_bind (wpAny_rule ?_)
  exact stop_at hh fun h' e hk he => hE h' e (fun c o c1 c2 c3 q => hk c o (hs₃ _ _ c3 (hs₂ _ _ c2 (hs₁.extBut _ _ c1 q)))) he
theorem zs_next {z : Addr} {Q : Option Value → Shared → Prop} (hTy : s.TypeIs (.ref z) "zip") (h : wpAny (model prog w) A.in1 (Builtin.«zip.__next__» ⟨[.ref z], []⟩) (fun fin s' => ∃ v, fin = .done (.ret v) ∧ Q (some v) s')
    (fun e s' => ∃ a, e = .ref a ∧ (∃ o, s'.heap.get? a = some o ∧ o.cls = .type "StopIteration") ∧ Q none s') s) : wpAny (model prog w) A (pyNext (.ref z)) Q E s := by
  unfold pyNext
  refine wpAny_bind (wpAny_attempt (wpAny_callSpecial?_slot (name := Str.ofString "__next__") hTy F.slot_zip_next (wpAny_call_entry F.slot_zip_next hTy F.entry_zip_next (wpAny_mono h (fun fin s' h' => ?_) fun e s' h' => ?_) (F.args_zip_next_1 _))))
  · obtain ⟨v, e, q⟩ := h'
    exact ⟨v, e, wpAny_pure q⟩
  · obtain ⟨a, rfl, ⟨o, ho, hc⟩, q⟩ := h'
    refine wpAny_bind (wpAny_isInstance (T := "StopIteration") (b := true) ⟨o, ho, hc⟩ isSubtype_stop ?_)
    exact wpAny_pure q
end
theorem zs_pairs {prog : Program} {w : World} (z TI TO i1 i2 l1 l2 : Addr) (D : ZipApart z TI TO i1 i2 l1 l2) (xs ys : Array Value) (hn : xs.size = ys.size) (h0 : 0 < xs.size) :
    PairArg prog w "zip" z [z, TI, TO, i1, i2, l1, l2] [z, TO, i1, i2] xs.size (fun i k v => xs[i]? = some k ∧ ys[i]? = some v)
      (fun h => IsZipS h z TI TO .none false ∧ IsPair h TI (.ref i1) (.ref i2) ∧ (∃ a b, IsPair h TO a b) ∧ h.IsTupleIter i1 l1 0 ∧ h.IsTupleIter i2 l2 0 ∧ h.IsTuple l1 xs ∧ h.IsTuple l2 ys) where
  type := fun s ok => ⟨_, ok.1, rfl⟩
  notDict := by decide
  keep := fun h h' ok hk => by
    obtain ⟨hz, hTI, ⟨a, b, hTO⟩, h1, h2, hl1, hl2⟩ := ok
    exact ⟨hk _ _ hz, hk _ _ hTI, ⟨a, b, hk _ _ hTO⟩, h1.at fun o e => hk _ o e, h2.at fun o e => hk _ o e, hl1.at fun o e => hk _ o e, hl2.at fun o e => hk _ o e⟩
  there := fun h ok b hb => by
    obtain ⟨hz, hTI, ⟨a, c, hTO⟩, ⟨o1, h1, _⟩, ⟨o2, h2, _⟩, ⟨o3, hl1, _⟩, ⟨o4, hl2, _⟩⟩ := ok
    simp only [List.mem_cons, List.not_mem_nil, or_false] at hb
    rcases hb with rfl | rfl | rfl | rfl | rfl | rfl | rfl
    all_goals first | exact ⟨_, hz⟩ | exact ⟨_, hTI⟩ | exact ⟨_, hTO⟩ | exact ⟨_, h1⟩ | exact ⟨_, h2⟩ | exact ⟨_, hl1⟩ | exact ⟨_, hl2⟩
  sub := fun b hb => by simp at hb ⊢; rcases hb with rfl | rfl | rfl | rfl <;> simp
  noKeys := fun A s Q E hA ok h => getAttrOr_miss_zip ok.1 rfl rfl rfl zip_no_keys (by decide +kernel) hA h
  iter := fun A s d Q E hA ok hd hdf h => by
    obtain ⟨hz, hTI, ⟨a, b, hTO⟩, h1, h2, hl1, hl2⟩ := ok
    simp only [List.mem_cons, List.not_mem_nil, or_false, not_or] at hdf
    obtain ⟨dz, dTI, dTO, di1, di2, dl1, dl2⟩ := hdf
    have iter0 : ∀ {Q : Value → Shared → Prop}, Q (.ref z) s → wpAny (model prog w) A (pyIter (.ref z)) Q E s := fun {Q} q => by
      have hT : s.TypeIs (.ref z) "zip" := ⟨_, hz, rfl⟩
      refine wpAny_pyIter_slot hT F.slot_zip_iter (wpAny_call_entry F.slot_zip_iter hT F.entry_zip_iter ?_ (F.args_zip_iter_1 _))
      show wpAny _ _ (ret (.ref z)) _ _ s
      exact wpAny_pure ⟨_, rfl, "zip", _, hT, F.slot_zip_next.lookup, q⟩
    refine iter0 (h z [z, TO, i1, i2] (fun i h => IsPair h TI (.ref i1) (.ref i2) ∧ h.IsTupleIter i1 l1 i ∧ h.IsTupleIter i2 l2 i ∧ h.IsTuple l1 xs ∧ h.IsTuple l2 ys ∧
      ((i = 0 ∧ IsZipS h z TI TO .none false ∧ ∃ a b, IsPair h TO a b) ∨ ∃ (T : Addr) (f : Bool) (oT : Obj), IsZipS h z TI TO (rawInt T) f ∧ h.get? T = some oT ∧ T ≠ z ∧ T ≠ i1 ∧ T ≠ i2 ∧ T ≠ d)) s.heap s.toks ?_
      ⟨hTI, h1, h2, hl1, hl2, .inl ⟨rfl, hz, a, b, hTO⟩⟩ (fun _ _ e => e) fun b hb => .inl hb)
    exact {
      off := fun hm => by
        simp only [List.mem_cons, List.not_mem_nil, or_false] at hm
        rcases hm with e | e | e | e
        · exact dz e
        · exact dTO e
        · exact di1 e
        · exact di2 e
      frame := fun i h₁ h₂ st hk => by
        obtain ⟨hTI, h1, h2, hl1, hl2, hz⟩ := st
        refine ⟨hk _ _ (Ne.symm dTI) hTI, h1.at fun o e => hk _ o (Ne.symm di1) e, h2.at fun o e => hk _ o (Ne.symm di2) e, hl1.at fun o e => hk _ o (Ne.symm dl1) e, hl2.at fun o e => hk _ o (Ne.symm dl2) e, ?_⟩
        rcases hz with ⟨e0, hz, a, b, hTO⟩ | ⟨T, f, oT, hz, hT, r1, r2, r3, r4⟩
        · exact .inl ⟨e0, hk _ _ (Ne.symm dz) hz, a, b, hk _ _ (Ne.symm dTO) hTO⟩
        · exact .inr ⟨T, f, oT, hk _ _ (Ne.symm dz) hz, hk _ _ r4 hT, r1, r2, r3, r4⟩
      item := fun i s₁ Q₁ E₁ hi st hds hQ => by
        obtain ⟨hTI, h1, h2, hl1, hl2, hz⟩ := st
        have ex := Array.getElem?_eq_getElem hi
        have ey := Array.getElem?_eq_getElem (show i < ys.size by omega)
        have lt : ∀ {c o}, s₁.heap.get? c = some o → s₁.heap.objs.size ≠ c := fun e => Nat.ne_of_gt (Heap.lt_size e)
        have n1 : s₁.heap.objs.size ≠ i1 := let ⟨_, e, _⟩ := h1; lt e
        have n2 : s₁.heap.objs.size ≠ i2 := let ⟨_, e, _⟩ := h2; lt e
        rcases hz with ⟨_, hz, a, b, hTO⟩ | ⟨T, f, oT, hz, hT, r1, r2, r3, r4⟩
        · refine zs_next ⟨_, hz, rfl⟩ (wpAny_mono (zs_free_item (E := fun _ _ => False) (Q := fun v s' => Q₁ (some v) s') D hz hTI hTO h1 h2 hl1 hl2 ex ey fun h' a1 a3 a4 a5 hk => ?_) (fun _ _ x => x) fun _ _ x => x.elim)
          exact hQ s₁.heap.objs.size _ _ h' s₁.toks ⟨ex, ey⟩ (.inl ⟨_, a5, rfl, _, rfl⟩)
            ⟨hk _ _ D.TIz D.TITO D.TIi1 D.TIi2 hTI, a3, a4, hl1.at fun o e => hk _ o D.l1z D.l1TO D.l1i1 D.l1i2 e, hl2.at fun o e => hk _ o D.l2z D.l2TO D.l2i1 D.l2i2 e,
              .inr ⟨s₁.heap.objs.size, false, _, a1, a5, lt hz, n1, n2, Nat.ne_of_gt hds⟩⟩
            fun c o hc e => hk c o (fun x => hc (by simp [x])) (fun x => hc (by simp [x])) (fun x => hc (by simp [x])) (fun x => hc (by simp [x])) e
        · refine zs_next ⟨_, hz, rfl⟩ (wpAny_mono (zs_held_item (E := fun _ _ => False) (Q := fun v s' => Q₁ (some v) s') D hz hT hTI h1 h2 hl1 hl2 ex ey fun h' a1 a3 a4 a5 hk => ?_) (fun _ _ x => x) fun _ _ x => x.elim)
          exact hQ s₁.heap.objs.size _ _ h' s₁.toks ⟨ex, ey⟩ (.inl ⟨_, a5, rfl, _, rfl⟩)
            ⟨hk _ _ D.TIz D.TIi1 D.TIi2 hTI, a3, a4, hl1.at fun o e => hk _ o D.l1z D.l1i1 D.l1i2 e, hl2.at fun o e => hk _ o D.l2z D.l2i1 D.l2i2 e,
              .inr ⟨T, true, oT, a1, hk _ _ r1 r2 r3 hT, r1, r2, r3, r4⟩⟩
            fun c o hc e => hk c o (fun x => hc (by simp [x])) (fun x => hc (by simp [x])) (fun x => hc (by simp [x])) e
      done := fun s₁ Q₁ E₁ st hQ => by
        obtain ⟨hTI, h1, h2, hl1, hl2, hz⟩ := st
        rcases hz with ⟨e0, _⟩ | ⟨T, f, oT, hz, hT, r1, r2, r3, r4⟩
        · omega
        · exact zs_next ⟨_, hz, rfl⟩ (zs_held_end hA D hz hT hTI h1 h2 hl1 hl2 (Array.getElem?_eq_none (Nat.le_refl _)) (Array.getElem?_eq_none (by omega)) fun h' e hk he => ⟨e, rfl, he, hQ h' s₁.toks fun c o hc q => hk c o (fun x => hc (by simp [x])) (fun x => hc (by simp [x])) (fun x => hc (by simp [x])) q⟩) }
section
variable {M : Model} {A : Around} {E : Value → Shared → Prop} {s : Shared} {env : Env}
theorem callWith_tyKw {pos : Pos} {T : String} {first : List Value} {args : List (Bool × Sem Value)} {keywords : List (Option Str × Sem Value)} {Q : Value → Shared → Prop} (hplain : args.any (·.1) = false) (hkw : keywords.any (·.1.isNone) = false)
    (h : wpAny M A (evalArgs (.type T) true args keywords) (fun a s₁ => wpAny M A (call (.type T) (first ++ a.pos) a.kw) Q E s₁) E s) : wpAny M A (callWith pos (.type T) first args keywords) Q E s := by
  unfold callWith
  refine wpAny_bind (wpAny_holding (wpAny_mono h (fun a s₁ h₁ => wpAny_bind (wpAny_standAt ?_)) fun _ _ x => x))
  simp only [hplain, hkw, Bool.or_false]
  refine wpAny_bind (wpAny_pure ?_)
  exact wpAny_bind (wpAny_mono h₁ (fun r s₂ hr => wpAny_bind (wpAny_holding (wpAny_point (wpAny_pure hr)))) fun _ _ x => x)
end
def tDictZip (K : PySem.W.Frag) (ta : TA) : TE := fun σ H Q => ta σ H fun vs H1 => ∃ (a b : Addr) (kvs : List (Key × V)), vs = [.ref a, .ref b] ∧ SqT K H1 a (kvs.map fun kv => kV kv.1) ∧ SqT K H1 b (kvs.map (·.2)) ∧ kvs ≠ [] ∧ ∀ p, H1 p = none → Q (.ref p) (upd H1 p (.dK (mergeK [] kvs)))
theorem kv_split {P : Program} {w : World} : ∀ {kvs : List (Key × V)} {us ws : List Value}, Vals (kvs.map fun kv => kV kv.1) us → Vals (kvs.map (·.2)) ws →
    ∃ prs : List (Key × Value), KV kvs prs ∧ prs.length = us.length ∧ us.length = ws.length ∧ ∀ (j : Nat) (u y : Value), us[j]? = some u → ws[j]? = some y → ∃ k, prs[j]? = some (k, y) ∧ (mixKind P w).is k u = true
  | [], _, _, .nil, .nil => ⟨[], .nil, rfl, rfl, fun j u y e => by simp at e⟩
  | kv :: kvs, _, _, .cons r t, .cons r2 t2 => by
    rename_i u us y ws
    obtain ⟨prs, k1, k2, k3, k4⟩ := kv_split (P := P) (w := w) t t2
    refine ⟨(kv.1, y) :: prs, .cons ⟨rfl, r2⟩ k1, by simp [k2], by simp [k3], fun j u' y' e1 e2 => ?_⟩
    cases j with
    | zero =>
      cases e1
      cases e2
      exact ⟨kv.1, rfl, kV_is r⟩
    | succ j => exact k4 j u' y' (by simpa using e1) (by simpa using e2)
theorem pe_dictZip {X : Cx} {e e2 : Expr} {ta : TA} {p p2 q pos kp cp : Pos} {kk : Nat} (hg : Gl X "dict") (hm : X.mg "dict" = none) (hg2 : Gl X "zip") (hm2 : X.mg "zip" = none) (ha : PA X [e, e2] ta) (hc : X.calm = true := by rfl)
    (hs : starEach [e, e2] X.env = (false, eval e X.env) :: starEach [e2] X.env := by rfl) (hpl : (backTo q (starEach [e, e2] X.env)).any (·.1) = false := by rfl) (hall : (backToKw q (keywordEach [⟨some "strict", .Constant (.bool true) kk cp, kp⟩] X.env)).all (·.1.isSome) = true := by rfl)
    (hkw : (backToKw q (keywordEach [⟨some "strict", .Constant (.bool true) kk cp, kp⟩] X.env)).any (·.1.isNone) = false := by rfl) :
    PE X (.Call (.Name "dict" p) [.Call (.Name "zip" p2) [e, e2] [⟨some "strict", .Constant (.bool true) kk cp, kp⟩] q] [] pos) (tDictZip X.K ta) := by
  refine ⟨fun pins s σ H Q I h => ?_⟩
  refine Call_ (ld_blt I hg hm PyProof.Rows.boot_dict ?_)
  refine PyProof.Rows.callWith_type1 (PyProof.Rows.args_cons ?_ rfl) rfl rfl
  refine wpAny_Call_Name_kw (ld_blt I hg2 hm2 PyProof.Rows.boot_zip ?_)
  refine callWith_tyKw hpl hkw (evalArgs_kw2 hall (thn (ha.run q pins s σ H _ I h) fun us s1 ⟨vs, H1, I1, r1, q1⟩ => ?_) hs)
  refine kwAll_cons (PyProof.Rows.Constant_bool (kwAll_nil ?_))
  obtain ⟨a, b, kvs, rfl, hx, hy, hne, q1⟩ := q1
  obtain ⟨u1, u2, rfl, r1, r2⟩ := vals2 r1
  obtain rfl : u1 = .ref a := r1
  obtain rfl : u2 = .ref b := r2
  obtain ⟨its, rv, p1, hz1⟩ := I1.tuple hx
  obtain ⟨its2, rv2, p2, hz2⟩ := I1.tuple hy
  obtain ⟨prs, k1, k2, k3, k4⟩ := kv_split (P := X.prog) (w := X.w) rv rv2
  obtain ⟨o1, ho1, _⟩ := id p1
  obtain ⟨o2, ho2, _⟩ := id p2
  refine zs_call (show s1.heap.IsTuple a its.toArray from p1) (show s1.heap.IsTuple b its2.toArray from p2) fun h' hz hTI hTO h1 h2 hsz hk => ?_
  refine PyProof.Rows.args_nil ?_
  have D := PySem.W.ktu_apart s1.heap.objs.size a b (Heap.lt_size ho1) (Heap.lt_size ho2)
  have l0 : 0 < its.length := by
    rw [← rv.length, List.length_map]
    exact List.length_pos_iff.mpr hne
  have hl : kvs.length = its.length := by rw [← rv.length, List.length_map]
  refine PySem.call_dict_pairs (knd := mixKind X.prog X.w) (kvs := prs) (zs_pairs _ _ _ _ _ a b D its.toArray its2.toArray (by simpa using k3) (by simpa using l0)) (I1.ok.hd hc) ⟨hz, hTI, ⟨_, _, hTO⟩, h1, h2, (show s1.heap.IsTuple a its.toArray from p1).at fun o e => hk _ o e, (show s1.heap.IsTuple b its2.toArray from p2).at fun o e => hk _ o e⟩
    ⟨by simp [k2], fun i key v ⟨e1, e3⟩ => k4 i key v (by simpa using e1) (by simpa using e3)⟩ (by rw [List.size_toArray, ← rv.length]; exact hz1) fun h2 tk hd' k => ?_
  have hm : (h'.objs.size == sysModules) = false := beq_eq_false_iff_ne.mpr (Nat.ne_of_gt (Nat.lt_of_lt_of_le I1.big (by omega)))
  have hlen : (mergeK [] kvs).length ≤ sizeLine := by
    refine Nat.le_trans (length_mergeK kvs []) ?_
    rw [List.length_nil, Nat.zero_add]
    simpa using hz1
  have kk : ∀ b o, s1.heap.get? b = some o → h2.get? b = some o := fun c o e => by
    have lt := Heap.lt_size e
    refine k c o (fun hm => ?_) (hk c o e)
    have nj : ∀ j : Nat, c ≠ s1.heap.objs.size + j := fun j => Nat.ne_of_lt (Nat.lt_of_lt_of_le lt (Nat.le_add_right _ j))
    simp only [List.mem_cons, List.not_mem_nil, or_false] at hm
    rcases hm with e | e | e | e
    · exact nj 4 e
    · exact nj 3 e
    · exact nj 0 e
    · exact nj 1 e
  exact ⟨.ref h'.objs.size, upd H1 h'.objs.size (.dK (mergeK [] kvs)), I1.laid (t' := tk) kk (by omega) (show ObjOk X.prog X.w _ _ _ (.dK (mergeK [] kvs)) from ⟨hlen, hm, merged [] prs, KV.merge k1 .nil, hd'⟩), rfl, q1 _ (I1.hok.fresh (by omega))⟩
end L2.EX
namespace L2.EX
open PySem PySem.Spec PyProof.Rows Evl
/-! The tree of kinds is made. -/
section
variable {K : Frg} {σ : L2.St} {H : Hp} {ta : TA} {g : TG} {tu : TS} {D : Ends} {tz : TS} {a : Addr} {xs : List V}
theorem s_forEnT (h : EvA ta σ H [.ref a]) (hx : SqT K H a xs) (Pv : Nat → L2.St → Hp → Prop) (h0 : ∀ H1, Ex H H1 → Pv 0 σ H1) (hl : ∀ i σ' H', i ≤ xs.length → Pv i σ' H' → SqT K H' a xs)
    (hs : ∀ i x σ' H' T, xs[i]? = some x → Pv i σ' H' → H' T = none → g (.ref T) σ' (upd H' T (.tup [.int (i : Nat), x])) fun σ2 H2 => tu { D with nx := Pv (i + 1), ct := Pv (i + 1), bk := D.nx } σ2 H2) (hd : ∀ σ' H', Pv xs.length σ' H' → D.nx σ' H') : tFor (iEnumT K ta) g tu D σ H :=
  h H (Ex.refl H) _ fun H1 e1 => ⟨a, xs, rfl, ex_t e1 hx, for_enumT Pv (h0 H1 e1) hl hs hd⟩
/-- for i, x in enumerate(t) -/
theorem s_forEn {i j : Nat} (h : EvA ta σ H [.ref a]) (hx : SqT K H a xs) (Pv : Nat → L2.St → Hp → Prop) (h0 : ∀ H1, Ex H H1 → Pv 0 σ H1) (hl : ∀ i σ' H', i ≤ xs.length → Pv i σ' H' → SqT K H' a xs)
    (hs : ∀ (n : Nat) x σ' H' H1, xs[n]? = some x → Pv n σ' H' → Ex H' H1 → tu { D with nx := Pv (n + 1), ct := Pv (n + 1), bk := D.nx } ((σ'.set i (some (.int n))).set j (some x)) H1) (hd : ∀ σ' H', Pv xs.length σ' H' → D.nx σ' H') :
    tFor (iEnumT K ta) (gTup K 2 (gCons (gName i) (gCons (gName j) gNil))) tu D σ H :=
  s_forEnT h hx Pv h0 hl (fun n x σ' H' T e p hT => ⟨T, _, rfl, st_of upd_same, rfl, g_cons (g_cons (g_nil (hs n x σ' H' _ e p (Ex.new hT))))⟩) hd
theorem q_forEn {i j : Nat} (h : EvA ta σ H [.ref a]) (hx : SqT K H a xs) (Pv : Nat → L2.St → Hp → Prop) (h0 : ∀ H1, Ex H H1 → Pv 0 σ H1) (hl : ∀ i σ' H', i ≤ xs.length → Pv i σ' H' → SqT K H' a xs)
    (hs : ∀ (n : Nat) x σ' H' H1, xs[n]? = some x → Pv n σ' H' → Ex H' H1 → tu { D with nx := Pv (n + 1), ct := Pv (n + 1), bk := tz D } ((σ'.set i (some (.int n))).set j (some x)) H1) (hd : ∀ σ' H', Pv xs.length σ' H' → tz D σ' H') :
    tSeq (tFor (iEnumT K ta) (gTup K 2 (gCons (gName i) (gCons (gName j) gNil))) tu) tz D σ H := s_forEn (D := { D with nx := tz D }) h hx Pv h0 hl hs hd
end
def kinds6 : List (Key × V) := [(Sum.inr "Base", .non), (Sum.inr "Exit", .str "Base"), (Sum.inr "Error", .str "Base"), (Sum.inr "Stop", .str "Error"), (Sum.inr "Name", .str "Error"), (Sum.inr "State", .str "Error")]
theorem kp_Key : isKindP "Key" := ⟨by decide, by decide, ⟨75, by decide +kernel, by decide +kernel, by decide +kernel⟩, by decide +kernel⟩
theorem kp_Near : isKindP "Near" := ⟨by decide, by decide, ⟨78, by decide +kernel, by decide +kernel, by decide +kernel⟩, by decide +kernel⟩
section
variable {w : World} {K : Frg} {mg : Str → Option Value} {base : Heap}
/-- the dict of the kinds behind n pairs -/
def kd (n : Nat) : List (Key × V) := kinds6 ++ ([(Sum.inr "Key", .str "Error"), (Sum.inr "Near", .str "Key")] : List (Key × V)).take n
def pr (n : Nat) : Str × Str := if n = 0 then ("Key", "Error") else ("Near", "Key")
def sp_kt0 (K : Frg) : Sp := fun vs H Q _ => ∃ (H0 : Hp) (x dx p q0 q1 : Addr), vs = [.ref x, .ref p] ∧ H p = some (.tup [.ref q0, .ref q1]) ∧ H q0 = some (.tup [.str "Key", .str "Error"]) ∧ H q1 = some (.tup [.str "Near", .str "Key"]) ∧ Own H0 H [(x, .ins (a_KindTree K) dx [])] ∧
  ∀ H' PD, Own H0 H' [(x, .ins (a_KindTree K) dx [("s1_parents", .ref PD)]), (PD, .dK kindsK)] → Q .non H'
def sp_kt (K : Frg) : Sp := fun vs H Q E => ∃ ws rest, vs = ws ++ rest ∧ ws.length = [("self" : Str)].length ∧ rest.length ≤ sizeLine ∧ ∀ p, H p = none → sp_kt0 K (ws ++ [V.ref p]) (upd H p (.tup rest)) Q E
theorem ok_KindTree_init (T : Tx w K mg) (F_is_kind : FOk PW w K mg base 2 (f_is_kind K) ["value"] [] sp_is_kind) (F_KindTree_is_known : FOk PW w K mg base 1 (f_KindTree_is_known K) ["self", "kind"] [] (sp_known K)) :
    FnR PW w K mg base C8.CX0 3 (f_KindTree_init K) (sp_kt K) := by
  obtain ⟨fd, F⟩ := T.d_KindTree_init
  obtain ⟨oc, od, dV, kV, doc, pm, an, cdv, ct, osl, rfl, lk, hcd, hD, hK⟩ := F.ex
  obtain rfl : dV = .none := by
    rcases hD with ⟨_, rfl⟩ | ⟨e, _⟩
    · rfl
    · exact absurd rfl e
  refine StX.fn_star (ps := ["self"]) (pv := "pairs") (sp := sp_kt0 K) lk hcd sc_KindTree_init StX.cxUp_none (StX.bind_star1 (B := fun l => bindArgs (PySem.W.fnOf r_KindTree_init.name r_KindTree_init.qual r_KindTree_init.params r_KindTree_init.body r_KindTree_init.scope .none kV doc pm an cdv ct) ⟨l, []⟩) (p1 := "self") (pv := "pairs") (fun a => rfl) (fun a r rs => rfl)) fun A outer s H vs Q E hr h => ?_
  obtain ⟨H0, x, dx, p, q0, q1, rfl, hp, hq0, hq1, w0, k⟩ := h
  refine ⟨_, (PSs.nox (pss_cons (ps_fld (pv 0) (pe_dictZip rfl T.z_dict rfl T.z_zip (pa_cons (pe_gref rfl T.g_FIRST_KINDS) (pa_cons (pe_gref rfl T.g_FIRST_PARENTS) pa_nil))) rfl) (pss_one (ps_for PassesOwn.never rfl (pi_enumT rfl T.z_enumerate (pa_cons (pv 1) pa_nil)) (pg_tup rfl (pgs_cons (pg_name (i := 2) sc_KindTree_init.nd rfl (Or.inl rfl)) (pgs_cons (pg_name (i := 3) sc_KindTree_init.nd rfl (Or.inl rfl)) pgs_nil))) (pss_cons (ps_if (PW.pt (pw_or (pt_not (pt_val (pe_callB call_isi rfl T.z_isinstance boot_isinstance (pa_cons (pv 3) (pa_cons (pe_gty rfl T.z_tuple boot_tuple) pa_nil))))) (pw_or (pt_cmpR op_ne (pe_callB call_len rfl T.z_len boot_len (pa_cons (pv 3) pa_nil)) pe_int (nomark _)) (pw_or1 (pt_not (pt_val (pk_call F_is_kind hr rfl T.g_is_kind (pa_cons (pe_ix ix_tup (pv 3) pe_int (fun _ _ => rfl)) pa_nil)))))))) pss_never pss_nil) (pss_cons (ps_if (PW.pt (pw_or (pt_val (pk_meth (pv 0) T.c_KindTree T.m_KindTree_is_known F_KindTree_is_known hr (pa_cons (pe_ix ix_tup (pv 3) pe_int (fun _ _ => rfl)) pa_nil))) (pw_or1 (pt_not (pt_val (pk_meth (pv 0) T.c_KindTree T.m_KindTree_is_known F_KindTree_is_known hr (pa_cons (pe_ix ix_tup (pv 3) pe_int (fun _ _ => rfl)) pa_nil))))))) pss_never pss_nil) (pss_one (ps_dput (hu_of hr) (pe_fld (pv 0) rfl) (pe_ix ix_tup (pv 3) pe_int (fun _ _ => rfl)) (pe_ix ix_tup (pv 3) pe_int (fun _ _ => rfl)) rfl)))))))), ?_⟩
  refine q_fldX ⟨_, _, kinds6, rfl, He.tupB_ok T.tu_FIRST_KINDS _, He.tupB_ok T.tu_FIRST_PARENTS _, List.cons_ne_nil _ _, fun PD hPD => ?_⟩
  have w1 := w0.new2 (o := .dK kinds6) hPD
  have t1 : Ex H (upd H PD (.dK kinds6)) := Ex.new hPD
  refine f_at (ev_var rfl) (w1.get 0 rfl) T.c_KindTree T.n_KindTree_s1_parents (show 0 < 1000 by decide) fun H2 e2 => ?_
  have w2 := (w1.grow e2).set0 (o' := .ins (a_KindTree K) dx [("s1_parents", .ref PD)])
  have t2 : TP H _ := (ex_tp (t1.trans e2)).trans (TP.upd (o := .ins (a_KindTree K) dx [("s1_parents", .ref PD)]) ((w1.grow e2).get 0 rfl) fun xs z => by cases z)
  refine s_forEn (a := p) (xs := [.ref q0, .ref q1]) (ea_cons (ev_var rfl) ea_nil) (st_of (t2 _ _ hp)) (fun n σ' H' => ∃ o1 o2, σ' = [some (.ref x), some (.ref p), o1, o2] ∧ TP H H' ∧ Own H0 H' [(x, .ins (a_KindTree K) dx [("s1_parents", .ref PD)]), (PD, .dK (kd n))])
    (fun H3 e3 => ⟨none, none, rfl, t2.trans (ex_tp e3), w2.grow e3⟩) (fun n σ' H' _ ⟨_, _, _, t, _⟩ => st_of (t _ _ hp)) (fun n y σ' H' H1 hy ⟨o1, o2, eσ, t, w3⟩ e1 => ?_) fun σ' H' ⟨_, _, _, _, w3⟩ => k H' PD w3
  subst eσ
  obtain ⟨q, rfl, hq, hn⟩ : ∃ q, y = .ref q ∧ H q = some (.tup [.str (pr n).1, .str (pr n).2]) ∧ n < 2 := by
    match n, hy with
    | 0, hy => exact ⟨q0, (Option.some.inj hy).symm, hq0, by decide⟩
    | 1, hy => exact ⟨q1, (Option.some.inj hy).symm, hq1, by decide⟩
    | n + 2, hy => cases hy
  have t3 := t.trans (ex_tp e1)
  have w4 := w3.grow e1
  have hq3 := t3 _ _ hq
  have kp : isKindP (pr n).1 := by
    unfold pr
    split
    · exact kp_Key
    · exact kp_Near
  have kn1 : (valV (kd n) (Sum.inr (pr n).1)).isSome = false := by
    match n, hn with
    | 0, _ => decide +kernel
    | 1, _ => decide +kernel
  have kn2 : (valV (kd n) (Sum.inr (pr n).2)).isSome = true := by
    match n, hn with
    | 0, _ => decide +kernel
    | 1, _ => decide +kernel
  have kl : (kd n).length < sizeLine := sz_lt (by
    match n, hn with
    | 0, _ => decide
    | 1, _ => decide)
  refine q_when (b := false) (et_is (et_or (a := false) (et_not (a := true) (et_B (isi_tup "tuple" true (ev_var rfl) hq3))) fun _ => et_or (a := false) (et_test (ev_op (ev_cb (ea_cons (ev_var rfl) ea_nil) (rc_len fun H5 e5 => .inr ⟨_, st_of (e5 _ _ hq3), rfl⟩)) ev_c (rv_ne rfl))) fun _ => et_not (a := true) (et_B (ev_call (ea_cons (ev_op (ev_var rfl) ev_c (rv_ixT (st_of hq3) (atI_nat (j := 0) rfl))) ea_nil) (pur_v fun _ _ => ⟨_, rfl, kp, rfl⟩)))) rfl) (fun q => Bool.noConfusion q) fun _ H4 e4 => ?_
  have w5 := w4.grow e4
  have hq4 := e4 _ _ hq3
  have ix : ∀ {H5 : Hp} (j : Nat) (v : V), Ex H4 H5 → ([.str (pr n).1, .str (pr n).2] : List V)[j]? = some v → Evl.Ev (tOp (rIxT K) (tVar 3) (tC (.int (j : Nat)))) [some (.ref x), some (.ref p), some (.int n), some (.ref q)] H5 v := fun j v e h => ev_op (ev_var rfl) ev_c (rv_ixT (st_of (e _ _ hq4)) (atI_nat (j := j) h))
  refine q_when (b := false) (et_is (et_or (a := false) (et_B (ev_meth (ev_var rfl) (w5.get 0 rfl) rfl (ea_cons (ix 0 _ (Ex.refl _) rfl) ea_nil) (pur_v fun H5 e5 => ⟨x, dx, PD, kd n, _, rfl, e5 _ _ (w5.get 0 rfl), e5 _ _ (w5.get 1 rfl), by rw [kn1]⟩))) fun _ =>
    et_not (a := true) (et_B (ev_meth (ev_var rfl) (w5.get 0 rfl) rfl (ea_cons (ix 1 _ (Ex.refl _) rfl) ea_nil) (pur_v fun H5 e5 => ⟨x, dx, PD, kd n, _, rfl, e5 _ _ (w5.get 0 rfl), e5 _ _ (w5.get 1 rfl), by rw [kn2]⟩)))) rfl) (fun q => Bool.noConfusion q) fun _ H5 e5 => ?_
  have w6 := w5.grow e5
  refine s_dput (k := Sum.inr (pr n).1) (v := .str (pr n).2) (ix 1 _ e5 rfl) (ev_fld (ev_var rfl) (w6.get 0 rfl) T.c_KindTree T.n_KindTree_s1_parents rfl) (ix 0 _ e5 rfl) (w6.get 1 rfl) kl fun H6 e6 => ?_
  have ek : putK (kd n) (Sum.inr (pr n).1) (.str (pr n).2) = kd (n + 1) := by
    match n, hn with
    | 0, _ => rfl
    | 1, _ => rfl
  refine ⟨_, _, rfl, ?_, ?_⟩
  · exact ((t3.trans (ex_tp (e4.trans (e5.trans e6))))).trans (TP.upd ((w6.grow e6).get 1 rfl) fun xs z => by cases z)
  · rw [ek]
    exact (w6.grow e6).set 1 rfl
end
end L2.EX
namespace L2.EX
open PySem PySem.Spec PyProof.Rows
open PySem.W (KdlSrc kdl_extend kdl_dict)
/-! Own rule: tuple(d) of a dict: its keys. -/
section
variable {prog : Program} {w : World} {A : Around} {E : Value → Shared → Prop} {s : Shared} {T : String} {r d : Addr} {n : Nat} {P : Nat → Value → Prop} {OK : Heap → Prop}
theorem td_collect {Q : List Value → Shared → Prop} (S : KdlSrc prog w T r d n P OK) (hh : A.handled = none) (hok : OK s.heap) (hn : n ≤ sizeLine)
    (hQ : ∀ (h' : Heap) (tk : Nat) (acc : Array Value), (∀ b o, s.heap.get? b = some o → h'.get? b = some o) → s.heap.objs.size ≤ h'.objs.size → ItemsOf P acc n → Q acc.toList { s with heap := h', toks := tk }) : wpAny (model prog w) A (collect (.ref r)) Q E s := by
  unfold collect
  refine wpAny_bind (wpAny_runValue (codeAny_builtin F.entry_proto_collect ?_))
  rw [Around.under_plainId F.plain_proto_collect _]
  show wpAny _ A.in1 (newList [] >>= fun l => again (.builtin "list.__iadd__" ⟨[l, .ref r], []⟩)) _ _ s
  refine wpAny_bind (wpAny_newObj_type ?_)
  refine wpAny_pure ⟨plainId_quiet F.plain_list_iadd _, codeAny_builtin F.entry_list_iadd ?_⟩
  rw [Around.under_plainId F.plain_list_iadd _]
  show wpAny _ A.in1 (Builtin.List.listExtendWith (.ref s.heap.objs.size) (.ref r) (.ref s.heap.objs.size)) _ _ _
  have hS : (s.heap.push { cls := .type "list", data := .seq ([] : List Value).toArray }).get? s.heap.objs.size = some { cls := .type "list", data := .seq #[] 0 } := Heap.get?_push_size _ rfl
  have hlt := S.there _ hok
  refine wpAny_mono (kdl_extend (A := A) (R := fun rr s' => rr = .ok (.ret (.ref s.heap.objs.size)) ∧ ∃ (h' : Heap) (tk : Nat) (acc : Array Value) (c' : Nat), s' = { s with heap := h', toks := tk } ∧
      (∀ b o, s.heap.get? b = some o → h'.get? b = some o) ∧ h'.get? s.heap.objs.size = some { cls := .type "list", dict := none, data := .seq acc c', slots := #[] } ∧ ItemsOf P acc n)
    (s := { s with heap := s.heap.push { cls := .type "list", data := .seq ([] : List Value).toArray } }) S hh (S.keep _ _ hok fun b _ o e => Heap.get?_push_of_some _ e) s.heap.objs.size (Nat.ne_of_gt hlt.1) (Nat.ne_of_gt hlt.2) _ 0 hS
    (fun h' tk acc c' hk e hi => ⟨rfl, h', tk, acc, c', rfl, fun b o q => hk b o (Nat.ne_of_lt (Heap.lt_size q)) (Heap.get?_push_of_some _ q), e, hi⟩) hn) (fun fin s' h => ?_) (fun e s' h => ?_)
  · cases fin with
    | done f =>
      obtain ⟨e, h', tk, acc, c', rfl, hk, hS', hi⟩ := h
      cases e
      show wpAny _ A (load s.heap.objs.size >>= _) _ _ _
      exact wpAny_bind (wpAny_load hS' (wpAny_pure (hQ h' tk acc hk (Nat.le_of_lt (Heap.lt_size hS')) hi)))
    | again c' =>
      refine ⟨h.1, codeAny_mono h.2 fun rr s'' hr' => ?_⟩
      obtain ⟨rfl, h', tk, acc, c', rfl, hk, hS', hi⟩ := hr'
      show wpAny _ A (load s.heap.objs.size >>= _) _ _ _
      exact wpAny_bind (wpAny_load hS' (wpAny_pure (hQ h' tk acc hk (Nat.le_of_lt (Heap.lt_size hS')) hi)))
  · exact absurd h.1 (by simp)
theorem td_code {Q₁ : Value → Shared → Prop} (S : KdlSrc prog w T r d n P OK) (hT : (Value.type T == Value.type "tuple") = false) (hh : A.handled = none) (hok : OK s.heap) (hn : n ≤ sizeLine)
    (h : ∀ (h' : Heap) (tk : Nat) (acc : Array Value), (∀ b o, s.heap.get? b = some o → h'.get? b = some o) → s.heap.objs.size ≤ h'.objs.size → ItemsOf P acc n → Q₁ (.ref h'.objs.size) { s with heap := h'.push { cls := .type "tuple", data := .seq acc }, toks := tk }) :
    codeAny (model prog w) A (.call (.builtin "tuple.__new__") ⟨[.type "tuple", .ref r], []⟩) (wants Q₁ E) s := by
  refine codeAny_of_tree ?_
  show wpAny _ A.in1 (do checkBuiltinCall "tuple.__new__" ⟨[.type "tuple", .ref r], []⟩; again (.builtin "tuple.__new__" ⟨[.type "tuple", .ref r], []⟩)) _ _ s
  refine wpAny_bind (wpAny_of_eq (F.newCall_tuple_1 _) (wpAny_pure ⟨plainId_quiet F.plain_tuple_new _, codeAny_builtin F.entry_tuple_new ?_⟩))
  rw [Around.under_plainId F.plain_tuple_new _]
  have hsub := sub_tuple_self
  have hinit := init_tuple_lookup
  have hmh := madeHere_tuple
  have hTI : s.TypeIs (.ref r) T := S.type _ hok
  have hh1 : A.in1.handled = none := hh
  wp_walk using wpAny_typeOf hTI, td_collect (A := A.in1) S hh1 hok hn
  intro h' tk acc hk hle hacc
  show wpAny _ _ (Builtin.Tuple.tupleExact acc.toList.toArray >>= fun v => ret v) _ _ _
  unfold Builtin.Tuple.tupleExact
  refine wpAny_bind (wpAny_newObj_type ?_ (by show acc.toList.toArray.size ≤ sizeLine; simp only [Array.toArray_toList]; rw [hacc.1]; exact hn))
  refine wpAny_pure ?_
  have e : acc.toList.toArray = acc := by simp
  rw [e]
  exact h h' tk acc hk hle hacc
theorem td_call {Q : Value → Shared → Prop} (S : KdlSrc prog w T r d n P OK) (hT : (Value.type T == Value.type "tuple") = false) (hh : A.handled = none) (hok : OK s.heap) (hn : n ≤ sizeLine)
    (hQ : ∀ (h' : Heap) (tk : Nat) (acc : Array Value), (∀ b o, s.heap.get? b = some o → h'.get? b = some o) → s.heap.objs.size ≤ h'.objs.size → ItemsOf P acc n → Q (.ref h'.objs.size) { s with heap := h'.push { cls := .type "tuple", data := .seq acc }, toks := tk }) :
    wpAny (model prog w) A (call (.type "tuple") [.ref r]) Q E s := by
  refine callType_codes (Q₁ := fun obj s₁ => s₁.TypeIs obj "tuple" ∧ Q obj s₁) F.called_tuple (F.typeCall_tuple_1 _) F.entry_object_init
    (td_code (A := A.in1) S hT hh hok hn fun h' tk acc hk hle hacc => ⟨⟨_, Heap.get?_push_size _ rfl, rfl⟩, hQ h' tk acc hk hle hacc⟩) fun obj s₁ h₁ => ?_
  exact ⟨h₁.1, F.args_object_init_2 obj _, object_init_meets F.called_tuple.init.lookup F.called_tuple.made (by decide) prog w A.in1 _ s₁ ⟨h₁.1, rfl, h₁.2⟩⟩
end
section
variable {X : Cx}
theorem call_tupleD (hcalm : X.calm = true) : CallR X (.type "tuple") (fun xs H Q => ∃ (a : Addr) (kvs : List (Key × V)), xs = [.ref a] ∧ Rd H a (.dK kvs) ∧ ∀ p, H p = none → Q (.ref p) (upd H p (.tup (kvs.map fun kv => kV kv.1)))) := by
  intro pins s σ H xs us Q I r q
  obtain ⟨a, kvs, ex, hd, q⟩ := q
  subst ex
  obtain ⟨u, eu, rx⟩ := vals1 r
  subst eu
  cases rx
  obtain ⟨z, lo, vs, rel, dd⟩ := dk_rd I.hok hd
  obtain ⟨ep, hat⟩ := dd.dictAt
  have ek : (kvs.map fun kv => kV kv.1) = vs.map fun p => kV p.1 := by
    have e := congrArg (List.map kV) rel.keys
    rw [List.map_map, List.map_map] at e
    exact e
  refine td_call (kdl_dict (knd := mixKind X.prog X.w) (kvs := vs) (ep := ep) lo) (by decide) (I.ok.hd hcalm) hat (by rw [← rel.length]; exact z) fun h' tk acc hk hle hacc => ?_
  have hv : Vals (vs.map fun p => kV p.1) acc.toList := keys_at (by rw [Array.length_toList]; exact hacc.1) fun j v e => hacc.2 j v (by rw [← Array.getElem?_toList]; exact e)
  refine ⟨.ref h'.objs.size, upd H h'.objs.size (.tup (kvs.map fun kv => kV kv.1)), I.laid (t' := tk) (fun b o e => Heap.get?_push_of_some _ (hk b o e)) hle
    (show ObjOk X.prog X.w _ _ _ (.tup (kvs.map fun kv => kV kv.1)) from ⟨by rw [List.length_map]; exact z, acc.toList, by rw [ek]; exact hv, ⟨_, Heap.get?_push_size _ rfl, rfl, _, by rw [Array.toArray_toList]⟩⟩), rfl, q _ (I.hok.fresh hle)⟩
end
end L2.EX
namespace L2.EX
open PySem PySem.Spec PyProof.Rows Evl
/-! The runner is made; its readings. -/
theorem x_cb {r : List V → Hp → VK → Prop} {ta : TA} {σ : L2.St} {H : Hp} {Q : VK} (h : ta σ H fun xs H1 => r xs H1 Q) : tCB r ta σ H Q := h
theorem pe_no {X : Cx} {e : Expr} : PE X e (fun _ _ _ => False) := ⟨fun _ _ _ _ _ _ h => h.elim⟩
section
variable {w : World} {K : Frg} {mg : Str → Option Value} {base : Heap}
def sp_cinit (K : Frg) : Sp := fun vs H Q _ => ∃ (H0 : Hp) (R dR T : Addr), vs = [.ref R, .ref T, .int 2000] ∧ Own H0 H [(R, .ins (a_Runner K) dR [])] ∧
  ∀ H' B L F A, Own H0 H' [(R, .ins (a_Runner K) dR (rFs T B L F 0 A)), (B, .dK []), (L, .lst []), (F, .lst []), (A, .lst [])] → Q .non H'
theorem ok_Core_init (T : Tx w K mg) (F_Runner_s3_clear : FOk PW w K mg base 2 (f_Runner_s3_clear K) ["self"] [] (sp_rclear K)) : FOk PW w K mg base 3 (f_Core_init K) ["self", "tree", "limit"] [] (sp_cinit K) := by
  obtain ⟨fd, F⟩ := T.d_Core_init
  refine ⟨⟨fd, [], F.ok sc_Core_init (fun vs H Q E h => ?_) (fun cdv A outer s H vs Q E hr h => ?_), F.bindsN fun _ _ _ _ _ _ us hl => match us, hl with | [_, _, _], _ => rfl, .nil⟩, F.kp⟩
  · obtain ⟨H0, R, dR, T, rfl, _⟩ := h
    rfl
  · obtain ⟨H0, R, dR, TT, rfl, w0, k⟩ := h
    refine ⟨_, (PSs.nox (pss_cons (ps_if (PW.pt (pw_or (pt_not (pt_val (pe_callB call_isi rfl T.z_isinstance boot_isinstance (pa_cons (pv 2) (pa_cons (pe_gty rfl T.z_int boot_int) pa_nil))))) (pw_or (pt_val (pe_callB call_isi rfl T.z_isinstance boot_isinstance (pa_cons (pv 2) (pa_cons (pe_gty rfl T.z_bool boot_bool) pa_nil)))) (pw_or1 (pt_not (pt_chain op_le op_le pe_int (pv 2) (pe_gint rfl T.i_MOST_STEPS))))))) pss_never pss_nil) (pss_cons (ps_fld (pv 0) (pe_ifExp (pt_cmpR op_isN (pv 1) pe_non (nomark _)) pe_no (pv 1)) rfl) (pss_cons (ps_fld (pv 0) (pv 2) rfl) (pss_cons (ps_fld (pv 0) pe_bl rfl) (pss_one (ps_expr (pk_meth0 (pv 0) T.c_Runner T.m_Runner_s3_clear F_Runner_s3_clear hr)))))))), ?_⟩
    refine q_when (b := false) (et_is (et_or (a := false) (et_not (a := true) (et_B (isi_int "int" true (ev_var rfl)))) fun _ => et_or (a := false) (et_B (isi_int "bool" false (ev_var rfl))) fun _ => et_not (a := true) (et_B (ev_is (ev_chain ev_c (ev_var rfl) rv_I0 (fun _ => ev_c) fun _ => rv_I0) rfl))) rfl) (fun q => Bool.noConfusion q) fun _ H1 e1 => ?_
    have w1 := w0.grow e1
    refine q_fld (ev_if (b := false) (et_test (ev_op (ev_var rfl) ev_c rv_isN)) (fun q => Bool.noConfusion q) fun _ => ev_var rfl) (ev_var rfl) (w1.get 0 rfl) T.c_Runner T.n_Runner_s3_tree (show 0 < 1000 by decide) fun H2 e2 => ?_
    have w2 := (w1.grow e2).set0 (o' := .ins (a_Runner K) dR [("s3_tree", .ref TT)])
    refine q_fld (ev_var rfl) (ev_var rfl) (w2.get 0 rfl) T.c_Runner T.n_Runner_s3_limit (show 1 < 1000 by decide) fun H3 e3 => ?_
    have w3 := (w2.grow e3).set0 (o' := .ins (a_Runner K) dR [("s3_tree", .ref TT), ("s3_limit", .int 2000)])
    refine q_fld ev_c (ev_var rfl) (w3.get 0 rfl) T.c_Runner T.n_Runner_s3_is_spoiled (show 2 < 1000 by decide) fun H4 e4 => ?_
    have w4 := (w3.grow e4).set0 (o' := .ins (a_Runner K) dR [("s3_tree", .ref TT), ("s3_limit", .int 2000), ("s3_is_spoiled", .bl false)])
    refine s_dropX (x_meth (ev_var rfl) (w4.get 0 rfl) rfl ea_nil fun H5 e5 => ?_)
    refine ⟨H0, R, dR, _, rfl, w4.grow e5, (show 3 ≤ 900 by decide), fun H6 B L F A w6 _ => ?_⟩
    exact k H6 B L F A w6
/-- the runner of a tree -/
def sp_runit (K : Frg) : Sp := fun vs H Q _ => ∃ (H0 : Hp) (R dR T dT PD : Addr), vs = [.ref R, .ref T, .int 2000] ∧ Own H0 H [(R, .ins (a_Runner K) dR [])] ∧ H T = some (.ins (a_KindTree K) dT [("s1_parents", .ref PD)]) ∧
  ∀ H' B L F A, Own H0 H' [(R, .ins (a_Runner K) dR (rFs T B L F 0 A)), (B, .dK []), (L, .lst []), (F, .lst []), (A, .lst [])] → Q .non H'
theorem nsc_Runner_init : NdefX.NScope ["self", "tree", "limit", "__class__"] ["self", "tree", "limit"] ["__class__"] (defScope s_Runner_init) := NdefX.nscope_by (by decide +kernel)
theorem ok_Runner_init (T : Tx w K mg) (F_Core_init : FOk PW w K mg base 3 (f_Core_init K) ["self", "tree", "limit"] [] (sp_cinit K)) : FOk PW w K mg base 4 (f_Runner_init K) ["self", "tree", "limit"] [.int 2000] (sp_runit K) := by
  obtain ⟨fd, ⟨G1, G2, G3, G4, G5, G6, G7⟩, F, e1, e2, e3, e4, e5⟩ := T.d_Runner_init
  have e1 : G1 = _ := e1
  have e2 : G2 = _ := e2
  have e3 : G3 = _ := e3
  have e4 : G4 = _ := e4
  have e5 : G5 = _ := e5
  subst e1 e2 e3 e4 e5
  obtain ⟨ds, hd, hb⟩ := SFun.binds (ps := ["self", "tree", "limit"]) F 2 1 (show ([V.non] : List V) ≠ [] from List.cons_ne_nil _ _) rfl (fun cl T D doc pm an cdv ct us its ks hl hi hk => by
    match us, hl, its, hi, ks, hk with
    | [u1, u2], _, [i1], _, [k1], _ => exact ⟨_, rfl, ⟨_, _, _, _, _, _, rfl, rfl, rfl⟩⟩) (show ([("limit", V.int 2000)] : List (Str × V)) ≠ [] from List.cons_ne_nil _ _)
  refine ⟨⟨fd, ds, SFun.ok (N := ["self", "tree", "limit", "__class__"]) (ps := ["self", "tree", "limit"]) F nsc_Runner_init rfl rfl (by decide +kernel) T.z_super T.e_any T.w_Runner_init (fun vs H Q E h => ?_) (fun A outer s H vs Q E hr h SA => ?_), hb, hd⟩, F.kp⟩
  · obtain ⟨H0, R, dR, TT, dT, PD, rfl, _⟩ := h
    rfl
  · obtain ⟨H0, R, dR, TT, dT, PD, rfl, w0, hT, k⟩ := h
    refine ⟨_, (pssa_cons (psa_of (ps_if (PW.pt (pw_and (pt_cmpR op_notN (pv 1) pe_non (nomark _)) (pw_and1 (pt_not (pt_val (pe_callB call_isi rfl T.z_isinstance boot_isinstance (pa_cons (pv 1) (pa_cons (pe_gref rfl T.g_KindTree) pa_nil)))))))) pss_never pss_nil)) (pssa_cons (psa_expr (pk_super (i := 0) SA rfl rfl T.u_Core_init F_Core_init hr (pa_cons (pv 1) (pa_cons (pv 2) pa_nil)))) pssa_nil)), ?_⟩
    refine q_when (b := false) (et_is (et_and (a := true) (et_test (ev_op (ev_var rfl) ev_c rv_notN)) fun _ => et_not (a := true) (et_B (ev_isi (b := true) (ev_var rfl) ev_c (.own _) (fun H1 e1 => T.y_KindTree.ty (e1 _ _ hT)) T.o_KindTree))) rfl) (fun q => Bool.noConfusion q) fun _ H1 e1 => ?_
    have w1 := w0.grow e1
    refine s_dropX ⟨R, _, _, rfl, w1.get 0 rfl, fun q hq => ⟨_, rfl, _, rfl, upd_same, H0, R, dR, TT, rfl, w1.tmp hq, fun H2 B L F A w2 _ => k H2 B L F A w2⟩⟩
def sp_kinds (K : Frg) : Sp := fun vs H Q _ => ∃ (a dx PD : Addr) (kvs : List (Key × V)), vs = [.ref a] ∧ H a = some (.ins (a_KindTree K) dx [("s1_parents", .ref PD)]) ∧ H PD = some (.dK kvs) ∧ ∀ p H', Ex H H' → H' p = some (.tup (kvs.map fun kv => kV kv.1)) → Q (.ref p) H'
theorem ok_KindTree_kinds (T : Tx w K mg) : FOk PW w K mg base 1 (f_KindTree_kinds K) ["self"] [] (sp_kinds K) := by
  obtain ⟨fd, F⟩ := T.d_KindTree_kinds
  refine ⟨⟨fd, [], F.ok sc_KindTree_kinds (fun vs H Q E h => ?_) (fun cdv A outer s H vs Q E hr h => ?_), F.bindsN fun _ _ _ _ _ _ us hl => match us, hl with | [_], _ => rfl, .nil⟩, F.kp⟩
  · obtain ⟨a, dx, PD, kvs, rfl, _⟩ := h
    rfl
  · obtain ⟨a, dx, PD, kvs, rfl, h1, h2, k⟩ := h
    refine ⟨_, (PSs.nox (pss_one (ps_ret (pe_callTy (call_tupleD (by rfl)) rfl T.z_tuple boot_tuple (pa_cons (pe_fld (pv 0) rfl) pa_nil))))), ?_⟩
    refine s_retX (ea_cons (ev_fld (ev_var rfl) h1 T.c_KindTree T.n_KindTree_s1_parents rfl) ea_nil H (Ex.refl H) _ fun H1 e1 => ⟨PD, kvs, rfl, .inl (e1 _ _ h2), fun p hp => k p _ (e1.trans (Ex.new hp)) upd_same⟩)
/-- the log, the faults as tuples -/
def sp_lst (K : Frg) (f : Str) : Sp := fun vs H Q _ => ∃ (a dx l : Addr) (fs : List (Str × V)) (xs : List V), vs = [.ref a] ∧ H a = some (.ins (a_Runner K) dx fs) ∧ fs.lookup f = some (.ref l) ∧ H l = some (.lst xs) ∧ ∀ p H', Ex H H' → H' p = some (.tup xs) → Q (.ref p) H'
theorem ok_Runner_log (T : Tx w K mg) : FOk PW w K mg base 1 (f_Runner_log K) ["self"] [] (sp_lst K "s3_log") := by
  obtain ⟨fd, F⟩ := T.d_Runner_log
  refine ⟨⟨fd, [], F.ok sc_Runner_log (fun vs H Q E h => ?_) (fun cdv A outer s H vs Q E hr h => ?_), F.bindsN fun _ _ _ _ _ _ us hl => match us, hl with | [_], _ => rfl, .nil⟩, F.kp⟩
  · obtain ⟨a, dx, l, fs, xs, rfl, _⟩ := h
    rfl
  · obtain ⟨a, dx, l, fs, xs, rfl, h1, h2, h3, k⟩ := h
    refine ⟨_, (PSs.nox (pss_one (ps_ret (pe_callTy call_tuple_of rfl T.z_tuple boot_tuple (pa_cons (pe_fld (pv 0) rfl) pa_nil))))), ?_⟩
    exact s_retX (ea_cons (ev_fld (ev_var rfl) h1 T.c_Runner T.n_Runner_s3_log h2) ea_nil H (Ex.refl H) _ fun H1 e1 => ⟨l, xs, rfl, .inl ⟨sq_of (e1 _ _ h3), fun p hp => k p _ (e1.trans (Ex.new hp)) upd_same⟩⟩)
theorem ok_Runner_faults (T : Tx w K mg) : FOk PW w K mg base 1 (f_Runner_faults K) ["self"] [] (sp_lst K "s3_faults") := by
  obtain ⟨fd, F⟩ := T.d_Runner_faults
  refine ⟨⟨fd, [], F.ok sc_Runner_faults (fun vs H Q E h => ?_) (fun cdv A outer s H vs Q E hr h => ?_), F.bindsN fun _ _ _ _ _ _ us hl => match us, hl with | [_], _ => rfl, .nil⟩, F.kp⟩
  · obtain ⟨a, dx, l, fs, xs, rfl, _⟩ := h
    rfl
  · obtain ⟨a, dx, l, fs, xs, rfl, h1, h2, h3, k⟩ := h
    refine ⟨_, (PSs.nox (pss_one (ps_ret (pe_callTy call_tuple_of rfl T.z_tuple boot_tuple (pa_cons (pe_fld (pv 0) rfl) pa_nil))))), ?_⟩
    exact s_retX (ea_cons (ev_fld (ev_var rfl) h1 T.c_Runner T.n_Runner_s3_faults h2) ea_nil H (Ex.refl H) _ fun H1 e1 => ⟨l, xs, rfl, .inl ⟨sq_of (e1 _ _ h3), fun p hp => k p _ (e1.trans (Ex.new hp)) upd_same⟩⟩)
/-- no names -/
def sp_names (K : Frg) : Sp := fun vs H Q _ => ∃ (a dx l : Addr) (fs : List (Str × V)), vs = [.ref a] ∧ H a = some (.ins (a_Runner K) dx fs) ∧ fs.lookup ("s3_board" : Str) = some (.ref l) ∧ H l = some (.dK []) ∧ ∀ p H', Ex H H' → H' p = some (.tup []) → Q (.ref p) H'
theorem ok_Runner_names (T : Tx w K mg) : FOk PW w K mg base 1 (f_Runner_names K) ["self"] [] (sp_names K) := by
  obtain ⟨fd, F⟩ := T.d_Runner_names
  refine ⟨⟨fd, [], F.ok sc_Runner_names (fun vs H Q E h => ?_) (fun cdv A outer s H vs Q E hr h => ?_), F.bindsN fun _ _ _ _ _ _ us hl => match us, hl with | [_], _ => rfl, .nil⟩, F.kp⟩
  · obtain ⟨a, dx, l, fs, rfl, _⟩ := h
    rfl
  · obtain ⟨a, dx, l, fs, rfl, h1, h2, h3, k⟩ := h
    refine ⟨_, (PSs.nox (pss_one (ps_ret (pe_callTy call_tuple_of rfl T.z_tuple boot_tuple (pa_cons (pe_callB cr_sortedS rfl T.z_sorted boot_sorted (pa_cons (pe_callTy (call_listD (by rfl)) rfl T.z_list boot_list (pa_cons (pe_fld (pv 0) rfl) pa_nil)) pa_nil)) pa_nil))))), ?_⟩
    refine s_retX (x_cb (l_cons (x_cb (l_cons (x_cb (ea_cons (ev_fld (ev_var rfl) h1 T.c_Runner T.n_Runner_s3_board h2) ea_nil H (Ex.refl H) _ fun H1 e1 => ⟨l, [], rfl, .inl (e1 _ _ h3), fun p hp => ?_⟩))))))
    refine ⟨p, [], rfl, sq_of upd_same, by decide, fun ys p2 hys _ hp2 => ?_⟩
    obtain rfl : ys = [] := List.perm_nil.mp hys
    exact ⟨p2, [], rfl, .inl ⟨sq_of upd_same, fun p3 hp3 => k p3 _ (((e1.trans (Ex.new hp)).trans (Ex.new hp2)).trans (Ex.new hp3)) upd_same⟩⟩
end
end L2.EX
namespace L2.EX
open PySem PySem.Spec PyProof.Rows Evl
/-! The check of a program: the parts of a statement, its simple items. -/
section
variable {K : Frg} {σ : L2.St} {H H' : Hp} {td ty te : TE} {d a : Addr} {z : Str} {r : Option Value} {v : V} {xs : List V}
theorem ev_kget (h : Ev td σ H (.ref d)) (hk : Ev ty σ H (.str z)) (er : PySem.W.nsIn K d z = some r) (rv : RelV v (r.getD .none)) : Ev (tKGet K d td ty) σ H v := fun H1 e1 _ q =>
  h H1 e1 _ fun H2 e2 => ⟨rfl, hk H2 (e1.trans e2) _ fun H3 e3 => ⟨z, r, v, rfl, er, rv, q H3 (e2.trans e3)⟩⟩
/-- a part of a tuple, not the whole of it -/
theorem eu_sl {tl th : TO} {lo hi : Option Int} (h : Ev te σ H (.ref a)) (h1 : EvO tl σ H lo) (h2 : EvO th σ H hi) (hs : SqT K H a xs) (n : ¬ (HT.sIx xs.length 0 lo = 0 ∧ HT.sIx xs.length xs.length hi = xs.length)) : EvU (tSl (rSlA K) te tl th) σ H (cutV xs lo hi) := fun H1 e _ q =>
  h H1 e _ fun H2 e2 => h1 H2 (e.trans e2) _ fun H3 e3 => h2 H3 ((e.trans e2).trans e3) _ fun H4 e4 => ⟨a, xs, rfl, ex_t (((e.trans e2).trans e3).trans e4) hs, fun q' => absurd q' n, fun _ p hp => q p _ (fresh_back ((e2.trans e3).trans e4) hp) (((e2.trans e3).trans e4).trans (Ex.new hp)) upd_same⟩
theorem rv_eqTE {p q : Addr} (h : SqT K H p xs) (h2 : SqT K H q []) : RV (rTE K false) (.ref p) (.ref q) H (.bl xs.isEmpty) := fun H1 e _ k => ⟨p, q, xs, rfl, rfl, ex_t e h, ex_t e h2, k H1 (Ex.refl H1)⟩
theorem eu_if {t : TT} {ta tb : TE} {b : Bool} (h : EvT t σ H b) (h1 : b = true → EvU ta σ H xs) (h2 : b = false → EvU tb σ H xs) : EvU (tIf t ta tb) σ H xs := fun H1 e Q q => h H1 e _ fun H2 e2 => by
  cases b with
  | true =>
    show ta σ H2 Q
    exact h1 rfl H2 (e.trans e2) Q fun p H3 hp e3 h3 => q p H3 (fresh_back e2 hp) (e2.trans e3) h3
  | false =>
    show tb σ H2 Q
    exact h2 rfl H2 (e.trans e2) Q fun p H3 hp e3 h3 => q p H3 (fresh_back e2 hp) (e2.trans e3) h3
theorem rv_eqSrc {p q : Addr} (h : SqT K H p [.str "source"]) (h2 : SqT K H q [.str "source"]) : RV (rEqD K) (.ref p) (.ref q) H (.bl true) := fun H1 e _ k =>
  ⟨.tuple [.str "source"], .tuple [.str "source"], .tup (ex_t e h) (.cons (.str _) .nil), .tup (ex_t e h2) (.cons (.str _) .nil), by decide +kernel, by decide +kernel, by
    rw [show PyData.eqv (.tuple [.str "source"]) (.tuple [.str "source"]) = true by decide +kernel]
    exact k H1 (Ex.refl H1)⟩
end
/-- a statement's first word, how many parts it has, of what sorts these are -/
def PtOk (z : Str) (n : Nat) (ss : List Str) : Prop := (z = "note" ∧ n = 1 ∧ ss = (["plain"] : List Str)) ∨ (z = "again" ∧ n = 0 ∧ ss = ([] : List Str)) ∨ (z = "raise" ∧ n = 3 ∧ ss = (["kind", "label", "source"] : List Str)) ∨ (z = "raise" ∧ n = 2 ∧ ss = (["kind", "label"] : List Str)) ∨
  (z = "throw" ∧ n = 2 ∧ ss = (["name", "source"] : List Str)) ∨ (z = "throw" ∧ n = 1 ∧ ss = (["name"] : List Str)) ∨ (z = "try" ∧ n = 4 ∧ ss = (["body", "handlers", "body", "body"] : List Str))
section
variable {w : World} {K : Frg} {mg : Str → Option Value} {base : Heap}
theorem pt_full (T : Tx w K mg) {z : Str} {n : Nat} {ss : List Str} (h : PtOk z n ss) : ∃ (q : Addr) (full : List Str), PySem.W.nsIn K (He.ga K "PARTS") z = some (some (.ref q)) ∧ (∀ H, SqT K H q (full.map V.str)) ∧ ((full.length = n ∧ ss = full) ∨ (full = ss ++ ([("source" : Str)] : List Str) ∧ n = ss.length ∧ ss ≠ [])) := by
  rcases h with ⟨rfl, rfl, rfl⟩ | ⟨rfl, rfl, rfl⟩ | ⟨rfl, rfl, rfl⟩ | ⟨rfl, rfl, rfl⟩ | ⟨rfl, rfl, rfl⟩ | ⟨rfl, rfl, rfl⟩ | ⟨rfl, rfl, rfl⟩
  · exact ⟨_, ["plain"], (partB_ok T.pt_note).1, (partB_ok T.pt_note).2, .inl ⟨rfl, rfl⟩⟩
  · exact ⟨_, [], (partB_ok T.pt_again).1, (partB_ok T.pt_again).2, .inl ⟨rfl, rfl⟩⟩
  · exact ⟨_, ["kind", "label", "source"], (partB_ok T.pt_raise).1, (partB_ok T.pt_raise).2, .inl ⟨rfl, rfl⟩⟩
  · exact ⟨_, ["kind", "label", "source"], (partB_ok T.pt_raise).1, (partB_ok T.pt_raise).2, .inr ⟨rfl, rfl, List.cons_ne_nil _ _⟩⟩
  · exact ⟨_, ["name", "source"], (partB_ok T.pt_throw).1, (partB_ok T.pt_throw).2, .inl ⟨rfl, rfl⟩⟩
  · exact ⟨_, ["name", "source"], (partB_ok T.pt_throw).1, (partB_ok T.pt_throw).2, .inr ⟨rfl, rfl, List.cons_ne_nil _ _⟩⟩
  · exact ⟨_, ["body", "handlers", "body", "body"], (partB_ok T.pt_try).1, (partB_ok T.pt_try).2, .inl ⟨rfl, rfl⟩⟩
def sp_parts (K : Frg) : Sp := fun vs H Q _ => ∃ (p : Addr) (z : Str) (ys : List V) (ss : List Str), vs = [.ref p] ∧ H p = some (.tup (.str z :: ys)) ∧ PtOk z ys.length ss ∧ ∀ q H', Ex H H' → (∀ H2, TP H' H2 → SqT K H2 q (ss.map V.str)) → Q (.ref q) H'
theorem ok_s2_parts (T : Tx w K mg) : FOk PW w K mg base 1 (f_s2_parts K) ["statement"] [] (sp_parts K) := by
  obtain ⟨es, nn, KD⟩ := T.parts
  obtain ⟨fd, F⟩ := T.d_s2_parts
  refine ⟨⟨fd, [], F.ok sc_s2_parts (fun vs H Q E h => ?_) (fun cdv A outer s H vs Q E hr h => ?_), F.bindsN fun _ _ _ _ _ _ us hl => match us, hl with | [_], _ => rfl, .nil⟩, F.kp⟩
  · obtain ⟨p, z, ys, ss, rfl, _⟩ := h
    rfl
  · obtain ⟨p, z, ys, ss, rfl, hp, pt, k⟩ := h
    obtain ⟨q, full, hget, hsq, alt⟩ := pt_full T pt
    refine ⟨_, (PSs.nox (pss_cons (ps_if (PW.pt (pw_or (pt_not (pt_val (pe_callB call_isi rfl T.z_isinstance boot_isinstance (pa_cons (pv 0) (pa_cons (pe_gty rfl T.z_tuple boot_tuple) pa_nil))))) (pw_or (pt_cmpR (op_eqTE hr.units0) (pv 0) (pe_tup pa_nil) (nomark _)) (pw_or1 (pt_not (pt_val (pe_callB call_isi rfl T.z_isinstance boot_isinstance (pa_cons (pe_ix ix_tup (pv 0) pe_int (fun _ _ => rfl)) (pa_cons (pe_gty rfl T.z_str boot_str) pa_nil))))))))) (pss_one (ps_ret pe_non)) pss_nil) (pss_cons (ps_set (i := 1) sc_s2_parts.nd rfl (Or.inl rfl) (pe_kget KD (pe_gref rfl T.g_PARTS) (pe_ix ix_tup (pv 0) pe_int (fun _ _ => rfl)) ⟨rfl, rfl, rfl, rfl⟩)) (pss_cons (ps_if (PW.pt (pw_or (pt_cmpR op_isN (pv 1) pe_non (nomark _)) (pw_or1 (pt_cmpR op_eq (pe_callB call_len rfl T.z_len boot_len (pa_cons (pv 0) pa_nil)) (pe_op op_add (pe_callB call_len rfl T.z_len boot_len (pa_cons (pv 1) pa_nil)) pe_int) (nomark _))))) (pss_one (ps_ret (pv 1))) pss_nil) (pss_one (ps_ret (pe_ifExp (PW.pt (pw_and (pt_cmpR (op_eqD hr.units) (pe_slice sl_tupA (pv 1) (po_some (pe_un un_neg pe_int)) po_none) (pe_tup (pa_cons pe_str pa_nil)) (nomark _)) (pw_and1 (pt_cmpR op_eq (pe_callB call_len rfl T.z_len boot_len (pa_cons (pv 0) pa_nil)) (pe_callB call_len rfl T.z_len boot_len (pa_cons (pv 1) pa_nil)) (nomark _))))) (pe_slice sl_tupA (pv 1) po_none (po_some (pe_un un_neg pe_int))) pe_non))))))), ?_⟩
    refine q_when (b := false) (et_is (et_or (a := false) (et_not (a := true) (et_B (isi_tup "tuple" true (ev_var rfl) hp))) fun _ => et_or (a := false) (et_test (ev_opU (ev_var rfl) (eu_tup ea_nil (Nat.zero_le _)) fun p' H1 h1 e1 => rv_eqTE (st_of (e1 _ _ hp)) (st_of h1))) fun _ =>
      et_not (a := true) (et_B (isi_str "str" true (ev_op (ev_var rfl) ev_c (rv_ixT (st_of hp) (atI_nat (j := 0) rfl)))))) rfl) (fun q => Bool.noConfusion q) fun _ H1 e1 => ?_
    refine q_asg (v := .ref q) (ev_kget ev_c (ev_op (ev_var rfl) ev_c (rv_ixT (st_of (e1 _ _ hp)) (atI_nat (j := 0) rfl))) hget rfl) fun H2 e2 => ?_
    have hp2 := e2 _ _ (e1 _ _ hp)
    have ln1 : ∀ {H3 : Hp}, Ex H2 H3 → Ev (tCB (fun xs H Q => ∃ x n, xs = [x] ∧ LenV K x H n ∧ Q (.int n) H) (tCons (tVar 0) tNil)) [some (.ref p), some (.ref q)] H3 (.int ((ys.length + 1 : Nat) : Int)) := fun e => ev_cb (ea_cons (ev_var rfl) ea_nil) (rc_len fun H5 e5 => .inr ⟨_, st_of (e5 _ _ (e _ _ hp2)), rfl⟩)
    have ln2 : ∀ {H3 : Hp}, Ev (tCB (fun xs H Q => ∃ x n, xs = [x] ∧ LenV K x H n ∧ Q (.int n) H) (tCons (tVar 1) tNil)) [some (.ref p), some (.ref q)] H3 (.int ((full.length : Nat) : Int)) := ev_cb (ea_cons (ev_var rfl) ea_nil) (rc_len fun H5 e5 => .inr ⟨_, hsq _, by rw [List.length_map]⟩)
    rcases alt with ⟨hl, rfl⟩ | ⟨rfl, hl, hne⟩
    · refine q_when (b := true) (et_is (et_or (a := false) (et_test (ev_op (ev_var rfl) ev_c rv_isN)) fun _ => et_test (ev_op (ln1 (Ex.refl _)) (ev_op ln2 ev_c rv_I0) (rv_eq rfl))) (decide_eq_true (congrArg V.int (by omega)))) (fun _ H3 e3 => ?_) fun q => Bool.noConfusion q
      exact s_ret (D := { nx := fun _ H' => Q .non H', rt := Q }) (ev_var rfl) fun H4 e4 => k q H4 (((e1.trans e2).trans e3).trans e4) fun H5 _ => hsq H5
    · refine q_when (b := false) (et_is (et_or (a := false) (et_test (ev_op (ev_var rfl) ev_c rv_isN)) fun _ => et_test (ev_op (ln1 (Ex.refl _)) (ev_op ln2 ev_c rv_I0) (rv_eq rfl))) (decide_eq_false fun z => by
        have := V.int.inj z
        rw [List.length_append, List.length_singleton] at this
        omega)) (fun q => Bool.noConfusion q) fun _ H3 e3 => ?_
      have hsl : (ss.map V.str ++ [V.str "source"] : List V) = ((ss ++ [("source" : Str)]).map V.str) := by rw [List.map_append]; rfl
      have hlen : ((ss ++ [("source" : Str)]).map V.str : List V).length = ss.length + 1 := by rw [List.length_map, List.length_append]; rfl
      have hpos : 0 < ss.length := List.length_pos_iff.mpr hne
      have c1 : cutV ((ss ++ [("source" : Str)]).map V.str) (some (-1)) none = [V.str "source"] := by
        unfold cutV
        rw [hlen]
        have i1 : HT.sIx (ss.length + 1) 0 (some (-1)) = ss.length := by
          show (if (-1 : Int) < 0 then ((-1 : Int) + ((ss.length + 1 : Nat) : Int)).toNat else min (-1 : Int).toNat (ss.length + 1)) = ss.length
          rw [if_pos (by decide)]
          omega
        rw [i1, ← hsl, HT.sIx_none, List.drop_left' (by rw [List.length_map])]
        rw [show ss.length + 1 - ss.length = 1 by omega]
        rfl
      have c2 : cutV ((ss ++ [("source" : Str)]).map V.str) none (some (-1)) = ss.map V.str := by
        unfold cutV
        rw [hlen]
        have i1 : HT.sIx (ss.length + 1) (ss.length + 1) (some (-1)) = ss.length := by
          show (if (-1 : Int) < 0 then ((-1 : Int) + ((ss.length + 1 : Nat) : Int)).toNat else min (-1 : Int).toNat (ss.length + 1)) = ss.length
          rw [if_pos (by decide)]
          omega
        rw [i1, ← hsl, HT.sIx_none, List.drop_zero, Nat.sub_zero, List.take_left' (by rw [List.length_map])]
      refine s_retU (D := { nx := fun _ H' => Q .non H', rt := Q }) (eu_if (b := true) (et_is (et_and (a := true) (et_test (ev_opUU (eu_sl (lo := some (-1)) (hi := none) (ev_var rfl) (eo_some (ev_un ev_c ru_neg)) eo_none (hsq _) ?_) (eu_tup (ea_cons ev_c ea_nil) (show 1 ≤ 100000 by decide)) fun p1 q1 H5 hp1 hq1 _ => ?_)) fun _ => et_test (ev_op (ln1 e3) ln2 (rv_eq rfl))) (decide_eq_true (congrArg V.int (by rw [List.length_append, List.length_singleton]; omega)))) (fun _ => eu_sl (lo := none) (hi := some (-1)) (ev_var rfl) eo_none (eo_some (ev_un ev_c ru_neg)) (hsq _) ?_) fun q => Bool.noConfusion q) fun p5 H5 _ e5 h5 => ?_
      · rw [hlen]
        intro ⟨z1, _⟩
        have z1 : (if (-1 : Int) < 0 then ((-1 : Int) + ((ss.length + 1 : Nat) : Int)).toNat else min (-1 : Int).toNat (ss.length + 1)) = 0 := z1
        rw [if_pos (by decide)] at z1
        omega
      · rw [c1] at hp1
        exact rv_eqSrc (st_of hp1) (st_of hq1)
      · rw [hlen]
        intro ⟨_, z1⟩
        have z1 : (if (-1 : Int) < 0 then ((-1 : Int) + ((ss.length + 1 : Nat) : Int)).toNat else min (-1 : Int).toNat (ss.length + 1)) = ss.length + 1 := z1
        rw [if_pos (by decide)] at z1
        omega
      · rw [c2] at h5
        exact k p5 H5 (((e1.trans e2).trans e3).trans e5) fun H6 t => st_of (t _ _ h5)
end
end L2.EX
namespace L2.EX
open PySem PySem.Spec PyProof.Rows Evl
/-! The check's simple items. -/
section
variable {K : Frg} {σ : L2.St} {H : Hp} {tu tz : TS} {D : Ends} {i : Nat} {x y : Str}
theorem q_sk (hx : σ[i]? = some (some (.str x))) (hne : decide (V.str x = V.str y) = false) (k : ∀ H1, Ex H H1 → tz D σ H1) : tSeq (tIfS (tTest (tOp rEq (tVar i) (tC (.str y)))) tu tNext) tz D σ H :=
  q_when (b := false) (et_is (et_test (ev_op (ev_var hx) ev_c (rv_eq rfl))) hne) (fun q => Bool.noConfusion q) fun _ => k
theorem q_sy (hx : σ[i]? = some (some (.str x))) (k : ∀ H1, Ex H H1 → tu { D with nx := tz D } σ H1) : tSeq (tIfS (tTest (tOp rEq (tVar i) (tC (.str x)))) tu tNext) tz D σ H :=
  q_when (b := true) (et_is (et_test (ev_op (ev_var hx) ev_c (rv_eq rfl))) (decide_eq_true rfl)) (fun _ => k) fun q => Bool.noConfusion q
theorem ev_or1 {ta tb : TE} (h : Ev ta σ H (.bl true)) : Ev (tOrV ta tb) σ H (.bl true) := ev_orV (a := true) (b := true) h fun q => Bool.noConfusion q
theorem ev_or2 {ta tb : TE} (h : Ev ta σ H (.bl false)) (h2 : Ev tb σ H (.bl true)) : Ev (tOrV ta tb) σ H (.bl true) := ev_orV (a := false) (b := true) h fun _ => h2
end
def knV : List V := kindsK.map fun kv => kV kv.1
theorem inV_keys {k : Str} : ∀ {kvs : List (Key × V)}, (valV kvs (Sum.inr k)).isSome = true → inV (.str k) (kvs.map fun kv => kV kv.1) = true
  | [], h => by cases h
  | kv :: kvs, h => by
    rw [List.map_cons]
    by_cases e : kv.1 = Sum.inr k
    · rw [e]
      have : eqV (V.str k) (V.str k) = true := by simp [eqV]
      show (eqV (V.str k) (V.str k) || _) = true
      rw [this]
      rfl
    · rw [valV_neg e] at h
      have ih := inV_keys h
      show (_ || inV _ _) = true
      rw [ih, Bool.or_true]
section
variable {w : World} {K : Frg} {mg : Str → Option Value} {base : Heap}
def scFs (kn : Addr) (n : Int) : List (Str × V) := [("s2_known", .ref kn), ("s2_count", .int n)]
def R_S2Check : List V → List (Str × V) → Prop := fun us fs => ∃ p : Addr, us = [.ref p] ∧ fs = scFs p 0
theorem ok_S2Check_init (T : Tx w K mg) : FOk PW w K mg base 1 (f_S2Check_init K) ["self", "known"] [] (sp_ini (a_S2Check K) R_S2Check) := by
  obtain ⟨fd, F⟩ := T.d_S2Check_init
  refine ⟨⟨fd, [], F.ok sc_S2Check_init (fun vs H Q E h => ?_) (fun cdv A outer s H vs Q E hr h => ?_), F.bindsN fun _ _ _ _ _ _ us hl => match us, hl with | [_, _], _ => rfl, .nil⟩, F.kp⟩
  · obtain ⟨H0, x, dx, us, fs, rfl, ⟨_, rfl, _⟩, _⟩ := h
    rfl
  · obtain ⟨H0, x, dx, us, fs, rfl, ⟨p, rfl, rfl⟩, w4, k⟩ := h
    refine ⟨_, (PSs.nox (pss_cons (ps_fld (pv 0) (pv 1) rfl) (pss_one (ps_fld (pv 0) pe_int rfl)))), ?_⟩
    refine q_fld (ev_var rfl) (ev_var rfl) (w4.get 0 rfl) T.c_S2Check T.n_S2Check_s2_known (show 0 < 1000 by decide) fun H5 e5 => ?_
    have w5 := (w4.grow e5).set0 (o' := .ins (a_S2Check K) dx (putF "s2_known" (.ref p) []))
    refine s_fld ev_c (ev_var rfl) (w5.get 0 rfl) T.c_S2Check T.n_S2Check_s2_count (show 1 < 1000 by decide) fun H6 e6 => ?_
    exact k _ ((w5.grow e6).set0)
def sp_knows (K : Frg) : Sp := Pur fun vs H z => ∃ (x dx kn : Addr) (n : Int) (k : Str), vs = [.ref x, .str k] ∧ H x = some (.ins (a_S2Check K) dx (scFs kn n)) ∧ H kn = some (.tup knV) ∧ (valV kindsK (Sum.inr k)).isSome = true ∧ z = .bl true
theorem ok_S2Check_s2_knows (T : Tx w K mg) (F_is_kind : FOk PW w K mg base 2 (f_is_kind K) ["value"] [] sp_is_kind) : FOk PW w K mg base 3 (f_S2Check_s2_knows K) ["self", "value"] [] (sp_knows K) := by
  obtain ⟨fd, F⟩ := T.d_S2Check_s2_knows
  refine ⟨⟨fd, [], F.ok sc_S2Check_s2_knows (fun vs H Q E h => ?_) (fun cdv A outer s H vs Q E hr h => ?_), F.bindsN fun _ _ _ _ _ _ us hl => match us, hl with | [_, _], _ => rfl, .nil⟩, F.kp⟩
  · obtain ⟨z, ⟨x, dx, kn, n, kd, rfl, _⟩, _⟩ := h
    rfl
  · obtain ⟨z, ⟨x, dx, kn, n, kd, rfl, h1, h2, h3, rfl⟩, k⟩ := h
    refine ⟨_, (PSs.nox (pss_one (ps_ret (pe_ifExp (pt_cmpR op_isN (pe_fld (pv 0) rfl) pe_non (nomark _)) (pk_call F_is_kind hr rfl T.g_is_kind (pa_cons (pv 1) pa_nil)) (pe_and (pe_callB call_isi rfl T.z_isinstance boot_isinstance (pa_cons (pv 1) (pa_cons (pe_gty rfl T.z_str boot_str) pa_nil))) (pe_one (pe_cmpR op_in_seq (pv 1) (pe_fld (pv 0) rfl) rfl))))))), ?_⟩
    exact s_ret (ev_if (b := false) (et_test (ev_op (ev_fld (ev_var rfl) h1 T.c_S2Check T.n_S2Check_s2_known rfl) ev_c rv_isN)) (fun q => Bool.noConfusion q) fun _ => ev_is (ev_andV (isi_str "str" true (ev_var rfl)) fun _ => ev_op (ev_var rfl) (ev_fld (ev_var rfl) h1 T.c_S2Check T.n_S2Check_s2_known rfl) (rv_isT (st_of h2) rfl (by decide +kernel))) (by rw [Bool.true_and]; exact congrArg V.bl (inV_keys h3))) k
/-- a simple item of a sort -/
def ItOk (srt : Str) (v : V) : Prop := (srt = "plain" ∧ ∃ i : Int, v = .int i ∧ 0 ≤ i ∧ i ≤ 1000) ∨ (srt = "name" ∧ ∃ n, v = .str n ∧ isNameP n) ∨ (srt = "target" ∧ ∃ o, v = oV o ∧ ∀ n, o = some n → isNameP n ∧ n ≠ "error") ∨ (srt = "source" ∧ ∃ o, v = oV o ∧ ∀ n, o = some n → isNameP n) ∨
  (srt = "kind" ∧ ∃ k, v = .str k ∧ (valV kindsK (Sum.inr k)).isSome = true) ∨ (srt = "label" ∧ ∃ l, v = .str l ∧ isLabelP l) ∨ (srt = "kinds" ∧ v = .non)
def sp_ifits (K : Frg) : Sp := Pur fun vs H z => ∃ (x dx kn : Addr) (n : Int) (srt : Str) (v : V), vs = [.ref x, .str srt, v] ∧ H x = some (.ins (a_S2Check K) dx (scFs kn n)) ∧ H kn = some (.tup knV) ∧ ItOk srt v ∧ z = .bl true
theorem ok_S2Check_s2_item_fits (T : Tx w K mg) (F_is_plain : FOk PW w K mg base 2 (f_is_plain K) ["value"] [] sp_is_plain) (F_is_name : FOk PW w K mg base 1 (f_is_name K) ["value"] [] sp_is_name) (F_is_label : FOk PW w K mg base 1 (f_is_label K) ["value"] [] sp_is_label) (F_is_number : FOk PW w K mg base 1 (f_is_number K) ["value"] [] sp_is_number)
    (F_S2Check_s2_knows : FOk PW w K mg base 3 (f_S2Check_s2_knows K) ["self", "value"] [] (sp_knows K)) : FOk PW w K mg base 4 (f_S2Check_s2_item_fits K) ["self", "sort", "value"] [] (sp_ifits K) := by
  obtain ⟨fd, F⟩ := T.d_S2Check_s2_item_fits
  refine ⟨⟨fd, [], F.ok sc_S2Check_s2_item_fits (fun vs H Q E h => ?_) (fun cdv A outer s H vs Q E hr h => ?_), F.bindsN fun _ _ _ _ _ _ us hl => match us, hl with | [_, _, _], _ => rfl, .nil⟩, F.kp⟩
  · obtain ⟨z, ⟨x, dx, kn, n, srt, v, rfl, _⟩, _⟩ := h
    rfl
  · obtain ⟨z, ⟨x, dx, kn, n, srt, v, rfl, h1, h2, it, rfl⟩, k⟩ := h
    refine ⟨_, (PSs.nox (pss_cons (ps_if (pt_cmpR op_eq (pv 1) pe_str (nomark _)) (pss_one (ps_ret (pk_call F_is_plain hr rfl T.g_is_plain (pa_cons (pv 2) pa_nil)))) pss_nil) (pss_cons (ps_if (pt_cmpR op_eq (pv 1) pe_str (nomark _)) (pss_one (ps_ret (pk_call F_is_name hr rfl T.g_is_name (pa_cons (pv 2) pa_nil)))) pss_nil) (pss_cons (ps_if (pt_cmpR op_eq (pv 1) pe_str (nomark _)) (pss_one (ps_ret (pe_and (pk_call F_is_name hr rfl T.g_is_name (pa_cons (pv 2) pa_nil)) (pe_one (pe_cmpR op_ne (pv 2) pe_str (nomark _)))))) pss_nil) (pss_cons (ps_if (pt_cmpR op_eq (pv 1) pe_str (nomark _)) (pss_one (ps_ret (pe_or (pe_cmpR op_isN (pv 2) pe_non (nomark _)) (pe_one (pe_and (pk_call F_is_name hr rfl T.g_is_name (pa_cons (pv 2) pa_nil)) (pe_one (pe_cmpR op_ne (pv 2) pe_str (nomark _)))))))) pss_nil) (pss_cons (ps_if (pt_cmpR op_eq (pv 1) pe_str (nomark _)) (pss_one (ps_ret (pe_or (pe_cmpR op_isN (pv 2) pe_non (nomark _)) (pe_one (pk_call F_is_name hr rfl T.g_is_name (pa_cons (pv 2) pa_nil)))))) pss_nil) (pss_cons (ps_if (pt_cmpR op_eq (pv 1) pe_str (nomark _)) (pss_one (ps_ret (pk_meth (pv 0) T.c_S2Check T.m_S2Check_s2_knows F_S2Check_s2_knows hr (pa_cons (pv 2) pa_nil)))) pss_nil) (pss_cons (ps_if (pt_cmpR op_eq (pv 1) pe_str (nomark _)) (pss_one (ps_ret (pk_call F_is_label hr rfl T.g_is_label (pa_cons (pv 2) pa_nil)))) pss_nil) (pss_cons (ps_if (pt_cmpR op_eq (pv 1) pe_str (nomark _)) (pss_one (ps_ret (pe_and (pk_call F_is_number hr rfl T.g_is_number (pa_cons (pv 2) pa_nil)) (pe_one (pe_chain op_le op_le pe_int (pv 2) (pe_gint rfl T.i_MOST_TIMES)))))) pss_nil) (pss_one (ps_ret (pe_or (pe_cmpR op_isN (pv 2) pe_non (nomark _)) (pe_one (pe_and (pe_callB call_isi rfl T.z_isinstance boot_isinstance (pa_cons (pv 2) (pa_cons (pe_gty rfl T.z_tuple boot_tuple) pa_nil))) (pe_one (pe_callB (cr_all (by rfl)) rfl T.z_all boot_all (pa_cons (pe_lc (own := [("one", 3)]) (g := gName 3) rfl sc_S2Check_s2_item_fits.nd (pi_tup (pv 2)) (blkOk_by (own := [("one", 3)]) (N := ["self", "sort", "value", "one"]) (sc := (defScope s_S2Check_s2_item_fits)) (by decide +kernel)) (fun _ _ _ _ _ => pg_name (i := 3) sc_S2Check_s2_item_fits.nd rfl (Or.inl rfl)) (fun _ _ _ _ _ => pts_nil) (fun _ _ _ _ _ => (pk_meth (pv 0) T.c_S2Check T.m_S2Check_s2_knows F_S2Check_s2_knows hr (pa_cons (pv 3) pa_nil)))) pa_nil))))))))))))))))), ?_⟩
    rcases it with ⟨rfl, i, rfl, i1, i2⟩ | ⟨rfl, nm, rfl, hn⟩ | ⟨rfl, o, rfl, ho⟩ | ⟨rfl, o, rfl, ho⟩ | ⟨rfl, kd, rfl, hk⟩ | ⟨rfl, l, rfl, hl⟩ | ⟨rfl, rfl⟩
    · refine q_sy rfl fun H1 e1 => ?_
      exact s_ret (D := { nx := fun _ H' => Q .non H', rt := Q }) (ev_call (ea_cons (ev_var rfl) ea_nil) (pur_v fun _ _ => ⟨i, rfl, i1, i2, rfl⟩)) fun H2 e2 => k H2 (e1.trans e2)
    · refine q_sk rfl rfl fun H1 e1 => ?_
      refine q_sy rfl fun H2 e2 => ?_
      exact s_ret (D := { nx := fun _ H' => Q .non H', rt := Q }) (ev_call (ea_cons (ev_var rfl) ea_nil) (pur_v fun _ _ => ⟨nm, rfl, hn, rfl⟩)) fun H3 e3 => k H3 ((e1.trans e2).trans e3)
    · refine q_sk rfl rfl fun H1 e1 => ?_
      refine q_sk rfl rfl fun H2 e2 => ?_
      refine q_sk rfl rfl fun H3 e3 => ?_
      refine q_sy rfl fun H4 e4 => ?_
      refine s_ret (D := { nx := fun _ H' => Q .non H', rt := Q }) (v := .bl true) ?_ fun H5 e5 => k H5 ((((e1.trans e2).trans e3).trans e4).trans e5)
      cases o with
      | none => exact ev_or1 (ev_op (ev_var rfl) ev_c rv_isN)
      | some nm =>
        refine ev_or2 (ev_op (ev_var rfl) ev_c rv_isN) (ev_is (ev_andV (ev_call (ea_cons (ev_var rfl) ea_nil) (pur_v fun _ _ => ⟨nm, rfl, (ho nm rfl).1, rfl⟩)) fun _ => ev_op (ev_var rfl) ev_c (rv_ne rfl)) ?_)
        have e : decide (oV (some nm) = V.str "error") = false := decide_eq_false fun z => (ho nm rfl).2 (V.str.inj z)
        rw [e]
        rfl
    · refine q_sk rfl rfl fun H1 e1 => ?_
      refine q_sk rfl rfl fun H2 e2 => ?_
      refine q_sk rfl rfl fun H3 e3 => ?_
      refine q_sk rfl rfl fun H4 e4 => ?_
      refine q_sy rfl fun H5 e5 => ?_
      refine s_ret (D := { nx := fun _ H' => Q .non H', rt := Q }) (v := .bl true) ?_ fun H6 e6 => k H6 (((((e1.trans e2).trans e3).trans e4).trans e5).trans e6)
      cases o with
      | none => exact ev_or1 (ev_op (ev_var rfl) ev_c rv_isN)
      | some nm => exact ev_or2 (ev_op (ev_var rfl) ev_c rv_isN) (ev_call (ea_cons (ev_var rfl) ea_nil) (pur_v fun _ _ => ⟨nm, rfl, ho nm rfl, rfl⟩))
    · refine q_sk rfl rfl fun H1 e1 => ?_
      refine q_sk rfl rfl fun H2 e2 => ?_
      refine q_sk rfl rfl fun H3 e3 => ?_
      refine q_sk rfl rfl fun H4 e4 => ?_
      refine q_sk rfl rfl fun H5 e5 => ?_
      refine q_sy rfl fun H6 e6 => ?_
      have e := ((((e1.trans e2).trans e3).trans e4).trans e5).trans e6
      exact s_ret (D := { nx := fun _ H' => Q .non H', rt := Q }) (ev_meth (ev_var rfl) (e _ _ h1) rfl (ea_cons (ev_var rfl) ea_nil) (pur_v fun H7 e7 => ⟨x, dx, kn, n, kd, rfl, e7 _ _ (e _ _ h1), e7 _ _ (e _ _ h2), hk, rfl⟩)) fun H7 e7 => k H7 (e.trans e7)
    · refine q_sk rfl rfl fun H1 e1 => ?_
      refine q_sk rfl rfl fun H2 e2 => ?_
      refine q_sk rfl rfl fun H3 e3 => ?_
      refine q_sk rfl rfl fun H4 e4 => ?_
      refine q_sk rfl rfl fun H5 e5 => ?_
      refine q_sk rfl rfl fun H6 e6 => ?_
      refine q_sy rfl fun H7 e7 => ?_
      exact s_ret (D := { nx := fun _ H' => Q .non H', rt := Q }) (ev_call (ea_cons (ev_var rfl) ea_nil) (pur_v fun _ _ => ⟨l, rfl, hl, rfl⟩)) fun H8 e8 => k H8 (((((((e1.trans e2).trans e3).trans e4).trans e5).trans e6).trans e7).trans e8)
    · refine q_sk rfl rfl fun H1 e1 => ?_
      refine q_sk rfl rfl fun H2 e2 => ?_
      refine q_sk rfl rfl fun H3 e3 => ?_
      refine q_sk rfl rfl fun H4 e4 => ?_
      refine q_sk rfl rfl fun H5 e5 => ?_
      refine q_sk rfl rfl fun H6 e6 => ?_
      refine q_sk rfl rfl fun H7 e7 => ?_
      refine q_sk rfl rfl fun H8 e8 => ?_
      exact s_ret (ev_or1 (ev_op (ev_var rfl) ev_c rv_isN)) fun H9 e9 => k H9 ((((((((e1.trans e2).trans e3).trans e4).trans e5).trans e6).trans e7).trans e8).trans e9)
end
end L2.EX
namespace L2.EX
open PySem PySem.Spec PyProof.Rows Evl
/-! The check of bodies, statements, handlers: by stages. -/
section
variable {K : Frg} {σ : L2.St} {H : Hp} {ta tb te : TE} {tr : TA} {A : List V → Hp → Prop} {v : V} {a : Addr} {xs us : List V} {g : TG} {tu tz : TS} {D : Ends}
/-- a tuple, new or not -/
def EvW (te : TE) (σ : L2.St) (H : Hp) (xs : List V) : Prop := ∀ H1, Ex H H1 → ∀ Q : VK, (∀ p H2, Ex H1 H2 → H2 p = some (.tup xs) → Q (.ref p) H2) → te σ H1 Q
theorem ew_u (h : EvU te σ H xs) : EvW te σ H xs := fun H1 e Q q => h H1 e Q fun p H2 _ e2 h2 => q p H2 e2 h2
theorem ew_cat (h : Ev ta σ H (.ref a)) (hp : H a = some (.tup xs)) (h2 : EvU tb σ H [v]) (hl : xs.length ≤ 10000) : EvW (tOp (rCatA K) ta tb) σ H (xs ++ [v]) := fun H1 e Q q =>
  h H1 e _ fun H2 e2 => h2 H2 (e.trans e2) _ fun p H3 _ e3 h3 => ⟨a, p, xs, [v], rfl, rfl, st_of (((e.trans e2).trans e3) _ _ hp), st_of h3, sz_le (by rw [List.length_singleton]; omega), fun z => q p H3 (e2.trans e3) (by rw [z]; exact h3), fun _ z => absurd z (List.cons_ne_nil _ _),
    fun _ _ p2 hp2 => q p2 _ ((e2.trans e3).trans (Ex.new hp2)) upd_same⟩
theorem ax_cons (h : Ev ta σ H v) (k : ∀ H1, Ex H H1 → tr σ H1 fun xs H2 => A (v :: xs) H2) : tCons ta tr σ H A := h H (Ex.refl H) _ fun H1 e1 => k H1 e1
theorem ax_W (h : EvW ta σ H us) (k : ∀ p H1, Ex H H1 → H1 p = some (.tup us) → tr σ H1 fun xs H2 => A (.ref p :: xs) H2) : tCons ta tr σ H A := h H (Ex.refl H) _ fun p H1 e1 h1 => k p H1 e1 h1
theorem ax_nil (h : A [] H) : tNil σ H A := h
theorem s_forEnU {i j : Nat} (h : EvU te σ H xs) (Pv : Addr → Nat → L2.St → Hp → Prop) (h0 : ∀ p H1, Ex H H1 → H1 p = some (.tup xs) → Pv p 0 σ H1) (hl : ∀ p i σ' H', i ≤ xs.length → Pv p i σ' H' → SqT K H' p xs)
    (hs : ∀ p (n : Nat) x σ' H' H1, xs[n]? = some x → Pv p n σ' H' → Ex H' H1 → tu { D with nx := Pv p (n + 1), ct := Pv p (n + 1), bk := D.nx } ((σ'.set i (some (.int n))).set j (some x)) H1) (hd : ∀ p σ' H', Pv p xs.length σ' H' → D.nx σ' H') :
    tFor (iEnumT K (tCons te tNil)) (gTup K 2 (gCons (gName i) (gCons (gName j) gNil))) tu D σ H :=
  h H (Ex.refl H) _ fun p H1 _ e1 h1 => ⟨p, xs, rfl, st_of h1, for_enumT (Pv p) (h0 p H1 e1 h1) (hl p) (fun n x σ' H' T e pv hT => ⟨T, _, rfl, st_of upd_same, rfl, g_cons (g_cons (g_nil (hs p n x σ' H' _ e pv (Ex.new hT))))⟩) (hd p)⟩
end
def nmOk (o : Option Str) : Prop := ∀ n, o = some n → isNameP n ∧ n ≠ "error"
def Bdy.len : Bdy → Nat
  | .nil => 0
  | .sim _ r => r.len + 1
  | .tri _ _ _ r => r.len + 1
/-- the body fits where the scene is d deep -/
def Bdy.ck : Nat → Bdy → Prop
  | _, .nil => True
  | d, .sim _ r => d ≤ 8 ∧ r.ck d
  | d, .tri _ nm h r => d + 1 ≤ 8 ∧ nmOk nm ∧ h.len ≤ 12 ∧ h.ck (d + 1) ∧ r.ck d
theorem BdyT.len {H : Hp} {us : List V} {b : Bdy} (h : BdyT H us b) : us.length = b.len := by
  induction h with
  | nil => rfl
  | sim _ _ _ ih => exact congrArg Nat.succ ih
  | tri _ _ _ _ _ _ _ _ _ _ _ _ _ ih => exact congrArg Nat.succ ih
/-- what an item holds: how many statements it counts -/
def ItG (H : Hp) (d : Nat) (srt : Str) (v : V) (m : Nat) : Prop :=
  (ItOk srt v ∧ m = 0) ∨ (srt = "body" ∧ ∃ p us b, v = .ref p ∧ H p = some (.tup us) ∧ BdyT H us b ∧ us.length ≤ 12 ∧ b.ck (d + 1) ∧ m = b.size) ∨
  (srt = "handlers" ∧ ∃ hs h1 nm hb ws h, v = .ref hs ∧ H hs = some (.tup [.ref h1]) ∧ H h1 = some (.tup [.non, oV nm, .ref hb]) ∧ H hb = some (.tup ws) ∧ BdyT H ws h ∧ ws.length ≤ 12 ∧ h.ck (d + 1) ∧ nmOk nm ∧ m = h.size)
theorem ItG.tp {H H' : Hp} (t : TP H H') {d : Nat} {srt : Str} {v : V} {m : Nat} (h : ItG H d srt v m) : ItG H' d srt v m := by
  rcases h with h | ⟨e, p, us, b, h1, h2, h3, h4⟩ | ⟨e, hs, h1, nm, hb, ws, h, a1, a2, a3, a4, a5, a6⟩
  · exact .inl h
  · exact .inr (.inl ⟨e, p, us, b, h1, t _ _ h2, h3.tp t, h4⟩)
  · exact .inr (.inr ⟨e, hs, h1, nm, hb, ws, h, a1, t _ _ a2, t _ _ a3, t _ _ a4, a5.tp t, a6⟩)
section
variable {w : World} {K : Frg} {mg : Str → Option Value} {base : Heap}
/-- the check's state: n statements counted, the path, the scene -/
structure Ck (K : Frg) (H0 H : Hp) (x dx kn pa sc : Addr) (ps : List V) (d e : Nat) (n : Nat) : Prop where
  own : Own H0 H [(x, .ins (a_S2Check K) dx (scFs kn n))]
  knw : H kn = some (.tup knV)
  pth : H pa = some (.tup ps)
  scn : H sc = some (.tup [.int d, .bl false, .bl false])
  len : ps.length + 10 * e ≤ 1000
theorem Ck.grow {H0 H H' : Hp} {x dx kn pa sc : Addr} {ps : List V} {d e n : Nat} (c : Ck K H0 H x dx kn pa sc ps d e n) (g : Ex H H') : Ck K H0 H' x dx kn pa sc ps d e n := ⟨c.own.grow g, g _ _ c.knw, g _ _ c.pth, g _ _ c.scn, c.len⟩
/-- behind a call -/
theorem Ck.then {H0 H H' : Hp} {x dx kn pa sc : Addr} {ps : List V} {d e n m : Nat} (c : Ck K H0 H x dx kn pa sc ps d e n) (o : Own H0 H' [(x, .ins (a_S2Check K) dx (scFs kn m))]) (t : TP H H') : Ck K H0 H' x dx kn pa sc ps d e m := ⟨o, t _ _ c.knw, t _ _ c.pth, t _ _ c.scn, c.len⟩
def sp_wb (K : Frg) (e : Nat) : Sp := fun vs H Q _ => ∃ (H0 : Hp) (x dx kn pa sc p : Addr) (ps us : List V) (b : Bdy) (d n : Nat), vs = [.ref x, .ref p, .ref pa, .ref sc] ∧ Ck K H0 H x dx kn pa sc ps d e n ∧ d + e = 9 ∧ H p = some (.tup us) ∧ BdyT H us b ∧ us.length ≤ 12 ∧ b.ck d ∧
  ∀ H', Own H0 H' [(x, .ins (a_S2Check K) dx (scFs kn ((n + b.size : Nat) : Int)))] → Q .non H'
/-- the scene stands at a statement: e stages below -/
def sp_wi (K : Frg) (e : Nat) (hd : Bool) : Sp := fun vs H Q _ => ∃ (H0 : Hp) (x dx kn pa sc : Addr) (srt : Str) (v : V) (ps : List V) (d n m : Nat), vs = [.ref x, .str srt, v, .ref pa, .ref sc] ∧ Ck K H0 H x dx kn pa sc ps d e n ∧ d + e = 8 ∧ ItG H d srt v m ∧ (hd = false → srt ≠ "handlers") ∧ (hd = true → ps.length + 10 * e + 2 ≤ 1000) ∧
  ∀ H', Own H0 H' [(x, .ins (a_S2Check K) dx (scFs kn ((n + m : Nat) : Int)))] → Q .non H'
def sp_wh (K : Frg) (e : Nat) : Sp := fun vs H Q _ => ∃ (H0 : Hp) (x dx kn pa sc hs h1 hb : Addr) (nm : Option Str) (ps ws : List V) (h : Bdy) (d n : Nat), vs = [.ref x, .ref hs, .ref pa, .ref sc] ∧ Ck K H0 H x dx kn pa sc ps d e n ∧ ps.length + 10 * e + 2 ≤ 1000 ∧ d + e = 8 ∧ H hs = some (.tup [.ref h1]) ∧ H h1 = some (.tup [.non, oV nm, .ref hb]) ∧ H hb = some (.tup ws) ∧ BdyT H ws h ∧ ws.length ≤ 12 ∧ h.ck (d + 1) ∧ nmOk nm ∧
  ∀ H', Own H0 H' [(x, .ins (a_S2Check K) dx (scFs kn ((n + h.size : Nat) : Int)))] → Q .non H'
theorem ok_wh_no (T : Tx w K mg) : FOk PW w K mg base 1 (f_S2Check_s2_wrong_handlers K) ["self", "handlers", "path", "scene"] [] (fun _ _ _ _ => False) := by
  obtain ⟨fd, F⟩ := T.d_S2Check_s2_wrong_handlers
  refine ⟨⟨fd, [], F.ok sc_S2Check_s2_wrong_handlers (fun vs H Q E h => ?_) (fun cdv A outer s H vs Q E hr h => ?_), F.bindsN fun _ _ _ _ _ _ us hl => match us, hl with | [_, _, _, _], _ => rfl, .nil⟩, F.kp⟩
  · exact h.elim
  · exact h.elim
theorem ok_item (T : Tx w K mg) {k e : Nat} {hd : Bool} {sph : Sp} (hk : 4 ≤ k) (hsp : hd = true → sph = sp_wh K e) (F_S2Check_s2_item_fits : FOk PW w K mg base 4 (f_S2Check_s2_item_fits K) ["self", "sort", "value"] [] (sp_ifits K))
    (F_S2Check_s2_wrong_body : FOk PW w K mg base k (f_S2Check_s2_wrong_body K) ["self", "body", "path", "scene"] [] (sp_wb K e)) (F_S2Check_s2_wrong_handlers : FOk PW w K mg base k (f_S2Check_s2_wrong_handlers K) ["self", "handlers", "path", "scene"] [] sph) :
    FOk PW w K mg base (k + 1) (f_S2Check_s2_wrong_item K) ["self", "sort", "value", "path", "scene"] [] (sp_wi K e hd) := by
  obtain ⟨fd, F⟩ := T.d_S2Check_s2_wrong_item
  refine ⟨⟨fd, [], F.ok sc_S2Check_s2_wrong_item (fun vs H Q E h => ?_) (fun cdv A outer s H vs Q E hr h => ?_), F.bindsN fun _ _ _ _ _ _ us hl => match us, hl with | [_, _, _, _, _], _ => rfl, .nil⟩, F.kp⟩
  · obtain ⟨H0, x, dx, kn, pa, sc, srt, v, ps, d, n, m, rfl, _⟩ := h
    rfl
  · obtain ⟨H0, x, dx, kn, pa, sc, srt, v, ps, d, n, m, rfl, c, hde, it, hh, hln, k0⟩ := h
    refine ⟨_, (PSs.nox (pss_cons (ps_asg (pv 4) (pg_tup rfl (pgs_cons (pg_name (i := 5) sc_S2Check_s2_wrong_item.nd rfl (Or.inl rfl)) (pgs_cons (pg_name (i := 6) sc_S2Check_s2_wrong_item.nd rfl (Or.inl rfl)) (pgs_cons (pg_name (i := 7) sc_S2Check_s2_wrong_item.nd rfl (Or.inl rfl)) pgs_nil))))) (pss_cons (ps_if (pt_cmpR op_in_seq (pv 1) (pe_gref rfl T.g_BODIES) rfl) (pss_cons (ps_set (i := 8) sc_S2Check_s2_wrong_item.nd rfl (Or.inl rfl) (pe_or (pe_cmpR op_eq (pv 1) pe_str (nomark _)) (pe_one (pe_and (pe_cmpR op_eq (pv 1) pe_str (nomark _)) (pe_one (pv 6)))))) (pss_cons (ps_set (i := 9) sc_S2Check_s2_wrong_item.nd rfl (Or.inl rfl) (pe_or (pe_cmpR op_eq (pv 1) pe_str (nomark _)) (pe_one (pe_and (pe_cmpR op_ne (pv 1) pe_str (nomark _)) (pe_one (pv 7)))))) (pss_one (ps_ret (pk_meth (pv 0) T.c_S2Check T.m_S2Check_s2_wrong_body F_S2Check_s2_wrong_body hr (pa_cons (pv 2) (pa_cons (pv 3) (pa_cons (pe_tup (pa_cons (pe_op op_add (pv 5) pe_int) (pa_cons (pv 8) (pa_cons (pv 9) pa_nil)))) pa_nil)))))))) pss_nil) (pss_cons (ps_if (pt_cmpR op_eq (pv 1) pe_str (nomark _)) (pss_one (ps_ret (pk_meth (pv 0) T.c_S2Check T.m_S2Check_s2_wrong_handlers F_S2Check_s2_wrong_handlers hr (pa_cons (pv 2) (pa_cons (pv 3) (pa_cons (pv 4) pa_nil)))))) pss_nil) (pss_cons (ps_if (pt_cmpR op_ne (pv 1) pe_str (nomark _)) (pss_one (ps_ret (pe_ifExp (pt_val (pk_meth (pv 0) T.c_S2Check T.m_S2Check_s2_item_fits F_S2Check_s2_item_fits hr (pa_cons (pv 1) (pa_cons (pv 2) pa_nil)))) pe_non (pv 3)))) pss_nil) (pss_cons ps_never (pss_cons ps_never (pss_cons ps_never (pss_one (ps_ret pe_non)))))))))), ?_⟩
    refine q_asgN (ev_var rfl) c.scn rfl fun H1 e1 => g_cons (g_cons (g_cons (g_nil ?_)))
    have c1 := c.grow e1
    have it1 := it.tp (ex_tp e1)
    have bod : ∀ {y : V} {b : Bool}, flatV y = true → inV y [.str "body", .str "round", .str "function", .str "made"] = b → ∀ {σ' : L2.St} {H' : Hp}, σ'[1]? = some (some y) → EvT (tTest (tOp (rIn K false) (tVar 1) (tC (.ref (He.ga K "BODIES"))))) σ' H' b := fun hf hb σ' H' hx => et_is (et_test (ev_op (ev_var hx) ev_c (rv_isT (He.tupB_ok T.tu_BODIES _) hf rfl))) hb
    rcases it1 with ⟨ok, rfl⟩ | ⟨rfl, p, us, b, rfl, hp, bt, hl, ck, rfl⟩ | ⟨rfl, hs, h1, nm, hb, ws, h, rfl, a1, a2, a3, a4, a5, a6, a7, rfl⟩
    · have n1 : inV (.str srt) [.str "body", .str "round", .str "function", .str "made"] = false ∧ decide (V.str srt = V.str "handlers") = false ∧ decide (V.str srt = V.str "manager") = false := by
        rcases ok with ⟨rfl, _⟩ | ⟨rfl, _⟩ | ⟨rfl, _⟩ | ⟨rfl, _⟩ | ⟨rfl, _⟩ | ⟨rfl, _⟩ | ⟨rfl, _⟩ <;> exact ⟨by decide +kernel, by decide +kernel, by decide +kernel⟩
      refine q_when (b := false) (bod rfl n1.1 rfl) (fun q => Bool.noConfusion q) fun _ H2 e2 => ?_
      refine q_sk rfl n1.2.1 fun H3 e3 => ?_
      refine q_when (b := true) (et_is (et_test (ev_op (ev_var rfl) ev_c (rv_ne rfl))) (by rw [n1.2.2]; rfl)) (fun _ H4 e4 => ?_) fun q => Bool.noConfusion q
      have c4 := ((c1.grow e2).grow e3).grow e4
      refine s_ret (D := { nx := fun _ H' => Q .non H', rt := Q }) (v := .non) (ev_if (b := true) (et_B (ev_meth (ev_var rfl) (c4.own.get 0 rfl) rfl (ea_cons (ev_var rfl) (ea_cons (ev_var rfl) ea_nil)) (pur_v fun H5 e5 => ⟨x, dx, kn, n, srt, v, rfl, e5 _ _ (c4.own.get 0 rfl), e5 _ _ c4.knw, ok, rfl⟩))) (fun _ => ev_c) fun q => Bool.noConfusion q) fun H5 e5 => k0 H5 (c4.own.grow e5)
    · refine q_when (b := true) (bod rfl (by decide +kernel) rfl) (fun _ H2 e2 => ?_) fun q => Bool.noConfusion q
      refine q_asg (v := .bl false) (ev_orV (a := false) (b := false) (ev_op (ev_var rfl) ev_c (rv_eq rfl)) fun _ => ev_andV (a := true) (b := false) (ev_op (ev_var rfl) ev_c (rv_eq rfl)) fun _ => ev_var rfl) fun H3 e3 => ?_
      refine q_asg (v := .bl false) (ev_orV (a := false) (b := false) (ev_op (ev_var rfl) ev_c (rv_eq rfl)) fun _ => ev_andV (a := true) (b := false) (ev_op (ev_var rfl) ev_c (rv_ne rfl)) fun _ => ev_var rfl) fun H4 e4 => ?_
      have c4 := ((c1.grow e2).grow e3).grow e4
      refine s_retX (x_methT (ev_var rfl) (c4.own.get 0 rfl) rfl fun H5 e5 => ?_)
      refine ax_cons (ev_var rfl) fun H6 e6 => ax_cons (ev_var rfl) fun H7 e7 => ax_W (ew_u (eu_tup (ea_cons (ev_op (ev_var rfl) ev_c rv_I0) (ea_cons (ev_var rfl) (ea_cons (ev_var rfl) ea_nil))) (show 3 ≤ 100000 by decide))) fun sc2 H8 e8 h8 => ax_nil ?_
      have g : Ex H1 H8 := (((((e2.trans e3).trans e4).trans e5).trans e6).trans e7).trans e8
      have c8 := c1.grow g
      exact ⟨H0, x, dx, kn, pa, sc2, p, ps, us, b, d + 1, n, rfl, ⟨c8.own, c8.knw, c8.pth, h8, c8.len⟩, by omega, g _ _ hp, bt.tp (ex_tp g), hl, ck, fun H9 o _ => k0 H9 o⟩
    · have hd1 : hd = true := by
        cases hd with
        | true => rfl
        | false => exact absurd rfl (hh rfl)
      obtain rfl := hsp hd1
      refine q_when (b := false) (bod rfl (by decide +kernel) rfl) (fun q => Bool.noConfusion q) fun _ H2 e2 => ?_
      refine q_sy rfl fun H3 e3 => ?_
      have c3 := (c1.grow e2).grow e3
      have g := e2.trans e3
      refine s_retX (x_meth (ev_var rfl) (c3.own.get 0 rfl) rfl (ea_cons (ev_var rfl) (ea_cons (ev_var rfl) (ea_cons (ev_var rfl) ea_nil))) fun H4 e4 => ?_)
      have c4 := c3.grow e4
      have g := g.trans e4
      exact ⟨H0, x, dx, kn, pa, sc, hs, h1, hb, nm, ps, ws, h, d, n, rfl, c4, hln hd1, hde, g _ _ a1, g _ _ a2, g _ _ a3, a4.tp (ex_tp g), a5, a6, a7, fun H5 o _ => k0 H5 o⟩
/-- the handlers: one -/
theorem ok_wh (T : Tx w K mg) {k e : Nat} (F_S2Check_s2_wrong_item : FOk PW w K mg base k (f_S2Check_s2_wrong_item K) ["self", "sort", "value", "path", "scene"] [] (sp_wi K e false)) : FOk PW w K mg base (k + 1) (f_S2Check_s2_wrong_handlers K) ["self", "handlers", "path", "scene"] [] (sp_wh K e) := by
  obtain ⟨fd, F⟩ := T.d_S2Check_s2_wrong_handlers
  refine ⟨⟨fd, [], F.ok sc_S2Check_s2_wrong_handlers (fun vs H Q E h => ?_) (fun cdv A outer s H vs Q E hr h => ?_), F.bindsN fun _ _ _ _ _ _ us hl => match us, hl with | [_, _, _, _], _ => rfl, .nil⟩, F.kp⟩
  · obtain ⟨H0, x, dx, kn, pa, sc, hs, h1, hb, nm, ps, ws, b, d, n, rfl, _⟩ := h
    rfl
  · obtain ⟨H0, x, dx, kn, pa, sc, hs, h1, hb, nm, ps, ws, b, d, n, rfl, c, hln, hde, a1, a2, a3, a4, a5, a6, a7, k0⟩ := h
    refine ⟨_, (PSs.nox (pss_cons (ps_if (PW.pt (pw_or (pt_not (pt_val (pe_callB call_isi rfl T.z_isinstance boot_isinstance (pa_cons (pv 1) (pa_cons (pe_gty rfl T.z_tuple boot_tuple) pa_nil))))) (pw_or1 (pt_cmpR op_gt (pe_callB call_len rfl T.z_len boot_len (pa_cons (pv 1) pa_nil)) (pe_gint rfl T.i_MOST_HANDLERS) (nomark _))))) (pss_one (ps_ret (pv 2))) pss_nil) (pss_cons (ps_for PassesOwn.never rfl (pi_enumT rfl T.z_enumerate (pa_cons (pv 1) pa_nil)) (pg_tup rfl (pgs_cons (pg_name (i := 4) sc_S2Check_s2_wrong_handlers.nd rfl (Or.inl rfl)) (pgs_cons (pg_name (i := 5) sc_S2Check_s2_wrong_handlers.nd rfl (Or.inl rfl)) pgs_nil))) (pss_cons (ps_set (i := 6) sc_S2Check_s2_wrong_handlers.nd rfl (Or.inl rfl) (pe_op op_catA (pv 2) (pe_tup (pa_cons (pv 4) pa_nil)))) (pss_cons (ps_if (PW.pt (pw_or (pt_not (pt_val (pe_callB call_isi rfl T.z_isinstance boot_isinstance (pa_cons (pv 5) (pa_cons (pe_gty rfl T.z_tuple boot_tuple) pa_nil))))) (pw_or1 (pt_cmpR op_ne (pe_callB call_len rfl T.z_len boot_len (pa_cons (pv 5) pa_nil)) pe_int (nomark _))))) (pss_one (ps_ret (pv 6))) pss_nil) (pss_one (ps_for PassesOwn.never rfl (pi_enumT rfl T.z_enumerate (pa_cons (pe_tup (pa_cons pe_str (pa_cons pe_str (pa_cons pe_str pa_nil)))) pa_nil)) (pg_tup rfl (pgs_cons (pg_name (i := 7) sc_S2Check_s2_wrong_handlers.nd rfl (Or.inl rfl)) (pgs_cons (pg_name (i := 8) sc_S2Check_s2_wrong_handlers.nd rfl (Or.inl rfl)) pgs_nil))) (pss_cons (ps_set (i := 9) sc_S2Check_s2_wrong_handlers.nd rfl (Or.inl rfl) (pk_meth (pv 0) T.c_S2Check T.m_S2Check_s2_wrong_item F_S2Check_s2_wrong_item hr (pa_cons (pv 8) (pa_cons (pe_ix ix_tup (pv 5) (pv 7) (fun _ _ => rfl)) (pa_cons (pe_op op_catA (pv 6) (pe_tup (pa_cons (pv 7) pa_nil))) (pa_cons (pv 3) pa_nil)))))) (pss_one (ps_if (pt_cmpR op_notN (pv 9) pe_non (nomark _)) (pss_one (ps_ret (pv 9))) pss_nil)))))))) (pss_one (ps_ret pe_non))))), ?_⟩
    refine q_when (b := false) (et_is (et_or (a := false) (et_not (a := true) (et_B (isi_tup "tuple" true (ev_var rfl) a1))) fun _ => et_test (ev_op (ev_cb (ea_cons (ev_var rfl) ea_nil) (rc_len fun H5 e5 => .inr ⟨_, st_of (e5 _ _ a1), rfl⟩)) ev_c rv_I0)) rfl) (fun q => Bool.noConfusion q) fun _ H1 e1 => ?_
    have c1 := c.grow e1
    refine q_forEn (a := hs) (xs := [.ref h1]) (ea_cons (ev_var rfl) ea_nil) (st_of (e1 _ _ a1)) (fun i σ' H' => ∃ o1 o2 o3 o4 o5 o6, σ' = [some (.ref x), some (.ref hs), some (.ref pa), some (.ref sc), o1, o2, o3, o4, o5, o6] ∧ TP H H' ∧ Own H0 H' [(x, .ins (a_S2Check K) dx (scFs kn ((n + i * b.size : Nat) : Int)))])
      (fun H2 e2 => ⟨_, _, _, _, _, _, rfl, ex_tp (e1.trans e2), by rw [Nat.zero_mul]; exact c1.own.grow e2⟩) (fun i σ' H' _ ⟨_, _, _, _, _, _, _, t, _⟩ => st_of (t _ _ a1)) (fun i y σ' H' H2 hy ⟨o1, o2, o3, o4, o5, o6, eσ, t, o⟩ e2 => ?_) fun σ' H' ⟨_, _, _, _, _, _, _, _, o⟩ => s_ret ev_c fun H2 e2 => k0 H2 (by
        have o2 := o.grow e2
        rw [show ([V.ref h1] : List V).length = 1 from rfl, Nat.one_mul] at o2
        exact o2)
    obtain ⟨rfl, rfl⟩ : i = 0 ∧ y = .ref h1 := by
      match i, hy with
      | 0, hy => exact ⟨rfl, (Option.some.inj hy).symm⟩
    subst eσ
    rw [Nat.zero_mul] at o
    have c2 := (c.then o t).grow e2
    have t2 := t.trans (ex_tp e2)
    refine q_asgXT (ew_cat (v := .int 0) (ev_var rfl) c2.pth (eu_tup (ea_cons (ev_var rfl) ea_nil) (show 1 ≤ 100000 by decide)) (by have := c.len; omega) H2 (Ex.refl _) _ fun pl H3 e3 hpl => ?_)
    have c3 := c2.grow e3
    have t3 := t2.trans (ex_tp e3)
    refine q_when (b := false) (et_is (et_or (a := false) (et_not (a := true) (et_B (isi_tup "tuple" true (ev_var rfl) (t3 _ _ a2)))) fun _ => et_test (ev_op (ev_cb (ea_cons (ev_var rfl) ea_nil) (rc_len fun H5 e5 => .inr ⟨_, st_of (e5 _ _ (t3 _ _ a2)), rfl⟩)) ev_c (rv_ne rfl))) rfl) (fun q => Bool.noConfusion q) fun _ H4 e4 => ?_
    have c4 := c3.grow e4
    have t4 := t3.trans (ex_tp e4)
    refine s_forEnU (xs := [.str "kinds", .str "target", .str "body"]) (eu_tup (ea_cons ev_c (ea_cons ev_c (ea_cons ev_c ea_nil))) (show 3 ≤ 100000 by decide)) (fun q i σ' H' => ∃ o1 o2 o3, σ' = [some (.ref x), some (.ref hs), some (.ref pa), some (.ref sc), some (.int 0), some (.ref h1), some (.ref pl), o1, o2, o3] ∧ TP H4 H' ∧ H' q = some (.tup [.str "kinds", .str "target", .str "body"]) ∧ Own H0 H' [(x, .ins (a_S2Check K) dx (scFs kn ((n + (if i = 3 then b.size else 0) : Nat) : Int)))])
      (fun q H5 e5 h5 => ⟨_, _, _, rfl, ex_tp e5, h5, c4.own.grow e5⟩) (fun q i σ' H' _ ⟨_, _, _, _, _, h, _⟩ => st_of h) (fun q i y σ' H' H5 hy ⟨o1, o2, o3, eσ, t, hq, o⟩ e5 => ?_) fun q σ' H' ⟨_, _, _, eσ, t, _, o⟩ => ⟨_, _, _, _, _, _, eσ, t4.trans t, by
        rw [show ([V.str "kinds", V.str "target", V.str "body"] : List V).length = 3 from rfl, if_pos rfl] at o
        rw [Nat.zero_add, Nat.one_mul]
        exact o⟩
    obtain ⟨srt, v, m, rfl, hi3, hv, it, hne, hm⟩ : ∃ srt v m, y = .str srt ∧ i < 3 ∧ ([.non, oV nm, .ref hb] : List V)[i]? = some v ∧ ItG H d srt v m ∧ srt ≠ "handlers" ∧ (if i = 3 then b.size else 0) + m = (if i + 1 = 3 then b.size else 0) := by
      match i, hy with
      | 0, hy => exact ⟨"kinds", .non, 0, (Option.some.inj hy).symm, by decide, rfl, .inl ⟨.inr (.inr (.inr (.inr (.inr (.inr ⟨rfl, rfl⟩))))), rfl⟩, by decide +kernel, rfl⟩
      | 1, hy => exact ⟨"target", oV nm, 0, (Option.some.inj hy).symm, by decide, rfl, .inl ⟨.inr (.inr (.inl ⟨rfl, nm, rfl, a7⟩)), rfl⟩, by decide +kernel, rfl⟩
      | 2, hy => exact ⟨"body", .ref hb, b.size, (Option.some.inj hy).symm, by decide, rfl, .inr (.inl ⟨rfl, hb, ws, b, rfl, a3, a4, a5, a6, rfl⟩), by decide +kernel, by rw [if_neg (by decide), if_pos rfl, Nat.zero_add]⟩
    subst eσ
    have c5 := (c4.then o t).grow e5
    have t5 := (t4.trans t).trans (ex_tp e5)
    have hpl5 : H5 pl = some (.tup (ps ++ [.int 0])) := e5 _ _ (t _ _ (e4 _ _ hpl))
    refine q_asgXT (x_methT (ev_var rfl) (c5.own.get 0 rfl) rfl fun H6 e6 => ?_)
    refine ax_cons (ev_var rfl) fun H7 e7 => ax_cons (v := v) (ev_op (ev_var rfl) (ev_var rfl) (rv_ixT (st_of ((e6.trans e7) _ _ (t5 _ _ a2))) (atI_nat (j := i) hv))) fun H8 e8 => ax_W (ew_cat (v := .int i) (ev_var rfl) (((e6.trans e7).trans e8) _ _ hpl5) (eu_tup (ea_cons (ev_var rfl) ea_nil) (show 1 ≤ 100000 by decide)) (by rw [List.length_append]; have := c.len; simp; omega)) fun pa2 H9 e9 h9 => ax_cons (ev_var rfl) fun H10 e10 => ax_nil ?_
    have g : Ex H5 H10 := (((e6.trans e7).trans e8).trans e9).trans e10
    have c10 := c5.grow g
    refine ⟨H0, x, dx, kn, pa2, sc, srt, v, _, d, _, m, rfl, ⟨c10.own, c10.knw, e10 _ _ h9, c10.scn, by simp; omega⟩, hde, it.tp (t5.trans (ex_tp g)), fun _ => hne, fun q => Bool.noConfusion q, fun H11 o11 t11 => ?_⟩
    refine s_when (b := false) (et_test (ev_op (ev_var rfl) ev_c rv_notN)) (fun q => Bool.noConfusion q) fun _ H12 e12 => ⟨_, _, _, rfl, ?_, ?_, ?_⟩
    · exact ((t.trans (ex_tp (e5.trans g))).trans t11).trans (ex_tp e12)
    · exact e12 _ _ (t11 _ _ (g _ _ (e5 _ _ hq)))
    · have o12 := o11.grow e12
      rw [Nat.add_assoc, hm] at o12
      exact o12
end
end L2.EX
namespace L2.EX
open PySem PySem.Spec PyProof.Rows Evl
/-! The check of statements, bodies: the stages joined. -/
abbrev It3 : Type := Str × V × Nat
def itSum (its : List It3) : Nat := (its.map fun t => t.2.2).sum
/-- a simple statement's items -/
theorem simIts (x : Sim) (ok : x.Ok) (H : Hp) (d : Nat) : ∃ (z : Str) (its : List It3), simV x = .str z :: its.map (fun t => t.2.1) ∧ PtOk z its.length (its.map fun t => t.1) ∧ (∀ t ∈ its, ItG H d t.1 t.2.1 t.2.2) ∧ itSum its = 0 := by
  cases x with
  | note i =>
    refine ⟨"note", [("plain", .int i, 0)], rfl, .inl ⟨rfl, rfl, rfl⟩, fun t ht => ?_, rfl⟩
    obtain rfl := List.mem_singleton.mp ht
    exact .inl ⟨.inl ⟨rfl, i, rfl, ok.1, ok.2⟩, rfl⟩
  | again => exact ⟨"again", [], rfl, .inr (.inl ⟨rfl, rfl, rfl⟩), fun t ht => absurd ht List.not_mem_nil, rfl⟩
  | raise k l src =>
    obtain ⟨⟨_, k2⟩, l1, so⟩ := ok
    have i1 : ItG H d "kind" (.str k) 0 := .inl ⟨.inr (.inr (.inr (.inr (.inl ⟨rfl, k, rfl, k2⟩)))), rfl⟩
    have i2 : ItG H d "label" (.str l) 0 := .inl ⟨.inr (.inr (.inr (.inr (.inr (.inl ⟨rfl, l, rfl, l1⟩))))), rfl⟩
    cases src with
    | none =>
      refine ⟨"raise", [("kind", .str k, 0), ("label", .str l, 0)], rfl, .inr (.inr (.inr (.inl ⟨rfl, rfl, rfl⟩))), fun t ht => ?_, rfl⟩
      rcases List.mem_cons.mp ht with rfl | ht
      · exact i1
      · obtain rfl := List.mem_singleton.mp ht
        exact i2
    | some o =>
      refine ⟨"raise", [("kind", .str k, 0), ("label", .str l, 0), ("source", oV o, 0)], rfl, .inr (.inr (.inl ⟨rfl, rfl, rfl⟩)), fun t ht => ?_, rfl⟩
      rcases List.mem_cons.mp ht with rfl | ht
      · exact i1
      · rcases List.mem_cons.mp ht with rfl | ht
        · exact i2
        · obtain rfl := List.mem_singleton.mp ht
          exact .inl ⟨.inr (.inr (.inr (.inl ⟨rfl, o, rfl, fun n e => (so n (by rw [e])).1⟩))), rfl⟩
  | throw n src =>
    obtain ⟨n1, _, so⟩ := ok
    have i1 : ItG H d "name" (.str n) 0 := .inl ⟨.inr (.inl ⟨rfl, n, rfl, n1⟩), rfl⟩
    cases src with
    | none =>
      refine ⟨"throw", [("name", .str n, 0)], rfl, .inr (.inr (.inr (.inr (.inr (.inl ⟨rfl, rfl, rfl⟩))))), fun t ht => ?_, rfl⟩
      obtain rfl := List.mem_singleton.mp ht
      exact i1
    | some o =>
      refine ⟨"throw", [("name", .str n, 0), ("source", oV o, 0)], rfl, .inr (.inr (.inr (.inr (.inl ⟨rfl, rfl, rfl⟩)))), fun t ht => ?_, rfl⟩
      rcases List.mem_cons.mp ht with rfl | ht
      · exact i1
      · obtain rfl := List.mem_singleton.mp ht
        exact .inl ⟨.inr (.inr (.inr (.inl ⟨rfl, o, rfl, fun n e => (so n (by rw [e])).1⟩))), rfl⟩
section
variable {w : World} {K : Frg} {mg : Str → Option Value} {base : Heap}
def sp_ws (K : Frg) (e : Nat) : Sp := fun vs H Q _ => ∃ (H0 : Hp) (x dx kn pa sc st : Addr) (ps : List V) (z : Str) (its : List It3) (d n : Nat), vs = [.ref x, .ref st, .ref pa, .ref sc] ∧ Ck K H0 H x dx kn pa sc ps d e n ∧ ps.length + 10 * e + 8 ≤ 1000 ∧ d + e = 8 ∧ H st = some (.tup (.str z :: its.map (fun t => t.2.1))) ∧ PtOk z its.length (its.map fun t => t.1) ∧ (∀ t ∈ its, ItG H d t.1 t.2.1 t.2.2) ∧
  ∀ H', Own H0 H' [(x, .ins (a_S2Check K) dx (scFs kn ((n + (1 + itSum its) : Nat) : Int)))] → Q .non H'
theorem itSum_take (its : List It3) (i : Nat) (t : It3) (h : its[i]? = some t) : itSum (its.take (i + 1)) = itSum (its.take i) + t.2.2 := by
  unfold itSum
  rw [List.take_add_one, h, List.map_append, List.sum_append]
  simp
theorem ok_ws (T : Tx w K mg) {k e : Nat} (hk : 1 ≤ k) (F_s2_parts : FOk PW w K mg base 1 (f_s2_parts K) ["statement"] [] (sp_parts K)) (F_S2Check_s2_wrong_item : FOk PW w K mg base k (f_S2Check_s2_wrong_item K) ["self", "sort", "value", "path", "scene"] [] (sp_wi K e true)) : FOk PW w K mg base (k + 1) (f_S2Check_s2_wrong_statement K) ["self", "statement", "path", "scene"] [] (sp_ws K e) := by
  obtain ⟨fd, F⟩ := T.d_S2Check_s2_wrong_statement
  refine ⟨⟨fd, [], F.ok sc_S2Check_s2_wrong_statement (fun vs H Q E h => ?_) (fun cdv A outer s H vs Q E hr h => ?_), F.bindsN fun _ _ _ _ _ _ us hl => match us, hl with | [_, _, _, _], _ => rfl, .nil⟩, F.kp⟩
  · obtain ⟨H0, x, dx, kn, pa, sc, st, ps, z, its, d, n, rfl, _⟩ := h
    rfl
  · obtain ⟨H0, x, dx, kn, pa, sc, st, ps, z, its, d, n, rfl, c, cl, hde, hst, pt, hit, k0⟩ := h
    refine ⟨_, (PSs.nox (pss_cons (ps_asg (pv 3) (pg_tup rfl (pgs_cons (pg_name (i := 4) sc_S2Check_s2_wrong_statement.nd rfl (Or.inl rfl)) (pgs_cons (pg_name (i := 5) sc_S2Check_s2_wrong_statement.nd rfl (Or.inl rfl)) (pgs_cons (pg_name (i := 6) sc_S2Check_s2_wrong_statement.nd rfl (Or.inl rfl)) pgs_nil))))) (pss_cons (ps_set (i := 7) sc_S2Check_s2_wrong_statement.nd rfl (Or.inl rfl) (pk_call F_s2_parts hr rfl T.g_s2_parts (pa_cons (pv 1) pa_nil))) (pss_cons (ps_if (PW.pt (pw_or (pt_cmpR op_isN (pv 7) pe_non (nomark _)) (pw_or (pt_cmpR op_gt (pv 4) (pe_gint rfl T.i_MOST_DEPTH) (nomark _)) (pw_or1 (PW.pt (pw_and (pt_cmpR op_in_seq (pe_ix ix_tup (pv 1) pe_int (fun _ _ => rfl)) (pe_tup (pa_cons pe_str (pa_cons pe_str pa_nil))) rfl) (pw_and1 (pt_not (pt_val (pv 5)))))))))) (pss_one (ps_ret (pv 2))) pss_nil) (pss_cons (ps_if (PW.pt (pw_and (pt_cmpR op_eq (pe_ix ix_tup (pv 1) pe_int (fun _ _ => rfl)) pe_str (nomark _)) (pw_and1 (pt_not (pt_val (pv 6)))))) (pss_one (ps_ret (pv 2))) pss_nil) (pss_cons (ps_fldaug (pv 0) pe_int in_add) (pss_cons (ps_for PassesOwn.never rfl (pi_enumT rfl T.z_enumerate (pa_cons (pv 7) pa_nil)) (pg_tup rfl (pgs_cons (pg_name (i := 8) sc_S2Check_s2_wrong_statement.nd rfl (Or.inl rfl)) (pgs_cons (pg_name (i := 9) sc_S2Check_s2_wrong_statement.nd rfl (Or.inl rfl)) pgs_nil))) (pss_cons (ps_set (i := 10) sc_S2Check_s2_wrong_statement.nd rfl (Or.inl rfl) (pk_meth (pv 0) T.c_S2Check T.m_S2Check_s2_wrong_item F_S2Check_s2_wrong_item hr (pa_cons (pv 9) (pa_cons (pe_ix ix_tup (pv 1) (pe_op op_add (pv 8) pe_int) (fun _ _ => rfl)) (pa_cons (pe_op op_catA (pv 2) (pe_tup (pa_cons (pe_op op_add (pv 8) pe_int) pa_nil))) (pa_cons (pv 3) pa_nil)))))) (pss_one (ps_if (pt_cmpR op_notN (pv 10) pe_non (nomark _)) (pss_one (ps_ret (pv 10))) pss_nil)))) (pss_one (ps_ret pe_non))))))))), ?_⟩
    refine q_asgN (ev_var rfl) c.scn rfl fun H1 e1 => g_cons (g_cons (g_cons (g_nil ?_)))
    refine q_asgX (x_call (ea_cons (ev_var rfl) ea_nil) fun H2 e2 => ⟨st, z, its.map (fun t => t.2.1), its.map (fun t => t.1), rfl, (e1.trans e2) _ _ hst, by rw [List.length_map]; exact pt, fun q H3 e3 hq _ => ?_⟩)
    have g3 := (e1.trans e2).trans e3
    have c3 := c.grow g3
    have hst3 := g3 _ _ hst
    have zf : inV (.str z) [.str "leave", .str "next"] = false ∧ decide (V.str z = V.str "yield") = false := by
      rcases pt with ⟨rfl, _⟩ | ⟨rfl, _⟩ | ⟨rfl, _⟩ | ⟨rfl, _⟩ | ⟨rfl, _⟩ | ⟨rfl, _⟩ | ⟨rfl, _⟩ <;> exact ⟨by decide +kernel, by decide +kernel⟩
    refine q_when (b := false) (et_is (et_or (a := false) (et_test (ev_op (ev_var rfl) ev_c rv_isN)) fun _ => et_or (a := false) (et_is (et_test (ev_op (ev_var rfl) ev_c rv_I0)) (decide_eq_false (by omega))) fun _ => et_and (a := false) (b := false) (et_is (et_test (ev_inU (ev_op (ev_var rfl) ev_c (rv_ixT (st_of hst3) (atI_nat (j := 0) rfl))) (eu_tup (ea_cons ev_c (ea_cons ev_c ea_nil)) (show 2 ≤ 100000 by decide)) rfl rfl)) zf.1) fun q => Bool.noConfusion q) rfl) (fun q => Bool.noConfusion q) fun _ H4 e4 => ?_
    refine q_when (b := false) (et_and (a := false) (b := false) (et_is (et_test (ev_op (ev_op (ev_var rfl) ev_c (rv_ixT (st_of (e4 _ _ hst3)) (atI_nat (j := 0) rfl))) ev_c (rv_eq rfl))) zf.2) fun q => Bool.noConfusion q) (fun q => Bool.noConfusion q) fun _ H5 e5 => ?_
    have c5 := (c3.grow e4).grow e5
    refine q_fldadd ev_c (ev_var rfl) (c5.own.get 0 rfl) T.c_S2Check T.n_S2Check_s2_count rfl (show 2 < 1000 by decide) fun H6 e6 => ?_
    have o6 : Own H0 (upd H6 x (.ins (a_S2Check K) dx (scFs kn ((n + 1 : Nat) : Int)))) [(x, .ins (a_S2Check K) dx (scFs kn ((n + 1 : Nat) : Int)))] := (c5.own.grow e6).set0
    have t6 : TP H3 (upd H6 x (.ins (a_S2Check K) dx (scFs kn ((n + 1 : Nat) : Int)))) := (ex_tp ((e4.trans e5).trans e6)).trans (TP.upd ((c5.own.grow e6).get 0 rfl) fun xs z => by cases z)
    refine q_forEn (a := q) (xs := (List.map (fun t : It3 => t.1) its).map V.str) (ea_cons (ev_var rfl) ea_nil) (hq _ t6) (fun i σ' H' => ∃ o1 o2 o3, σ' = [some (.ref x), some (.ref st), some (.ref pa), some (.ref sc), some (.int d), some (.bl false), some (.bl false), some (.ref q), o1, o2, o3] ∧ TP H3 H' ∧ Own H0 H' [(x, .ins (a_S2Check K) dx (scFs kn ((n + 1 + itSum (its.take i) : Nat) : Int)))])
      (fun H7 e7 => ⟨_, _, _, rfl, t6.trans (ex_tp e7), o6.grow e7⟩) (fun i σ' H' _ ⟨_, _, _, _, t, _⟩ => hq _ t) (fun i y σ' H' H7 hy ⟨o1, o2, o3, eσ, t, o⟩ e7 => ?_) fun σ' H' ⟨_, _, _, _, _, o⟩ => s_ret ev_c fun H7 e7 => k0 H7 (by
        have o7 := o.grow e7
        rw [List.length_map, List.length_map, List.take_length, Nat.add_assoc] at o7
        exact o7)
    obtain ⟨⟨srt, v, m⟩, ht, rfl⟩ : ∃ t : It3, its[i]? = some t ∧ y = .str t.1 := by
      rw [List.getElem?_map, List.getElem?_map] at hy
      cases q : its[i]? with
      | none => rw [q] at hy; cases hy
      | some t => rw [q] at hy; exact ⟨t, rfl, (Option.some.inj hy).symm⟩
    subst eσ
    have c7 := (c3.then o t).grow e7
    have t7 := t.trans (ex_tp e7)
    have hst7 := t7 _ _ hst3
    have hv : (V.str z :: its.map (fun t => t.2.1))[i + 1]? = some v := by
      rw [List.getElem?_cons_succ, List.getElem?_map, ht]
      rfl
    refine q_asgXT (x_methT (ev_var rfl) (c7.own.get 0 rfl) rfl fun H8 e8 => ?_)
    refine ax_cons (ev_var rfl) fun H9 e9 => ax_cons (v := v) (ev_op (ev_var rfl) (ev_op (ev_var rfl) ev_c rv_I0) (rv_ixT (st_of ((e8.trans e9) _ _ hst7)) (atI_nat (j := i + 1) hv))) fun H10 e10 => ax_W (ew_cat (v := .int (i + 1)) (ev_var rfl) (((e8.trans e9).trans e10) _ _ c7.pth) (eu_tup (ea_cons (ev_op (ev_var rfl) ev_c rv_I0) ea_nil) (show 1 ≤ 100000 by decide)) (by have := c.len; omega)) fun pa2 H11 e11 h11 => ax_cons (ev_var rfl) fun H12 e12 => ax_nil ?_
    have g : Ex H7 H12 := (((e8.trans e9).trans e10).trans e11).trans e12
    have c12 := c7.grow g
    refine ⟨H0, x, dx, kn, pa2, sc, srt, v, _, d, _, m, rfl, ⟨c12.own, c12.knw, e12 _ _ h11, c12.scn, by rw [List.length_append, List.length_singleton]; omega⟩, hde, (hit _ (List.mem_of_getElem? ht)).tp (((ex_tp g3).trans t7).trans (ex_tp g)), fun q => Bool.noConfusion q, fun _ => by rw [List.length_append, List.length_singleton]; omega, fun H13 o13 t13 => ?_⟩
    refine s_when (b := false) (et_test (ev_op (ev_var rfl) ev_c rv_notN)) (fun q => Bool.noConfusion q) fun _ H14 e14 => ⟨_, _, _, rfl, ?_, ?_⟩
    · exact ((t.trans (ex_tp (e7.trans g))).trans t13).trans (ex_tp e14)
    · have o14 := o13.grow e14
      rw [Nat.add_assoc, ← itSum_take its i _ ht] at o14
      exact o14
theorem ok_ws_no (T : Tx w K mg) : FOk PW w K mg base 1 (f_S2Check_s2_wrong_statement K) ["self", "statement", "path", "scene"] [] (fun _ _ _ _ => False) := by
  obtain ⟨fd, F⟩ := T.d_S2Check_s2_wrong_statement
  refine ⟨⟨fd, [], F.ok sc_S2Check_s2_wrong_statement (fun vs H Q E h => ?_) (fun cdv A outer s H vs Q E hr h => ?_), F.bindsN fun _ _ _ _ _ _ us hl => match us, hl with | [_, _, _, _], _ => rfl, .nil⟩, F.kp⟩
  · exact h.elim
  · exact h.elim
end
end L2.EX
namespace L2.EX
open PySem PySem.Spec PyProof.Rows Evl
/-! The check of a body, its stages; the check of a program; a run. -/
theorem triIts {H : Hp} {p b q hs h1 h2 e1 e2 : Addr} {x : Sim} {nm : Option Str} {h : Bdy} {ws : List V} {d : Nat} (hb : H b = some (.tup [.ref q])) (hq : H q = some (.tup (simV x))) (ok : x.Ok) (hh : H hs = some (.tup [.ref h1])) (hh1 : H h1 = some (.tup [.non, oV nm, .ref h2])) (hhb : H h2 = some (.tup ws)) (th : BdyT H ws h)
    (he1 : H e1 = some (.tup [])) (he2 : H e2 = some (.tup [])) (hd : d + 1 ≤ 8) (hnm : nmOk nm) (hl : h.len ≤ 12) (hc : h.ck (d + 1)) :
    ∃ its : List It3, ([.str "try", .ref b, .ref hs, .ref e1, .ref e2] : List V) = .str "try" :: its.map (fun t => t.2.1) ∧ PtOk "try" its.length (its.map fun t => t.1) ∧ (∀ t ∈ its, ItG H d t.1 t.2.1 t.2.2) ∧ itSum its = 1 + h.size := by
  refine ⟨[("body", .ref b, 1), ("handlers", .ref hs, h.size), ("body", .ref e1, 0), ("body", .ref e2, 0)], rfl, .inr (.inr (.inr (.inr (.inr (.inr ⟨rfl, rfl, rfl⟩))))), fun t ht => ?_, by show 1 + (h.size + (0 + (0 + 0))) = _; omega⟩
  rcases List.mem_cons.mp ht with rfl | ht
  · exact .inr (.inl ⟨rfl, b, [.ref q], .sim x .nil, rfl, hb, .sim hq ok .nil, (show 1 ≤ 12 by decide), ⟨hd, trivial⟩, rfl⟩)
  · rcases List.mem_cons.mp ht with rfl | ht
    · exact .inr (.inr ⟨rfl, hs, h1, nm, h2, ws, h, rfl, hh, hh1, hhb, th, by rw [th.len]; exact hl, hc, hnm, rfl⟩)
    · rcases List.mem_cons.mp ht with rfl | ht
      · exact .inr (.inl ⟨rfl, e1, [], .nil, rfl, he1, .nil, Nat.zero_le _, trivial, rfl⟩)
      · obtain rfl := List.mem_singleton.mp ht
        exact .inr (.inl ⟨rfl, e2, [], .nil, rfl, he2, .nil, Nat.zero_le _, trivial, rfl⟩)
/-- the first statement of what is left -/
theorem bdy_head {H : Hp} {y : V} {vs : List V} {r : Bdy} {d : Nat} (h : BdyT H (y :: vs) r) (c : r.ck d) : ∃ (st : Addr) (z : Str) (its : List It3) (r' : Bdy), y = .ref st ∧ H st = some (.tup (.str z :: its.map (fun t => t.2.1))) ∧ PtOk z its.length (its.map fun t => t.1) ∧ (∀ t ∈ its, ItG H d t.1 t.2.1 t.2.2) ∧ BdyT H vs r' ∧ r'.ck d ∧ d ≤ 8 ∧ r.size = (1 + itSum its) + r'.size := by
  cases h with
  | sim hp ok bt =>
    rename_i p x r'
    obtain ⟨z, its, e1, e2, e3, e4⟩ := simIts x ok H d
    exact ⟨p, z, its, r', rfl, by rw [← e1]; exact hp, e2, e3, bt, c.2, c.1, by rw [e4]; show r'.size + 1 = _; omega⟩
  | tri hp hb hq ok hh hh1 hhb hw th he1 he2 bt =>
    rename_i p b q hs h1 h2 e1 e2 x nm h r' ws
    obtain ⟨c1, c2, c3, c4, c5⟩ := c
    obtain ⟨its, i1, i2, i3, i4⟩ := triIts (d := d) (p := p) hb hq ok hh hh1 hhb th he1 he2 c1 c2 c3 c4
    exact ⟨p, "try", its, r', rfl, by rw [← i1]; exact hp, i2, i3, bt, c5, by omega, by rw [i4]; show h.size + r'.size + 2 = _; omega⟩
section
variable {w : World} {K : Frg} {mg : Str → Option Value} {base : Heap}
theorem ok_wb (T : Tx w K mg) {k e : Nat} {sps : Sp} (hs : e = 0 ∨ ∃ e', e = e' + 1 ∧ sps = sp_ws K e') (F_S2Check_s2_wrong_statement : FOk PW w K mg base k (f_S2Check_s2_wrong_statement K) ["self", "statement", "path", "scene"] [] sps) : FOk PW w K mg base (k + 1) (f_S2Check_s2_wrong_body K) ["self", "body", "path", "scene"] [] (sp_wb K e) := by
  obtain ⟨fd, F⟩ := T.d_S2Check_s2_wrong_body
  refine ⟨⟨fd, [], F.ok sc_S2Check_s2_wrong_body (fun vs H Q E h => ?_) (fun cdv A outer s H vs Q E hr h => ?_), F.bindsN fun _ _ _ _ _ _ us hl => match us, hl with | [_, _, _, _], _ => rfl, .nil⟩, F.kp⟩
  · obtain ⟨H0, x, dx, kn, pa, sc, p, ps, us, b, d, n, rfl, _⟩ := h
    rfl
  · obtain ⟨H0, x, dx, kn, pa, sc, p, ps, us, b, d, n, rfl, c, hde, hp, bt, hl, ck, k0⟩ := h
    refine ⟨_, (PSs.nox (pss_cons (ps_if (PW.pt (pw_or (pt_not (pt_val (pe_callB call_isi rfl T.z_isinstance boot_isinstance (pa_cons (pv 1) (pa_cons (pe_gty rfl T.z_tuple boot_tuple) pa_nil))))) (pw_or1 (pt_cmpR op_gt (pe_callB call_len rfl T.z_len boot_len (pa_cons (pv 1) pa_nil)) (pe_gint rfl T.i_MOST_ITEMS) (nomark _))))) (pss_one (ps_ret (pv 2))) pss_nil) (pss_cons (ps_for PassesOwn.never rfl (pi_enumT rfl T.z_enumerate (pa_cons (pv 1) pa_nil)) (pg_tup rfl (pgs_cons (pg_name (i := 4) sc_S2Check_s2_wrong_body.nd rfl (Or.inl rfl)) (pgs_cons (pg_name (i := 5) sc_S2Check_s2_wrong_body.nd rfl (Or.inl rfl)) pgs_nil))) (pss_cons (ps_set (i := 6) sc_S2Check_s2_wrong_body.nd rfl (Or.inl rfl) (pk_meth (pv 0) T.c_S2Check T.m_S2Check_s2_wrong_statement F_S2Check_s2_wrong_statement hr (pa_cons (pv 5) (pa_cons (pe_op op_catA (pv 2) (pe_tup (pa_cons (pv 4) pa_nil))) (pa_cons (pv 3) pa_nil))))) (pss_one (ps_if (pt_cmpR op_notN (pv 6) pe_non (nomark _)) (pss_one (ps_ret (pv 6))) pss_nil)))) (pss_one (ps_ret pe_non))))), ?_⟩
    refine q_when (b := false) (et_is (et_or (a := false) (et_not (a := true) (et_B (isi_tup "tuple" true (ev_var rfl) hp))) fun _ => et_is (et_test (ev_op (ev_cb (ea_cons (ev_var rfl) ea_nil) (rc_len fun H5 e5 => .inr ⟨_, st_of (e5 _ _ hp), rfl⟩)) ev_c rv_I0)) (decide_eq_false (by omega))) rfl) (fun q => Bool.noConfusion q) fun _ H1 e1 => ?_
    have c1 := c.grow e1
    have hp1 := e1 _ _ hp
    have bt1 := bt.tp (ex_tp e1)
    refine q_forEn (a := p) (xs := us) (ea_cons (ev_var rfl) ea_nil) (st_of hp1) (fun i σ' H' => ∃ o1 o2 o3 r m, σ' = [some (.ref x), some (.ref p), some (.ref pa), some (.ref sc), o1, o2, o3] ∧ TP H1 H' ∧ BdyT H' (us.drop i) r ∧ r.ck d ∧ m + r.size = n + b.size ∧ Own H0 H' [(x, .ins (a_S2Check K) dx (scFs kn ((m : Nat) : Int)))])
      (fun H2 e2 => ⟨_, _, _, b, n, rfl, ex_tp e2, by rw [List.drop_zero]; exact bt1.tp (ex_tp e2), ck, rfl, c1.own.grow e2⟩) (fun i σ' H' _ ⟨_, _, _, _, _, _, t, _⟩ => st_of (t _ _ hp1)) (fun i y σ' H' H2 hy ⟨o1, o2, o3, r, m, eσ, t, br, cr, hm, o⟩ e2 => ?_) fun σ' H' ⟨_, _, _, r, m, _, _, br, _, hm, o⟩ => s_ret ev_c fun H2 e2 => k0 H2 (by
        rw [List.drop_length] at br
        cases br
        have o2 := o.grow e2
        rw [show m = n + b.size from hm] at o2
        exact o2)
    subst eσ
    have hlt := (List.getElem?_eq_some_iff.mp hy).1
    have hdr := List.drop_eq_getElem_cons hlt
    rw [(List.getElem?_eq_some_iff.mp hy).2] at hdr
    rw [hdr] at br
    have c2 := (c1.then o t).grow e2
    have t2 := t.trans (ex_tp e2)
    obtain ⟨st, z, its, r', rfl, hst, pt, hit, br', cr', hd8, hsz⟩ := bdy_head (br.tp (ex_tp e2)) cr
    rcases hs with rfl | ⟨e', rfl, rfl⟩
    · omega
    refine q_asgXT (x_methT (ev_var rfl) (c2.own.get 0 rfl) rfl fun H3 e3 => ?_)
    refine ax_cons (ev_var rfl) fun H4 e4 => ax_W (ew_cat (v := .int i) (ev_var rfl) ((e3.trans e4) _ _ c2.pth) (eu_tup (ea_cons (ev_var rfl) ea_nil) (show 1 ≤ 100000 by decide)) (by have := c.len; omega)) fun pa2 H5 e5 h5 => ax_cons (ev_var rfl) fun H6 e6 => ax_nil ?_
    have g : Ex H2 H6 := ((e3.trans e4).trans e5).trans e6
    have c6 := c2.grow g
    have cl := c.len
    refine ⟨H0, x, dx, kn, pa2, sc, st, _, z, its, d, m, rfl, ⟨c6.own, c6.knw, e6 _ _ h5, c6.scn, by rw [List.length_append, List.length_singleton]; omega⟩, by rw [List.length_append, List.length_singleton]; omega, by omega, g _ _ hst, pt, fun t ht => (hit t ht).tp (ex_tp g), fun H7 o7 t7 => ?_⟩
    · refine s_when (b := false) (et_test (ev_op (ev_var rfl) ev_c rv_notN)) (fun q => Bool.noConfusion q) fun _ H8 e8 => ⟨_, _, _, r', _, rfl, ?_, ?_, cr', ?_, o7.grow e8⟩
      · exact ((t2.trans (ex_tp g)).trans t7).trans (ex_tp e8)
      · exact (br'.tp (((ex_tp g)).trans t7)).tp (ex_tp e8)
      · omega
/-- all stages -/
theorem ok_wb_all (T : Tx w K mg) (F_s2_parts : FOk PW w K mg base 1 (f_s2_parts K) ["statement"] [] (sp_parts K)) (F_S2Check_s2_item_fits : FOk PW w K mg base 4 (f_S2Check_s2_item_fits K) ["self", "sort", "value"] [] (sp_ifits K)) : ∀ e, FOk PW w K mg base (10 + 5 * e) (f_S2Check_s2_wrong_body K) ["self", "body", "path", "scene"] [] (sp_wb K e)
  | 0 => (ok_wb T (.inl rfl) (ok_ws_no T)).mono (by decide)
  | e + 1 => by
    have B := ok_wb_all T F_s2_parts F_S2Check_s2_item_fits e
    have I := ok_item T (k := 10 + 5 * e) (hd := false) (by omega) (fun q => Bool.noConfusion q) F_S2Check_s2_item_fits B ((ok_wh_no T).mono (by omega))
    have Hd := ok_wh T I
    have I2 := ok_item T (k := 10 + 5 * e + 2) (hd := true) (by omega) (fun _ => rfl) F_S2Check_s2_item_fits (B.mono (by omega)) (Hd.mono (by omega))
    have S := ok_ws T (k := 10 + 5 * e + 3) (by omega) F_s2_parts I2
    exact (ok_wb T (.inr ⟨e, rfl, rfl⟩) S).mono (by omega)
/-- a program: no wrong place -/
def sp_wp (K : Frg) : Sp := fun vs H Q _ => ∃ (p kn : Addr) (us : List V) (b : Bdy), vs = [.ref p, .ref kn] ∧ H p = some (.tup us) ∧ BdyT H us b ∧ us.length ≤ 12 ∧ b.ck 1 ∧ b.size ≤ 200 ∧ H kn = some (.tup knV) ∧ ∀ H', (∀ a o, H a = some o → H' a = some o) → Q .non H'
theorem ok_s2_wrong_place (T : Tx w K mg) (F_S2Check_init : FOk PW w K mg base 1 (f_S2Check_init K) ["self", "known"] [] (sp_ini (a_S2Check K) R_S2Check)) (F_S2Check_s2_wrong_body : FOk PW w K mg base 50 (f_S2Check_s2_wrong_body K) ["self", "body", "path", "scene"] [] (sp_wb K 8)) : FOk PW w K mg base 51 (f_s2_wrong_place K) ["program", "known"] [] (sp_wp K) := by
  obtain ⟨fd, F⟩ := T.d_s2_wrong_place
  refine ⟨⟨fd, [], F.ok sc_s2_wrong_place (fun vs H Q E h => ?_) (fun cdv A outer s H vs Q E hr h => ?_), F.bindsN fun _ _ _ _ _ _ us hl => match us, hl with | [_, _], _ => rfl, .nil⟩, F.kp⟩
  · obtain ⟨p, kn, us, b, rfl, _⟩ := h
    rfl
  · obtain ⟨p, kn, us, b, rfl, hp, bt, hl, ck, hsz, hkn, k⟩ := h
    refine ⟨_, (PSs.nox (pss_cons (ps_set (i := 2) sc_s2_wrong_place.nd rfl (Or.inl rfl) (pk_make T.k_S2Check F_S2Check_init hr rfl T.g_S2Check (pa_cons (pv 1) pa_nil))) (pss_cons (ps_set (i := 3) sc_s2_wrong_place.nd rfl (Or.inl rfl) (pk_meth (pv 2) T.c_S2Check T.m_S2Check_s2_wrong_body F_S2Check_s2_wrong_body hr (pa_cons (pv 0) (pa_cons (pe_tup pa_nil) (pa_cons (pe_tup (pa_cons pe_int (pa_cons pe_bl (pa_cons pe_bl pa_nil)))) pa_nil))))) (pss_cons (ps_if (PW.pt (pw_and (pt_cmpR op_isN (pv 3) pe_non (nomark _)) (pw_and1 (pt_cmpR op_gt (pe_fld (pv 2) rfl) (pe_gint rfl T.i_MOST_STATEMENTS) (nomark _))))) (pss_one (ps_ret (pe_tup pa_nil))) pss_nil) (pss_one (ps_ret (pv 3))))))), ?_⟩
    refine q_asgX (mk_own (fs := scFs kn 0) (Own.refl (H := H)) (ea_cons (ev_var rfl) ea_nil) (fun H2 x dx Q' w2 _ k' => ini_at ⟨kn, rfl, rfl⟩ w2 k') _ fun x dx H1 hx w1 t1 _ => ?_)
    refine q_asgX (x_methT (ev_var rfl) (w1.get 0 rfl) rfl fun H2 e2 => ?_)
    refine ax_cons (ev_var rfl) fun H3 e3 => ax_W (ew_u (eu_tup ea_nil (Nat.zero_le _))) fun pa H4 e4 h4 => ax_W (ew_u (eu_tup (ea_cons ev_c (ea_cons ev_c (ea_cons ev_c ea_nil))) (show 3 ≤ 100000 by decide))) fun sc H5 e5 h5 => ax_nil ?_
    have g : Ex H1 H5 := ((e2.trans e3).trans e4).trans e5
    have t5 := t1.trans (ex_tp g)
    refine ⟨H, x, dx, kn, pa, sc, p, [], us, b, 1, 0, rfl, ⟨w1.grow g, t5 _ _ hkn, e5 _ _ h4, h5, by decide⟩, rfl, t5 _ _ hp, bt.tp t5, hl, ck, fun H6 o6 t6 => ?_⟩
    refine q_when (b := false) (et_is (et_and (a := true) (et_test (ev_op (ev_var rfl) ev_c rv_isN)) fun _ => et_is (et_test (ev_op (ev_fld (ev_var rfl) (o6.get 0 rfl) T.c_S2Check T.n_S2Check_s2_count rfl) ev_c rv_I0)) (decide_eq_false (by omega))) rfl) (fun q => Bool.noConfusion q) fun _ H7 e7 => ?_
    exact s_ret (ev_var rfl) fun H8 e8 => k H8 fun a o ha => (e7.trans e8) _ _ (o6.same a o ha)
def sp_kk (K : Frg) : Sp := fun vs H Q _ => ∃ (a dx PD : Addr) (kvs : List (Key × V)), vs = [.ref a] ∧ H a = some (.ins (a_KindTree K) dx [("s1_parents", .ref PD)]) ∧ H PD = some (.dK kvs) ∧ ∀ p H', Ex H H' → H' p = some (.tup (kvs.map fun kv => kV kv.1)) → Q (.ref p) H'
theorem ok_known_kinds (T : Tx w K mg) (F_KindTree_kinds : FOk PW w K mg base 1 (f_KindTree_kinds K) ["self"] [] (sp_kinds K)) : FOk PW w K mg base 3 (f_known_kinds K) ["tree"] [] (sp_kk K) := by
  obtain ⟨fd, F⟩ := T.d_known_kinds
  refine ⟨⟨fd, [], F.ok sc_known_kinds (fun vs H Q E h => ?_) (fun cdv A outer s H vs Q E hr h => ?_), F.bindsN fun _ _ _ _ _ _ us hl => match us, hl with | [_], _ => rfl, .nil⟩, F.kp⟩
  · obtain ⟨a, dx, PD, kvs, rfl, _⟩ := h
    rfl
  · obtain ⟨a, dx, PD, kvs, rfl, h1, h2, k⟩ := h
    refine ⟨_, (PSs.nox (pss_cons (ps_if (pt_cmpR op_isN (pv 0) pe_non (nomark _)) (pss_one ps_never) pss_nil) (pss_cons (ps_if (pt_not (pt_val (pe_callB call_isi rfl T.z_isinstance boot_isinstance (pa_cons (pv 0) (pa_cons (pe_gref rfl T.g_KindTree) pa_nil))))) pss_never pss_nil) (pss_one (ps_ret (pk_prop (pv 0) T.c_KindTree T.p_KindTree_kinds F_KindTree_kinds hr)))))), ?_⟩
    refine q_when (b := false) (et_test (ev_op (ev_var rfl) ev_c rv_isN)) (fun q => Bool.noConfusion q) fun _ H1 e1 => ?_
    refine q_when (b := false) (et_not (a := true) (et_B (ev_isi (b := true) (ev_var rfl) ev_c (.own _) (fun H2 e2 => T.y_KindTree.ty (e2 _ _ (e1 _ _ h1))) T.o_KindTree))) (fun q => Bool.noConfusion q) fun _ H2 e2 => ?_
    have g := e1.trans e2
    exact s_retX (ev_var (v := .ref a) rfl H2 (Ex.refl H2) _ fun H3 e3 => ⟨a, dx, _, rfl, (g.trans e3) _ _ h1, a, dx, PD, kvs, rfl, (g.trans e3) _ _ h1, (g.trans e3) _ _ h2, fun p H4 e4 h4 _ => k p H4 ((g.trans e3).trans e4) h4⟩)
/-- a program passes -/
def sp_chk (K : Frg) : Sp := fun vs H Q _ => ∃ (p a dx PD : Addr) (us : List V) (b : Bdy), vs = [.ref p, .ref a] ∧ H p = some (.tup us) ∧ BdyT H us b ∧ us.length ≤ 12 ∧ b.ck 1 ∧ b.size ≤ 200 ∧ H a = some (.ins (a_KindTree K) dx [("s1_parents", .ref PD)]) ∧ H PD = some (.dK kindsK) ∧ ∀ H', (∀ a o, H a = some o → H' a = some o) → Q .non H'
theorem ok_check_program (T : Tx w K mg) (F_s2_wrong_place : FOk PW w K mg base 51 (f_s2_wrong_place K) ["program", "known"] [] (sp_wp K)) (F_known_kinds : FOk PW w K mg base 3 (f_known_kinds K) ["tree"] [] (sp_kk K)) : FOk PW w K mg base 52 (f_check_program K) ["program", "tree"] [] (sp_chk K) := by
  obtain ⟨fd, F⟩ := T.d_check_program
  obtain ⟨ds, hd, hb⟩ := FunD.binds1 (ps := ["program", "tree"]) F 2 1 (show ([V.non] : List V) ≠ [] from List.cons_ne_nil _ _) rfl (fun T kV doc pm an cdv ct us its hl hi => by
    match us, hl, its, hi with
    | [u1, u2], _, [i1], _ => exact ⟨_, rfl, rfl⟩)
  refine ⟨⟨fd, ds, F.ok sc_check_program (fun vs H Q E h => ?_) (fun cdv A outer s H vs Q E hr h => ?_), hb, hd⟩, F.kp⟩
  · obtain ⟨p, a, dx, PD, us, b, rfl, _⟩ := h
    rfl
  · obtain ⟨p, a, dx, PD, us, b, rfl, hp, bt, hl, ck, hsz, h1, h2, k⟩ := h
    refine ⟨_, (PSs.nox (pss_cons (ps_set (i := 2) sc_check_program.nd rfl (Or.inl rfl) (pk_call F_s2_wrong_place hr rfl T.g_s2_wrong_place (pa_cons (pv 0) (pa_cons (pk_call F_known_kinds hr rfl T.g_known_kinds (pa_cons (pv 1) pa_nil)) pa_nil)))) (pss_one (ps_if (pt_cmpR op_notN (pv 2) pe_non (nomark _)) pss_never pss_nil)))), ?_⟩
    refine q_asgX ?_
    refine ax_cons (ev_var rfl) fun H1 e1 => ?_
    refine l_cons (x_call (ea_cons (ev_var rfl) ea_nil) fun H2 e2 => ⟨a, dx, PD, kindsK, rfl, (e1.trans e2) _ _ h1, (e1.trans e2) _ _ h2, fun kn H3 e3 hkn _ => ?_⟩)
    have g := (e1.trans e2).trans e3
    refine ⟨p, kn, us, b, rfl, g _ _ hp, bt.tp (ex_tp g), hl, ck, hsz, hkn, fun H4 s4 _ => ?_⟩
    exact s_when (b := false) (et_test (ev_op (ev_var rfl) ev_c rv_notN)) (fun q => Bool.noConfusion q) fun _ H5 e5 => k H5 fun a o ha => e5 _ _ (s4 _ _ (g _ _ ha))
end
end L2.EX
namespace L2.EX
open PySem PySem.Spec PyProof.Rows Evl
/-! A run of the runner. -/
theorem Own.up {H0 H H' : Hp} {l : List (Addr × HO)} (w : Own H0 H l) (k : ∀ a o, H a = some o → H' a = some o) : Own H0 H' l := ⟨fun b o h => k _ _ (w.same b o h), w.out, w.nd, fun p hp => k _ _ (w.at_ p hp)⟩
section
variable {w : World} {K : Frg} {mg : Str → Option Value} {base : Heap}
def sp_s6 (K : Frg) : Sp := fun vs H Q _ => ∃ (a : RA) (p : Addr) (us : List V) (b : Bdy), vs = [.ref a.R, .ref p] ∧ H a.R = some (.ins (a_Runner K) a.dR (rFs a.T a.B a.L a.F 0 a.A)) ∧ H a.T = some (.ins (a_KindTree K) a.dT [("s1_parents", .ref a.PD)]) ∧ H a.PD = some (.dK kindsK) ∧ H p = some (.tup us) ∧ BdyT H us b ∧ us.length ≤ 12 ∧ b.ck 1 ∧ b.size ≤ 200 ∧ ∀ H', (∀ a o, H a = some o → H' a = some o) → Q .non H'
theorem ok_Runner_s6_check (T : Tx w K mg) (F_check_program : FOk PW w K mg base 52 (f_check_program K) ["program", "tree"] [] (sp_chk K)) : FOk PW w K mg base 53 (f_Runner_s6_check K) ["self", "program"] [] (sp_s6 K) := by
  obtain ⟨fd, F⟩ := T.d_Runner_s6_check
  refine ⟨⟨fd, [], F.ok sc_Runner_s6_check (fun vs H Q E h => ?_) (fun cdv A outer s H vs Q E hr h => ?_), F.bindsN fun _ _ _ _ _ _ us hl => match us, hl with | [_, _], _ => rfl, .nil⟩, F.kp⟩
  · obtain ⟨a, p, us, b, rfl, _⟩ := h
    rfl
  · obtain ⟨a, p, us, b, rfl, hR, hT, hPD, hp, bt, hl, ck, hsz, k⟩ := h
    refine ⟨_, (PSs.nox (pss_cons (ps_if (pt_val (pe_fld (pv 0) rfl)) pss_never pss_nil) (pss_one (ps_expr (pk_call F_check_program hr rfl T.g_check_program (pa_cons (pv 1) (pa_cons (pe_fld (pv 0) rfl) pa_nil))))))), ?_⟩
    refine q_when (b := false) (et_B (ev_fld (ev_var rfl) hR T.c_Runner T.n_Runner_s3_is_spoiled rfl)) (fun q => Bool.noConfusion q) fun _ H1 e1 => ?_
    refine s_dropX (x_call (ea_cons (ev_var rfl) (ea_cons (ev_fld (ev_var rfl) (e1 _ _ hR) T.c_Runner T.n_Runner_s3_tree rfl) ea_nil)) fun H2 e2 => ?_)
    have g := e1.trans e2
    exact ⟨p, a.T, a.dT, a.PD, us, b, rfl, g _ _ hp, bt.tp (ex_tp g), hl, ck, hsz, g _ _ hT, g _ _ hPD, fun H3 s3 _ => k H3 fun a o ha => s3 _ _ (g _ _ ha)⟩
def sp_run (K : Frg) : Sp := fun vs H Q _ => ∃ H0 a p us b, vs = [.ref a.R, .ref p] ∧ Own H0 H (run7 K a) ∧ H p = some (.tup us) ∧ BdyT H us b ∧ us.length ≤ 12 ∧ b.ck 1 ∧ b.size ≤ 200 ∧ b.hot = true ∧
  ∀ H' B L F A fa lg o d v, Own H0 H' (endC K { a with B := B, L := L, F := F, A := A } (exec b ps0).2 fa lg o d (wayS (exec b ps0).1) (refO fa (exec b ps0).1) v) → LogOk H' lg (exec b ps0).2.log → fa.length = (exec b ps0).2.rows.length → Q (.ref o) H'
theorem ok_Runner_run (T : Tx w K mg) (F_Runner_s6_check : FOk PW w K mg base 53 (f_Runner_s6_check K) ["self", "program"] [] (sp_s6 K)) (F_Runner_s3_clear : FOk PW w K mg base 2 (f_Runner_s3_clear K) ["self"] [] (sp_rclear K)) (F_Runner_s3_run : FOk PW w K mg base 14 (f_Runner_s3_run K) ["self", "program"] [] (sp_srun K)) :
    FOk PW w K mg base 54 (f_Runner_run K) ["self", "program"] [] (sp_run K) := by
  obtain ⟨fd, F⟩ := T.d_Runner_run
  refine ⟨⟨fd, [], F.ok sc_Runner_run (fun vs H Q E h => ?_) (fun cdv A outer s H vs Q E hr h => ?_), F.bindsN fun _ _ _ _ _ _ us hl => match us, hl with | [_, _], _ => rfl, .nil⟩, F.kp⟩
  · obtain ⟨H0, a, p, us, b, rfl, _⟩ := h
    rfl
  · obtain ⟨H0, a, p, us, b, rfl, w0, hp, bt, hl, ck, hsz, hot, k⟩ := h
    refine ⟨_, (PSs.nox (pss_cons (ps_expr (pk_meth (pv 0) T.c_Runner T.m_Runner_s6_check F_Runner_s6_check hr (pa_cons (pv 1) pa_nil))) (pss_cons (ps_expr (pk_meth0 (pv 0) T.c_Runner T.m_Runner_s3_clear F_Runner_s3_clear hr)) (pss_one (ps_ret (pk_meth (pv 0) T.c_Runner T.m_Runner_s3_run F_Runner_s3_run hr (pa_cons (pv 1) pa_nil))))))), ?_⟩
    refine q_dropX (x_meth (ev_var rfl) (w0.get 0 rfl) rfl (ea_cons (ev_var rfl) ea_nil) fun H1 e1 => ?_)
    have w1 := w0.grow e1
    refine ⟨a, p, us, b, rfl, w1.get 0 rfl, w1.get 4 rfl, w1.get 5 rfl, e1 _ _ hp, bt.tp (ex_tp e1), hl, ck, hsz, fun H2 s2 t2 => ?_⟩
    have w2 := w1.up s2
    have t2 := (ex_tp e1).trans t2
    refine q_dropX (x_meth (ev_var rfl) (w2.get 0 rfl) rfl ea_nil fun H3 e3 => ?_)
    have w3 : Own H0 H3 ([(a.T, .ins (a_KindTree K) a.dT [("s1_parents", .ref a.PD)]), (a.PD, .dK kindsK)] ++ [(a.R, .ins (a_Runner K) a.dR (rFs a.T a.B a.L a.F 0 a.A))]) := ((((w2.grow e3).erase 6).erase 3).erase 2 |>.erase 1).perm (List.perm_append_comm (l₁ := [(a.T, HO.ins (a_KindTree K) a.dT [("s1_parents", .ref a.PD)]), (a.PD, .dK kindsK)]) (l₂ := [(a.R, HO.ins (a_Runner K) a.dR (rFs a.T a.B a.L a.F 0 a.A))]))
    have t3 := t2.trans (ex_tp e3)
    refine ⟨_, a.R, a.dR, _, rfl, w3.cut, (show 9 ≤ 900 by decide), fun H4 B L F A w4 t4 => ?_⟩
    have w5 : Own H0 H4 ([(a.T, .ins (a_KindTree K) a.dT [("s1_parents", .ref a.PD)]), (a.PD, .dK kindsK)] ++ [(a.R, .ins (a_Runner K) a.dR (rFs a.T B L F 0 A)), (B, .dK []), (L, .lst []), (F, .lst []), (A, .lst [])]) := w3.back w4
    have w6 : Own H0 H4 (run7 K { a with B := B, L := L, F := F, A := A }) := w5.perm (by
      show List.Perm ([(a.R, HO.ins (a_Runner K) a.dR (rFs a.T B L F 0 A)), (B, .dK []), (L, .lst []), (F, .lst [])] ++ ([(a.T, .ins (a_KindTree K) a.dT [("s1_parents", .ref a.PD)]), (a.PD, .dK kindsK)] ++ [(A, .lst [])])) ([(a.T, .ins (a_KindTree K) a.dT [("s1_parents", .ref a.PD)]), (a.PD, .dK kindsK)] ++ ([(a.R, .ins (a_Runner K) a.dR (rFs a.T B L F 0 A)), (B, .dK []), (L, .lst []), (F, .lst [])] ++ [(A, .lst [])]))
      rw [← List.append_assoc, ← List.append_assoc]
      exact List.Perm.append_right _ List.perm_append_comm)
    have tt := t3.trans t4
    refine s_retX (x_meth (ev_var rfl) (w6.get 0 rfl) rfl (ea_cons (ev_var rfl) ea_nil) fun H5 e5 => ?_)
    have t5 := tt.trans (ex_tp e5)
    exact ⟨H0, { a with B := B, L := L, F := F, A := A }, p, us, b, rfl, w6.grow e5, t5 _ _ hp, by omega, bt.tp t5, hot, by omega, fun H6 A' fa lg o d v w7 l7 n7 _ => k H6 B L F A' fa lg o d v w7 l7 n7⟩
end
end L2.EX
namespace L2.EX
open PySem PySem.Spec PyProof.Rows Evl
/-! The law's draw: numbers below a bound. -/
section
variable {K : Frg} {σ : L2.St} {H : Hp} {td ty te ta tb : TE} {d p : Addr} {kvs : List (Key × V)} {k : Key} {v x y : V} {xs : List V} {i j : Int}
theorem ev_dix (h : Ev td σ H (.ref d)) (hd : H d = some (.dK kvs)) (hk : Ev ty σ H (kV k)) (e : valV kvs k = some v) : Ev (tDGet td ty) σ H v := fun H1 e1 _ q =>
  h H1 e1 _ fun H2 e2 => hk H2 (e1.trans e2) _ fun H3 e3 => ⟨d, v, rfl, by rw [← e]; exact DGet.k (((e1.trans e2).trans e3) _ _ hd), q H3 (e2.trans e3)⟩
theorem rv_I (C : Int → Int → Prop) {f : Int → Int → V} (c : C i j) : RV (rI C f) (.int i) (.int j) H (f i j) := fun H1 _ _ q => ⟨i, j, rfl, rfl, c, q H1 (Ex.refl H1)⟩
theorem rc_max : RC (fun xs H Q => ∃ i j, xs = [.int i, .int j] ∧ Q (.int (if j > i then j else i)) H) [.int i, .int j] H (.int (if j > i then j else i)) := fun H1 _ _ q => ⟨i, j, rfl, q H1 (Ex.refl H1)⟩
/-- d[k] = v among targets -/
theorem g_dset {to ti : TE} {N : L2.St → Hp → Prop} (h : Ev to σ H (.ref d)) (hk : Ev ti σ H (kV k)) (hd : H d = some (.dK kvs)) (hl : kvs.length < sizeLine) (q : ∀ H1, Ex H H1 → N σ (upd H1 d (.dK (putK kvs k v)))) : gSub to ti rSetD v σ H N :=
  h H (Ex.refl H) _ fun H1 e1 => hk H1 e1 _ fun H2 e2 => ⟨d, _, rfl, DPut.k ((e1.trans e2) _ _ hd) hl, q H2 (e1.trans e2)⟩
theorem g_lset {to ti : TE} {N : L2.St → Hp → Prop} {n : Nat} (h : Ev to σ H (.ref p)) (hk : Ev ti σ H (.int i)) (hp : H p = some (.lst xs)) (hi : ixN xs.length i = some n) (q : ∀ H1, Ex H H1 → N σ (upd H1 p (.lst (xs.set n v)))) : gSub to ti rSetL v σ H N :=
  h H (Ex.refl H) _ fun H1 e1 => hk H1 e1 _ fun H2 e2 => ⟨p, xs, i, n, rfl, rfl, (e1.trans e2) _ _ hp, hi, q H2 (e1.trans e2)⟩
end
/-- the draw's cells -/
def drc (D G : Addr) (m : Int) (gs : List Int) (t : Int) : List (Addr × HO) := [(D, .dK [(Sum.inr "mixed", .int m), (Sum.inr "great", .ref G), (Sum.inr "turn", .int t)]), (G, .lst (gs.map V.int))]
def DrOk (m : Int) (gs : List Int) (t : Int) : Prop := 0 ≤ m ∧ m < 2305843009213693951 ∧ gs.length ≤ 63 ∧ 0 ≤ t ∧ t ≤ 100000
section
variable {w : World} {K : Frg} {mg : Str → Option Value} {base : Heap}
def sp_next (K : Frg) : Sp := fun vs H Q _ => ∃ (H0 : Hp) (D G : Addr) (m : Int) (gs : List Int) (t b : Int), vs = [.ref D, .int b] ∧ Own H0 H (drc D G m gs t) ∧ DrOk m gs t ∧ t + 1 ≤ 100000 ∧ 1 ≤ b ∧ b ≤ 1000 ∧
  ∀ H' m' gs' r, Own H0 H' (drc D G m' gs' (t + 1)) → DrOk m' gs' (t + 1) → 0 ≤ r → r < b → Q (.int r) H'
theorem ok_l_next (T : Tx w K mg) : FOk PW w K mg base 1 (f_l_next K) ["_law_draw", "_law_below"] [] (sp_next K) := by
  obtain ⟨fd, F⟩ := T.d_l_next
  refine ⟨⟨fd, [], F.ok sc_l_next (fun vs H Q E h => ?_) (fun cdv A outer s H vs Q E hr h => ?_), F.bindsN fun _ _ _ _ _ _ us hl => match us, hl with | [_, _], _ => rfl, .nil⟩, F.kp⟩
  · obtain ⟨H0, D, G, m, gs, t, b, rfl, _⟩ := h
    rfl
  · obtain ⟨H0, D, G, m, gs, t, b, rfl, w0, dr, ht, hb1, hb2, k⟩ := h
    refine ⟨_, (PSs.nox (pss_cons (ps_asg (pe_tup (pa_cons (pe_op op_add (pe_dget (hu_of hr) (pv 0) pe_str (fun _ _ => rfl)) pe_int) (pa_cons (pe_dget (hu_of hr) (pv 0) pe_str (fun _ _ => rfl)) pa_nil))) (pg_tup rfl (pgs_cons (pg_sub (pv 0) pe_str (set_dict (hu_of hr)) (fun _ => rfl)) (pgs_cons (pg_name (i := 2) sc_l_next.nd rfl (Or.inl rfl)) pgs_nil)))) (pss_cons (ps_set (i := 3) sc_l_next.nd rfl (Or.inl rfl) (pe_op op_mod (pe_dget (hu_of hr) (pv 0) pe_str (fun _ _ => rfl)) (pe_callB (call_max2 (by rfl)) rfl T.z_max boot_max (pa_cons pe_int (pa_cons (pe_callB call_len rfl T.z_len boot_len (pa_cons (pv 2) pa_nil)) pa_nil))))) (pss_cons (ps_if (PW.pt (pw_and (pt_cmpR (op_neLE hr.units0) (pv 2) (pe_lst pa_nil) (nomark _)) (pw_and1 (pt_cmpR op_gt (pe_ix ix_list (pv 2) (pv 3) (fun _ _ => rfl)) pe_int (nomark _))))) (pss_cons (ps_set (i := 4) sc_l_next.nd rfl (Or.inl rfl) (pe_op op_mod (pe_ix ix_list (pv 2) (pv 3) (fun _ _ => rfl)) (pv 1))) (pss_cons (ps_asg (pe_op op_fdivW (pe_ix ix_list (pv 2) (pv 3) (fun _ _ => rfl)) (pv 1)) (pg_sub (pv 2) (pv 3) set_list (fun _ => rfl))) (pss_one (ps_ret (pv 4))))) pss_nil) (pss_cons (ps_set (i := 5) sc_l_next.nd rfl (Or.inl rfl) (pe_op op_add (pe_op op_add (pe_op op_mul (pe_dget (hu_of hr) (pv 0) pe_str (fun _ _ => rfl)) pe_int) (pe_op op_mul pe_int (pe_dget (hu_of hr) (pv 0) pe_str (fun _ _ => rfl)))) pe_int)) (pss_cons (ps_asg (pe_op op_mod (pv 5) pe_int) (pg_sub (pv 0) pe_str (set_dict (hu_of hr)) (fun _ => rfl))) (pss_one (ps_ret (pe_op op_mod (pe_op op_fdivW (pe_dget (hu_of hr) (pv 0) pe_str (fun _ _ => rfl)) pe_int) (pv 1)))))))))), ?_⟩
    refine q_asgT (eu_tup (ea_cons (ev_op (ev_dix (k := Sum.inr "turn") (ev_var rfl) (w0.get 0 rfl) ev_c rfl) ev_c rv_I0) (ea_cons (ev_dix (k := Sum.inr "great") (ev_var rfl) (w0.get 0 rfl) ev_c rfl) ea_nil)) (show 2 ≤ 100000 by decide)) rfl fun H1 e1 => ?_
    refine g_cons (g_dset (k := Sum.inr "turn") (ev_var rfl) ev_c ((w0.grow e1).get 0 rfl) (sz_lt (show 3 < 100000 by decide)) fun H2 e2 => g_cons (g_nil ?_))
    have w2 : Own H0 (upd H2 D (.dK [(Sum.inr "mixed", .int m), (Sum.inr "great", .ref G), (Sum.inr "turn", .int (t + 1))])) (drc D G m gs (t + 1)) := ((w0.grow e1).grow e2).set0
    have hln : ∀ {H5 : Hp}, Own H0 H5 (drc D G m gs (t + 1)) → ∀ H6, Ex H5 H6 → LenV K (.ref G) H6 gs.length := fun w H6 e6 => .inl ⟨_, sq_of (e6 _ _ (w.get 1 rfl)), by rw [List.length_map]⟩
    refine q_asg (v := .int ((t + 1) % (if (gs.length : Int) > 1 then (gs.length : Int) else 1))) (ev_op (ev_dix (k := Sum.inr "turn") (ev_var rfl) (w2.get 0 rfl) ev_c rfl) (ev_cb (ea_cons ev_c (ea_cons (ev_cb (ea_cons (ev_var rfl) ea_nil) (rc_len (hln w2))) ea_nil)) rc_max) (EX.rv_I _ (by split <;> omega))) fun H3 e3 => ?_
    have w3 := w2.grow e3
    have h1 : 0 ≤ (t + 1) % (if (gs.length : Int) > 1 then (gs.length : Int) else 1) := Int.emod_nonneg _ (by split <;> omega)
    have h2 : gs ≠ [] → (t + 1) % (if (gs.length : Int) > 1 then (gs.length : Int) else 1) < gs.length := fun hne => by
      have : 0 < gs.length := List.length_pos_iff.mpr hne
      by_cases c : (gs.length : Int) > 1
      · rw [if_pos c]
        exact Int.emod_lt_of_pos _ (by omega)
      · rw [if_neg c]
        have := Int.emod_lt_of_pos (t + 1) (show (0 : Int) < 1 by decide)
        omega
    generalize (t + 1) % (if (gs.length : Int) > 1 then (gs.length : Int) else 1) = at_ at h1 h2 ⊢
    obtain ⟨n, rfl⟩ := Int.eq_ofNat_of_zero_le h1
    obtain ⟨hm1, hm2, hg, ht1, ht2⟩ := dr
    have ixg : ∀ {H5 : Hp} {g : Int}, Ex H3 H5 → gs[n]? = some g → ∀ {o1 o2 : Option V}, Evl.Ev (tOp (rIxL K) (tVar 2) (tVar 3)) [some (.ref D), some (.int b), some (.ref G), some (.int (n : Int)), o1, o2] H5 (.int g) := fun e hg _ _ => ev_op (ev_var rfl) (ev_var rfl) (rv_ixL (sq_of ((w3.grow e).get 1 rfl)) (atI_nat (by rw [List.getElem?_map, hg]; rfl)))
    refine q_when (b := match gs[n]? with | some g => decide (0 < g) | none => false) ?_ (fun q H4 e4 => ?_) (fun q H4 e4 => ?_)
    · cases hgs : gs with
      | nil =>
        refine et_and (a := false) (b := false) (et_test (ev_opL (ev_var rfl) (el_lst ea_nil (Nat.zero_le _)) fun q' H8 h8 e8 => ?_)) fun q => Bool.noConfusion q
        have z := rv_neL (K := K) (sq_of ((w3.grow e8).get 1 rfl)) (sq_of h8)
        rw [hgs] at z
        exact z
      | cons g0 gr =>
        have hne : gs ≠ [] := by rw [hgs]; exact List.cons_ne_nil _ _
        have hlt := h2 hne
        have eg : gs[n]? = some (gs[n]'(by omega)) := List.getElem?_eq_getElem (by omega)
        rw [← hgs, eg]
        refine et_is (et_and (a := true) (b := decide (0 < gs[n]'(by omega))) (et_test (ev_is (ev_opL (ev_var rfl) (el_lst ea_nil (Nat.zero_le _)) fun q' H8 h8 e8 => rv_neL (sq_of ((w3.grow e8).get 1 rfl)) (sq_of h8)) (by rw [hgs]; rfl))) fun _ => et_test (ev_op (ixg (Ex.refl _) eg) ev_c rv_I0)) (Bool.true_and _)
    · cases eg : gs[n]? with
      | none => rw [eg] at q; exact Bool.noConfusion q
      | some g =>
        have w4 := w3.grow e4
        have hn : n < gs.length := (List.getElem?_eq_some_iff.mp eg).1
        refine q_asg (ev_op (ixg e4 eg) (ev_var rfl) (EX.rv_I _ (by omega))) fun H5 e5 => ?_
        refine ev_op (ixg (e4.trans e5) eg) (ev_var rfl) (EX.rv_I _ (wide_div (b := 10) (by omega) (by omega) (by omega) (by omega))) H5 (Ex.refl _) _ fun H6 e6 => ?_
        have w6 := (w4.grow e5).grow e6
        refine g_lset (n := n) (ev_var rfl) (ev_var rfl) (w6.get 1 rfl) (by rw [List.length_map]; exact ixN_nat hn) fun H7 e7 => ?_
        have w7 : Own H0 (upd H7 G (.lst ((gs.map V.int).set n (.int (g / b))))) (drc D G m (gs.set n (g / b)) (t + 1)) := by
          have z := (w6.grow e7).set 1 (o' := .lst ((gs.set n (g / b)).map V.int)) rfl
          have e : (gs.map V.int).set n (.int (g / b)) = (gs.set n (g / b)).map V.int := (List.map_set ..).symm
          rw [e]
          exact z
        exact s_ret (D := { nx := fun _ H' => Q .non H', rt := Q }) (ev_var rfl) fun H8 e8 => k H8 m (gs.set n (g / b)) (g % b) (w7.grow e8) ⟨hm1, hm2, by rw [List.length_set]; exact hg, by omega, by omega⟩ (Int.emod_nonneg _ (by omega)) (Int.emod_lt_of_pos _ (by omega))
    · have w4 := w3.grow e4
      refine q_asg (ev_op (ev_op (ev_op (ev_dix (k := Sum.inr "mixed") (ev_var rfl) (w4.get 0 rfl) ev_c rfl) ev_c (EX.rv_I _ (.inl ⟨by omega, by omega⟩))) (ev_op ev_c (ev_dix (k := Sum.inr "turn") (ev_var rfl) (w4.get 0 rfl) ev_c rfl) (EX.rv_I _ (.inl ⟨by omega, by omega⟩))) rv_I0) ev_c rv_I0) fun H5 e5 => ?_
      have w5 := w4.grow e5
      generalize m * 6364136223846793 + 1442695040888963 * (t + 1) + 11 = mx
      refine ev_op (ev_var rfl) ev_c (EX.rv_I _ (by omega)) H5 (Ex.refl _) _ fun H6 e6 => ?_
      have w6 := w5.grow e6
      refine g_dset (k := Sum.inr "mixed") (ev_var rfl) ev_c (w6.get 0 rfl) (sz_lt (show 3 < 100000 by decide)) fun H7 e7 => ?_
      have w7 : Own H0 (upd H7 D (.dK [(Sum.inr "mixed", .int (mx % 2305843009213693951)), (Sum.inr "great", .ref G), (Sum.inr "turn", .int (t + 1))])) (drc D G (mx % 2305843009213693951) gs (t + 1)) := (w6.grow e7).set0
      refine s_ret (D := { nx := fun _ H' => Q .non H', rt := Q }) (ev_op (ev_op (ev_dix (k := Sum.inr "mixed") (ev_var rfl) (w7.get 0 rfl) ev_c rfl) ev_c (EX.rv_I _ (wide_div (b := 20) (by omega) (by omega) (by omega) (by omega)))) (ev_var rfl) (EX.rv_I _ (by omega))) fun H8 e8 => ?_
      exact k H8 (mx % 2305843009213693951) gs _ (w7.grow e8) ⟨Int.emod_nonneg _ (by omega), Int.emod_lt_of_pos _ (by omega), hg, by omega, by omega⟩ (Int.emod_nonneg _ (by omega)) (Int.emod_lt_of_pos _ (by omega))
end
end L2.EX
namespace L2.EX
open PySem PySem.Spec PyProof.Rows Evl
/-! The state of the law's own run in memory; its small defs. -/
structure LA where
  M : Addr
  LB : Addr
  LL : Addr
  LR : Addr
  LH : Addr
def oN : Option Nat → V
  | none => .non
  | some n => .int (n : Int)
def lrow (r : FR) : List V := [.str r.kind, .str r.label, oN r.ctx, oN r.cause, .bl r.hides]
def lbK (b : List (Str × Nat)) : List (Key × V) := b.map fun p => (Sum.inr p.1, .int (p.2 : Int))
def lhV (h : List Nat) : List V := h.map fun n : Nat => V.int (n : Int)
def mK (a : LA) (n : Int) : List (Key × V) := [(Sum.inr "board", .ref a.LB), (Sum.inr "log", .ref a.LL), (Sum.inr "rows", .ref a.LR), (Sum.inr "hand", .ref a.LH), (Sum.inr "steps", .int n), (Sum.inr "most", .int 2000)]
def lbase (a : LA) (n : Int) (b : List (Key × V)) (lg rw hd : List V) : List (Addr × HO) := [(a.M, .dK (mK a n)), (a.LB, .dK b), (a.LL, .lst lg), (a.LR, .lst rw), (a.LH, .lst hd)]
def lcell (ra : List Addr) (i : Nat) (r : FR) : Addr × HO := (ra.getD i 0, .lst (lrow r))
def lcells (ra : List Addr) (rows : List FR) : List (Addr × HO) := rows.mapIdx fun i r => lcell ra i r
theorem lcells_at {ra : List Addr} {rows : List FR} {i : Nat} {r : FR} (h : rows[i]? = some r) : (lcells ra rows)[i]? = some (lcell ra i r) := by
  unfold lcells
  rw [List.getElem?_mapIdx, h]
  rfl
theorem lcells_set {ra : List Addr} {rows : List FR} {i : Nat} {r : FR} : lcells ra (rows.set i r) = (lcells ra rows).set i (lcell ra i r) := by
  unfold lcells
  refine List.ext_getElem (by simp) fun j h1 h2 => ?_
  simp only [List.getElem_mapIdx, List.getElem_set]
  by_cases e : i = j
  · subst e
    simp
  · simp [e]
theorem lcells_snoc {ra : List Addr} {rows : List FR} {p : Addr} {r : FR} (h : ra.length = rows.length) : lcells (ra ++ [p]) (rows ++ [r]) = lcells ra rows ++ [(p, .lst (lrow r))] := by
  unfold lcells
  rw [List.mapIdx_append]
  have e1 : rows.mapIdx (fun i r => lcell (ra ++ [p]) i r) = rows.mapIdx fun i r => lcell ra i r := by
    refine List.ext_getElem (by simp) fun i h1 h2 => ?_
    have hi : i < rows.length := by simpa using h1
    simp only [List.getElem_mapIdx, lcell]
    rw [List.getD_eq_getElem?_getD, List.getD_eq_getElem?_getD, List.getElem?_append_left (by omega)]
  rw [e1]
  simp [lcell, ← h]
theorem Own.add {H0 H H1 : Hp} {l : List (Addr × HO)} {p : Addr} {o : HO} (w : Own H0 H l) (e : Ex H H1) (hp : H p = none) (h : H1 p = some o) : Own H0 H1 (l ++ [(p, o)]) := by
  obtain ⟨f1, f2⟩ := w.fresh hp
  have g := w.grow e
  refine ⟨g.same, fun c hc => ?_, ?_, fun c hc => ?_⟩
  · rcases List.mem_append.mp hc with m | m
    · exact w.out c m
    · rw [List.mem_singleton.mp m]; exact f1
  · rw [List.map_append]
    refine List.nodup_append.mpr ⟨w.nd, by simp, fun x hx y hy q => f2 ?_⟩
    have hy : y ∈ [p] := hy
    rw [List.mem_singleton] at hy
    rw [← hy, ← q]
    exact hx
  · rcases List.mem_append.mp hc with m | m
    · exact g.at_ c m
    · rw [List.mem_singleton.mp m]; exact h
structure Lw (H0 H : Hp) (a : LA) (s : PS) (lg : List V) (ra : List Addr) : Prop where
  own : Own H0 H (lbase a s.steps (lbK s.board) lg (ra.map V.ref) (lhV s.hand) ++ lcells ra s.rows)
  log : LogOk H lg s.log
  len : ra.length = s.rows.length
section
variable {H0 H H' : Hp} {a : LA} {s : PS} {lg : List V} {ra : List Addr}
theorem Lw.grow (m : Lw H0 H a s lg ra) (e : Ex H H') : Lw H0 H' a s lg ra := ⟨m.own.grow e, m.log.tp (ex_tp e), m.len⟩
theorem Lw.dict (m : Lw H0 H a s lg ra) : H a.M = some (.dK (mK a s.steps)) := m.own.get 0 rfl
theorem Lw.board (m : Lw H0 H a s lg ra) : H a.LB = some (.dK (lbK s.board)) := m.own.get 1 rfl
theorem Lw.logl (m : Lw H0 H a s lg ra) : H a.LL = some (.lst lg) := m.own.get 2 rfl
theorem Lw.rowl (m : Lw H0 H a s lg ra) : H a.LR = some (.lst (ra.map V.ref)) := m.own.get 3 rfl
theorem Lw.hand (m : Lw H0 H a s lg ra) : H a.LH = some (.lst (lhV s.hand)) := m.own.get 4 rfl
theorem Lw.row (m : Lw H0 H a s lg ra) {i : Nat} {r : FR} (h : s.rows[i]? = some r) : H (ra.getD i 0) = some (.lst (lrow r)) := m.own.at_ (lcell ra i r) (List.mem_append_right _ (List.mem_of_getElem? (lcells_at h)))
theorem lst_no {xs : List V} : ∀ ys : List V, HO.lst xs ≠ HO.tup ys := fun ys z => by cases z
theorem dk_no {xs : List (Key × V)} : ∀ ys : List V, HO.dK xs ≠ HO.tup ys := fun ys z => by cases z
theorem Lw.setBoard {b : List (Str × Nat)} (m : Lw H0 H a s lg ra) : Lw H0 (upd H a.LB (.dK (lbK b))) a { s with board := b } lg ra := ⟨m.own.set 1 rfl, m.log.tp (TP.upd m.board dk_no), m.len⟩
theorem Lw.setHand {b : List Nat} (m : Lw H0 H a s lg ra) : Lw H0 (upd H a.LH (.lst (lhV b))) a { s with hand := b } lg ra := ⟨m.own.set 4 rfl, m.log.tp (TP.upd m.hand lst_no), m.len⟩
theorem Lw.setStep {n : Nat} (m : Lw H0 H a s lg ra) : Lw H0 (upd H a.M (.dK (mK a n))) a { s with steps := n } lg ra := ⟨m.own.set 0 rfl, m.log.tp (TP.upd m.dict dk_no), m.len⟩
theorem Lw.setLog {q : Addr} {e : Evt} (m : Lw H0 H a s lg ra) (h : H q = some (.tup (evV e))) : Lw H0 (upd H a.LL (.lst (lg ++ [.ref q]))) a { s with log := s.log ++ [e] } (lg ++ [.ref q]) ra := by
  have t : TP H (upd H a.LL (.lst (lg ++ [.ref q]))) := TP.upd m.logl lst_no
  exact ⟨m.own.set 2 rfl, (m.log.tp t).snoc (t _ _ h), m.len⟩
theorem Lw.setRow {i : Nat} {r r' : FR} (m : Lw H0 H a s lg ra) (h : s.rows[i]? = some r) : Lw H0 (upd H (ra.getD i 0) (.lst (lrow r'))) a { s with rows := s.rows.set i r' } lg ra := by
  refine ⟨?_, m.log.tp (TP.upd (m.row h) lst_no), by rw [m.len]; exact (List.length_set ..).symm⟩
  have e : (lbase a s.steps (lbK s.board) lg (ra.map V.ref) (lhV s.hand) ++ lcells ra s.rows)[5 + i]? = some (lcell ra i r) := by
    rw [List.getElem?_append_right (by show 5 ≤ 5 + i; omega)]
    have : 5 + i - (lbase a s.steps (lbK s.board) lg (ra.map V.ref) (lhV s.hand)).length = i := by show 5 + i - 5 = i; omega
    rw [this]
    exact lcells_at h
  have z := m.own.set (5 + i) (o' := .lst (lrow r')) e
  have e2 : (lbase a s.steps (lbK s.board) lg (ra.map V.ref) (lhV s.hand) ++ lcells ra s.rows).set (5 + i) (ra.getD i 0, .lst (lrow r')) = lbase a s.steps (lbK s.board) lg (ra.map V.ref) (lhV s.hand) ++ (lcells ra s.rows).set i (lcell ra i r') := set_right (lbase a s.steps (lbK s.board) lg (ra.map V.ref) (lhV s.hand)) (lcells ra s.rows) i (lcell ra i r')
  rw [e2] at z
  show Own H0 _ (lbase a s.steps (lbK s.board) lg (ra.map V.ref) (lhV s.hand) ++ lcells ra (s.rows.set i r'))
  rw [lcells_set]
  exact z
/-- a new row -/
theorem Lw.newRow {p : Addr} {r : FR} {H1 : Hp} (m : Lw H0 H a s lg ra) (e : Ex H H1) (hp : H p = none) (h : H1 p = some (.lst (lrow r))) : Lw H0 (upd H1 a.LR (.lst (ra.map V.ref ++ [.ref p]))) a { s with rows := s.rows ++ [r] } lg (ra ++ [p]) := by
  have g : H1 a.LR = some (.lst (ra.map V.ref)) := e _ _ m.rowl
  have w1 := m.own.add e hp h
  rw [List.append_assoc, ← lcells_snoc m.len] at w1
  have w2 : Own H0 (upd H1 a.LR (.lst (ra.map V.ref ++ [.ref p]))) (lbase a s.steps (lbK s.board) lg (ra.map V.ref ++ [.ref p]) (lhV s.hand) ++ lcells (ra ++ [p]) (s.rows ++ [r])) := w1.set 3 rfl
  refine ⟨?_, (m.log.tp (ex_tp e)).tp (TP.upd g lst_no), by simp [m.len]⟩
  have e3 : (ra ++ [p]).map V.ref = ra.map V.ref ++ [.ref p] := by simp
  show Own H0 _ (lbase a s.steps (lbK s.board) lg ((ra ++ [p]).map V.ref) (lhV s.hand) ++ lcells (ra ++ [p]) (s.rows ++ [r]))
  rw [e3]
  exact w2
end
section
variable {K : Frg} {σ : L2.St} {H H' H0 : Hp} {tM ti : TE} {a : LA} {s : PS} {lg : List V} {ra : List Addr}
theorem Lw.evB (m : Lw H0 H a s lg ra) (h : Evl.Ev tM σ H (.ref a.M)) : Evl.Ev (tDGet tM (tC (.str "board"))) σ H (.ref a.LB) := ev_dix (k := Sum.inr "board") h m.dict ev_c rfl
theorem Lw.evL (m : Lw H0 H a s lg ra) (h : Evl.Ev tM σ H (.ref a.M)) : Evl.Ev (tDGet tM (tC (.str "log"))) σ H (.ref a.LL) := ev_dix (k := Sum.inr "log") h m.dict ev_c rfl
theorem Lw.evR (m : Lw H0 H a s lg ra) (h : Evl.Ev tM σ H (.ref a.M)) : Evl.Ev (tDGet tM (tC (.str "rows"))) σ H (.ref a.LR) := ev_dix (k := Sum.inr "rows") h m.dict ev_c rfl
theorem Lw.evH (m : Lw H0 H a s lg ra) (h : Evl.Ev tM σ H (.ref a.M)) : Evl.Ev (tDGet tM (tC (.str "hand"))) σ H (.ref a.LH) := ev_dix (k := Sum.inr "hand") h m.dict ev_c rfl
theorem Lw.evS (m : Lw H0 H a s lg ra) (h : Evl.Ev tM σ H (.ref a.M)) : Evl.Ev (tDGet tM (tC (.str "steps"))) σ H (.int s.steps) := ev_dix (k := Sum.inr "steps") h m.dict ev_c rfl
theorem Lw.evMo (m : Lw H0 H a s lg ra) (h : Evl.Ev tM σ H (.ref a.M)) : Evl.Ev (tDGet tM (tC (.str "most"))) σ H (.int 2000) := ev_dix (k := Sum.inr "most") h m.dict ev_c rfl
/-- m["rows"][i] -/
theorem Lw.evI (m : Lw H0 H a s lg ra) {i : Nat} (hi : i < s.rows.length) (h : Evl.Ev tM σ H (.ref a.M)) (h2 : Evl.Ev ti σ H (.int (i : Int))) : Evl.Ev (tOp (rIxL K) (tDGet tM (tC (.str "rows"))) ti) σ H (.ref (ra.getD i 0)) :=
  ev_op (m.evR h) h2 (rv_ixL (sq_of m.rowl) (atI_nat (by
    have hl : i < ra.length := by rw [m.len]; exact hi
    rw [List.getElem?_map, List.getElem?_eq_getElem hl, List.getD_eq_getElem?_getD, List.getElem?_eq_getElem hl]
    rfl)))
theorem Lw.lenR (m : Lw H0 H a s lg ra) (h : Evl.Ev tM σ H (.ref a.M)) : Evl.Ev (tCB (fun xs H Q => ∃ x n, xs = [x] ∧ LenV K x H n ∧ Q (.int n) H) (tCons (tDGet tM (tC (.str "rows"))) tNil)) σ H (.int (s.rows.length : Int)) :=
  ev_cb (ea_cons (m.evR h) ea_nil) (rc_len fun H5 e5 => .inl ⟨_, sq_of (e5 _ _ m.rowl), by rw [List.length_map]; exact m.len.symm⟩)
end
section
variable {w : World} {K : Frg} {mg : Str → Option Value} {base : Heap}
theorem pr_c {v : V} {tv : TE} {r : List (TE × TE)} {σ : L2.St} {H : Hp} {Q : List (V × V) → Hp → Prop} (h : tv σ H fun y H2 => tPairs r σ H2 fun ps H3 => Q ((v, y) :: ps) H3) : tPairs ((tC v, tv) :: r) σ H Q := h
def sp_lfits : Sp := Pur fun vs _ z => ∃ k : Str, vs = [.str k, .non] ∧ z = .bl true
theorem ok_l_fits (T : Tx w K mg) : FOk PW w K mg base 1 (f_l_fits K) ["_law_one", "_law_some"] [] sp_lfits := by
  obtain ⟨fd, F⟩ := T.d_l_fits
  refine ⟨⟨fd, [], F.ok sc_l_fits (fun vs H Q E h => ?_) (fun cdv A outer s H vs Q E hr h => ?_), F.bindsN fun _ _ _ _ _ _ us hl => match us, hl with | [_, _], _ => rfl, .nil⟩, F.kp⟩
  · obtain ⟨z, ⟨k, rfl, _⟩, _⟩ := h
    rfl
  · obtain ⟨z, ⟨kk, rfl, rfl⟩, k⟩ := h
    refine ⟨_, (PSs.nox (pss_cons (ps_set (i := 2) sc_l_fits.nd rfl (Or.inl rfl) (pe_disp (pps_cons pe_str pe_str (pps_cons pe_str pe_str (pps_cons pe_str pe_str (pps_cons pe_str pe_str (pps_cons pe_str pe_str pps_nil))))) rfl rfl (List.cons_ne_nil _ _) (by decide))) (pss_cons (ps_asg (pe_tup (pa_cons pe_str (pa_cons pe_str pa_nil))) (pg_tup rfl (pgs_cons (pg_sub (pv 2) pe_str (set_dict (hu_of hr)) (fun _ => rfl)) (pgs_cons (pg_sub (pv 2) pe_str (set_dict (hu_of hr)) (fun _ => rfl)) pgs_nil)))) (pss_cons (ps_if (pt_cmpR op_isN (pv 1) pe_non (nomark _)) (pss_one (ps_ret pe_bl)) pss_nil) (pss_cons (ps_while PassesOwn.never (PW.pt (pw_and (pt_cmpR op_notIn_seq (pv 0) (pv 1) rfl) (pw_and1 (pt_cmpR op_in_seq (pv 0) (pv 2) rfl)))) (pss_one (ps_set (i := 0) sc_l_fits.nd rfl (Or.inl rfl) (pe_ix ix_tup (pv 2) (pv 0) (fun _ _ => rfl))))) (pss_one (ps_ret (pe_cmpR op_in_seq (pv 0) (pv 1) rfl)))))))), ?_⟩
    refine q_asgX fun p hp => ?_
    refine ⟨upd_same, [(Sum.inr "Exit", .str "Base"), (Sum.inr "Error", .str "Base"), (Sum.inr "Stop", .str "Error"), (Sum.inr "Name", .str "Error"), (Sum.inr "State", .str "Error")], rfl, by decide, ?_⟩
    have e1 : Ex H (upd (upd H p (.dK [])) p (.dK (mergeK [] [(Sum.inr "Exit", .str "Base"), (Sum.inr "Error", .str "Base"), (Sum.inr "Stop", .str "Error"), (Sum.inr "Name", .str "Error"), (Sum.inr "State", .str "Error")]))) := Ex.mut (Ex.new hp) hp
    refine q_asgT (eu_tup (ea_cons ev_c (ea_cons ev_c ea_nil)) (show 2 ≤ 100000 by decide)) rfl fun H2 e2 => ?_
    refine g_cons (g_dset (k := Sum.inr "Key") (ev_var rfl) ev_c (e2 _ _ upd_same) (sz_lt (show 5 < 100000 by decide)) fun H3 e3 => g_cons (g_dset (k := Sum.inr "Near") (ev_var rfl) ev_c upd_same (sz_lt (show 6 < 100000 by decide)) fun H4 e4 => g_nil ?_))
    have e5 : Ex H _ := Ex.mut (o := .dK (putK (putK (mergeK [] [(Sum.inr "Exit", .str "Base"), (Sum.inr "Error", .str "Base"), (Sum.inr "Stop", .str "Error"), (Sum.inr "Name", .str "Error"), (Sum.inr "State", .str "Error")]) (Sum.inr "Key") (.str "Error")) (Sum.inr "Near") (.str "Key"))) ((Ex.mut ((e1.trans e2).trans e3) hp).trans e4) hp
    exact q_when (b := true) (et_test (ev_op (ev_var rfl) ev_c rv_isN)) (fun _ H6 e6 => s_ret ev_c fun H7 e7 => k H7 ((e5.trans e6).trans e7)) fun q => Bool.noConfusion q
def sp_lfresh : Sp := fun vs H Q _ => vs = [.int 2000] ∧ ∀ H' a, Lw H H' a ps0 [] [] → Q (.ref a.M) H'
theorem ok_l_fresh (T : Tx w K mg) : FOk PW w K mg base 1 (f_l_fresh K) ["_law_most"] [] sp_lfresh := by
  obtain ⟨fd, F⟩ := T.d_l_fresh
  refine ⟨⟨fd, [], F.ok sc_l_fresh (fun vs H Q E h => ?_) (fun cdv A outer s H vs Q E hr h => ?_), F.bindsN fun _ _ _ _ _ _ us hl => match us, hl with | [_], _ => rfl, .nil⟩, F.kp⟩
  · obtain ⟨rfl, _⟩ := h
    rfl
  · obtain ⟨rfl, k⟩ := h
    refine ⟨_, (PSs.nox (pss_one (ps_ret (pe_disp (pps_cons pe_str pe_dnewK (pps_cons pe_str (pe_lst pa_nil) (pps_cons pe_str (pe_lst pa_nil) (pps_cons pe_str (pe_lst pa_nil) (pps_cons pe_str pe_int (pps_cons pe_str (pv 0) pps_nil)))))) rfl rfl (List.cons_ne_nil _ _) (by decide))))), ?_⟩
    refine s_retX fun M hM => pr_c ?_
    have w0 : Own H (upd H M (.dK [])) ([] ++ [(M, .dK [])]) := (Own.refl (H := H)).new2 hM
    refine fun LB hB => pr_c ?_
    have w1 := w0.new2 (o := .dK []) hB
    refine el_lst ea_nil (Nat.zero_le _) _ (Ex.refl _) _ fun LL H2 hL e2 h2 => pr_c ?_
    have w2 := w1.add e2 hL h2
    refine el_lst ea_nil (Nat.zero_le _) _ (Ex.refl _) _ fun LR H3 hR e3 h3 => pr_c ?_
    have w3 := w2.add e3 hR h3
    refine el_lst ea_nil (Nat.zero_le _) _ (Ex.refl _) _ fun LH H4 hH e4 h4 => pr_c (ev_c H4 (Ex.refl _) _ fun H5 e5 => pr_c ?_)
    have w4 := w3.add e4 hH h4
    refine ev_var (v := .int 2000) rfl H5 (Ex.refl _) _ fun H6 e6 => ?_
    have w5 := (w4.grow e5).grow e6
    refine ⟨w5.get 0 rfl, [(Sum.inr "board", .ref LB), (Sum.inr "log", .ref LL), (Sum.inr "rows", .ref LR), (Sum.inr "hand", .ref LH), (Sum.inr "steps", .int 0), (Sum.inr "most", .int 2000)], rfl, (show 6 ≤ 15 by decide), ?_⟩
    exact k _ ⟨M, LB, LL, LR, LH⟩ ⟨w5.set0, .nil, rfl⟩
def sp_lat : Sp := Pur fun vs H z => ∃ H0 a s lg ra n, vs = [.ref a.M, .str n] ∧ Lw H0 H a s lg ra ∧ z = oN (bget s.board n)
theorem valV_lb (k : Str) : ∀ b : List (Str × Nat), (valV (lbK b) (Sum.inr k)).getD .non = oN (bget b k)
  | [] => rfl
  | p :: b => by
    have ih := valV_lb k b
    unfold lbK at ih ⊢
    unfold bget at ih ⊢
    rw [List.map_cons]
    by_cases e : p.1 = k
    · rw [valV_pos (by exact congrArg Sum.inr e), List.find?_cons, decide_eq_true e]
      rfl
    · rw [valV_neg (fun z => e (Sum.inr.inj z)), List.find?_cons, decide_eq_false e]
      exact ih
theorem ok_l_at (T : Tx w K mg) : FOk PW w K mg base 1 (f_l_at K) ["_law_m", "_law_name"] [] sp_lat := by
  obtain ⟨fd, F⟩ := T.d_l_at
  refine ⟨⟨fd, [], F.ok sc_l_at (fun vs H Q E h => ?_) (fun cdv A outer s H vs Q E hr h => ?_), F.bindsN fun _ _ _ _ _ _ us hl => match us, hl with | [_, _], _ => rfl, .nil⟩, F.kp⟩
  · obtain ⟨z, ⟨H0, a, s, lg, ra, n, rfl, _⟩, _⟩ := h
    rfl
  · obtain ⟨z, ⟨H0, a, s, lg, ra, n, rfl, m, rfl⟩, k⟩ := h
    refine ⟨_, (PSs.nox (pss_one (ps_ret (pe_dget1 (hu_of hr) (pe_dget (hu_of hr) (pv 0) pe_str (fun _ _ => rfl)) (pv 1) ⟨rfl, rfl, rfl, rfl⟩)))), ?_⟩
    exact s_ret (ev_is (ev_dget1 (k := Sum.inr n) (m.evB (ev_var rfl)) m.board (ev_var rfl)) (valV_lb n s.board)) k
def sp_lmade : Sp := fun vs H Q _ => ∃ H0 a s lg ra k l, vs = [.ref a.M, .str k, .str l] ∧ Lw H0 H a s lg ra ∧ s.rows.length ≤ 5000 ∧ s.log.length ≤ 5000 ∧ ∀ H' lg' ra', Lw H0 H' a (made s k l) lg' ra' → Q (.int (s.rows.length : Int)) H'
theorem ok_l_made (T : Tx w K mg) : FOk PW w K mg base 1 (f_l_made K) ["_law_m", "_law_one", "_law_text"] [] sp_lmade := by
  obtain ⟨fd, F⟩ := T.d_l_made
  refine ⟨⟨fd, [], F.ok sc_l_made (fun vs H Q E h => ?_) (fun cdv A outer s H vs Q E hr h => ?_), F.bindsN fun _ _ _ _ _ _ us hl => match us, hl with | [_, _, _], _ => rfl, .nil⟩, F.kp⟩
  · obtain ⟨H0, a, s, lg, ra, kd, lb, rfl, _⟩ := h
    rfl
  · obtain ⟨H0, a, s, lg, ra, kd, lb, rfl, m, hr1, hl1, k⟩ := h
    refine ⟨_, (PSs.nox (pss_cons (ps_expr (pe_bm PySem.F.plainAttrs_list PySem.F.slot_list_append PySem.F.type_list_append mt_append (pe_dget (hu_of hr) (pv 0) pe_str (fun _ _ => rfl)) (pa_cons (pe_lst (pa_cons (pv 1) (pa_cons (pv 2) (pa_cons pe_non (pa_cons pe_non (pa_cons pe_bl pa_nil)))))) pa_nil))) (pss_cons (ps_expr (pe_bm PySem.F.plainAttrs_list PySem.F.slot_list_append PySem.F.type_list_append mt_append (pe_dget (hu_of hr) (pv 0) pe_str (fun _ _ => rfl)) (pa_cons (pe_tup (pa_cons pe_str (pa_cons (pe_op op_sub (pe_callB call_len rfl T.z_len boot_len (pa_cons (pe_dget (hu_of hr) (pv 0) pe_str (fun _ _ => rfl)) pa_nil)) pe_int) (pa_cons (pv 1) (pa_cons (pv 2) pa_nil))))) pa_nil))) (pss_one (ps_ret (pe_op op_sub (pe_callB call_len rfl T.z_len boot_len (pa_cons (pe_dget (hu_of hr) (pv 0) pe_str (fun _ _ => rfl)) pa_nil)) pe_int)))))), ?_⟩
    refine q_appL (ys := lrow ⟨kd, lb, none, none, false⟩) m.rowl (m.evR (ev_var rfl)) (el_lst (ea_cons (ev_var rfl) (ea_cons (ev_var rfl) (ea_cons ev_c (ea_cons ev_c (ea_cons ev_c ea_nil))))) (show 5 ≤ 100000 by decide)) (by rw [List.length_map, m.len]; omega) fun p H1 hp e1 h1 => ?_
    have m1 := m.newRow (r := ⟨kd, lb, none, none, false⟩) e1 hp h1
    have hn : ((s.rows ++ [(⟨kd, lb, none, none, false⟩ : FR)]).length : Int) - 1 = (s.rows.length : Int) := by rw [List.length_append, List.length_singleton]; omega
    refine q_appU (ys := evV (.fault s.rows.length kd lb)) m1.logl (m1.evL (ev_var rfl)) (eu_tup (ea_cons ev_c (ea_cons (ev_is (ev_op (m1.lenR (ev_var rfl)) ev_c rv_I0) (congrArg V.int hn)) (ea_cons (ev_var rfl) (ea_cons (ev_var rfl) ea_nil)))) (show 4 ≤ 100000 by decide)) (by rw [m1.log.len]; show s.log.length < _; omega) fun q H2 hq e2 h2 => ?_
    have m2 := (m1.grow e2).setLog (e := .fault s.rows.length kd lb) h2
    exact s_ret (D := { nx := fun _ H' => Q .non H', rt := Q }) (ev_is (ev_op (m2.lenR (ev_var rfl)) ev_c rv_I0) (congrArg V.int hn)) fun H3 e3 => k H3 _ _ (m2.grow e3)
end
end L2.EX
namespace L2.EX
open PySem PySem.Spec PyProof.Rows Evl
/-! The law's own raising. -/
theorem dec_int {i j : Nat} : decide (V.int (i : Int) = V.int (j : Int)) = decide (i = j) := decide_eq_decide.mpr ⟨fun z => by have := V.int.inj z; omega, fun z => by rw [z]⟩
theorem s_asgX {te : TE} {g : TG} {D : Ends} {σ : L2.St} {H : Hp} (h : te σ H fun x H1 => g x σ H1 D.nx) : tAsg te g D σ H := h
theorem setCtx_at {rows : List FR} {i : Nat} {r : FR} {c : Option Nat} (h : rows[i]? = some r) : setCtx rows i c = rows.set i { r with ctx := c } := modify_set h
theorem setCtx_none {rows : List FR} {i : Nat} (h : ctxOf rows i = none) : setCtx rows i none = rows := by
  refine List.ext_getElem? fun j => ?_
  unfold setCtx
  rw [List.getElem?_modify]
  by_cases e : i = j
  · subst e
    cases q : rows[i]? with
    | none => rfl
    | some r =>
      have : r.ctx = none := by unfold ctxOf at h; rw [q] at h; exact h
      simp
      cases r
      cases this
      rfl
  · simp [e]
section
variable {K : Frg} {σ : L2.St} {H H' H0 : Hp} {tM ti : TE} {a : LA} {s : PS} {lg : List V} {ra : List Addr}
theorem Lw.handT (m : Lw H0 H a s lg ra) (h : Evl.Ev tM σ H (.ref a.M)) : EvT (tTest (tOp (rLE K true) (tDGet tM (tC (.str "hand"))) (tLst tNil))) σ H (!s.hand.isEmpty) :=
  et_test (ev_is (ev_opL (m.evH h) (el_lst ea_nil (Nat.zero_le _)) fun q' H8 h8 e8 => rv_neL (sq_of ((m.grow e8).hand)) (sq_of h8)) (by cases s.hand <;> rfl))
theorem Lw.handLast (m : Lw H0 H a s lg ra) {g : Nat} (hg : s.hand.getLast? = some g) (h : Evl.Ev tM σ H (.ref a.M)) : Evl.Ev (tOp (rIxL K) (tDGet tM (tC (.str "hand"))) (tUn (rU fun i => .int (-i)) (tC (.int 1)))) σ H (.int (g : Int)) := by
  obtain ⟨ys, ey⟩ := List.getLast?_eq_some_iff.mp hg
  have hl : lhV s.hand = lhV ys ++ [.int (g : Int)] := by rw [ey]; unfold lhV; rw [List.map_append]; rfl
  exact ev_op (m.evH h) (ev_un ev_c ru_neg) (rv_ixL (sq_of m.hand) (by rw [hl]; exact atI_last _ _))
end
/-- an ending of the law's own run -/
def LEnd (H : Hp) (v : V) : Option Nat → Prop
  | none => ∃ p, v = .ref p ∧ H p = some (.tup [.str "end", .non])
  | some f => ∃ p, v = .ref p ∧ H p = some (.tup [.str "fault", .int (f : Int)])
theorem LEnd.tp {H H' : Hp} (e : TP H H') {v : V} {o : Option Nat} (h : LEnd H v o) : LEnd H' v o := by
  cases o with
  | none => obtain ⟨p, e1, e2⟩ := h; exact ⟨p, e1, e _ _ e2⟩
  | some f => obtain ⟨p, e1, e2⟩ := h; exact ⟨p, e1, e _ _ e2⟩
section
variable {w : World} {K : Frg} {mg : Str → Option Value} {base : Heap}
def sp_lraised : Sp := fun vs H Q _ => ∃ H0 a s lg ra f, vs = [.ref a.M, .int ((f : Nat) : Int)] ∧ Lw H0 H a s lg ra ∧ f < s.rows.length ∧ (∀ g ∈ s.hand, g < s.rows.length) ∧ (∀ i c, ctxOf s.rows i = some c → c < s.rows.length) ∧ (∃ r : Nat → Nat, ∀ i c, ctxOf s.rows i = some c → r c < r i) ∧
  ∀ H' v, Lw H0 H' a (raised s f) lg ra → LEnd H' v (some f) → Q v H'
theorem ok_l_raised (T : Tx w K mg) : FOk PW w K mg base 1 (f_l_raised K) ["_law_m", "_law_f"] [] sp_lraised := by
  obtain ⟨fd, F⟩ := T.d_l_raised
  refine ⟨⟨fd, [], F.ok sc_l_raised (fun vs H Q E h => ?_) (fun cdv A outer s H vs Q E hr h => ?_), F.bindsN fun _ _ _ _ _ _ us hl => match us, hl with | [_, _], _ => rfl, .nil⟩, F.kp⟩
  · obtain ⟨H0, a, s, lg, ra, f, rfl, _⟩ := h
    rfl
  · obtain ⟨H0, a, s, lg, ra, f, rfl, m, hf, hh, hc, ⟨rk, hrk⟩, k⟩ := h
    refine ⟨_, (PSs.nox (pss_cons (ps_set (i := 2) sc_l_raised.nd rfl (Or.inl rfl) (pe_ifExp (pt_cmpR (op_neLE hr.units0) (pe_dget (hu_of hr) (pv 0) pe_str (fun _ _ => rfl)) (pe_lst pa_nil) (nomark _)) (pe_ix ix_list (pe_dget (hu_of hr) (pv 0) pe_str (fun _ _ => rfl)) (pe_un un_neg pe_int) (fun _ _ => rfl)) pe_non)) (pss_cons (ps_if (PW.pt (pw_and (pt_cmpR op_notN (pv 2) pe_non (nomark _)) (pw_and1 (pt_cmpR op_ne (pv 2) (pv 1) (nomark _))))) (pss_cons (ps_set (i := 3) sc_l_raised.nd rfl (Or.inl rfl) (pv 2)) (pss_cons (ps_while PassesOwn.never (pt_cmpR op_notN (pv 3) pe_non (nomark _)) (pss_cons (ps_set (i := 4) sc_l_raised.nd rfl (Or.inl rfl) (pe_ix ix_list (pe_ix ix_list (pe_dget (hu_of hr) (pv 0) pe_str (fun _ _ => rfl)) (pv 3) (fun _ _ => rfl)) pe_int (fun _ _ => rfl))) (pss_cons (ps_if (pt_cmpR op_eq (pv 4) (pv 1) (nomark _)) (pss_one (ps_asg pe_non (pg_sub (pe_ix ix_list (pe_dget (hu_of hr) (pv 0) pe_str (fun _ _ => rfl)) (pv 3) (fun _ _ => rfl)) pe_int set_list (fun _ => rfl)))) pss_nil) (pss_one (ps_set (i := 3) sc_l_raised.nd rfl (Or.inl rfl) (pe_ifExp (pt_cmpR op_eq (pv 4) (pv 1) (nomark _)) pe_non (pv 4))))))) (pss_one (ps_asg (pv 2) (pg_sub (pe_ix ix_list (pe_dget (hu_of hr) (pv 0) pe_str (fun _ _ => rfl)) (pv 1) (fun _ _ => rfl)) pe_int set_list (fun _ => rfl)))))) pss_nil) (pss_one (ps_ret (pe_tup (pa_cons pe_str (pa_cons (pv 1) pa_nil)))))))), ?_⟩
    have fin : ∀ {σ' H'}, σ'[1]? = some (some (V.int ((f : Nat) : Int))) → Lw H0 H' a (raised s f) lg ra → tRet (tTup (tCons (tC (.str "fault")) (tCons (tVar 1) tNil))) { nx := fun _ H' => Q .non H', rt := Q } σ' H' := fun {σ' H'} h1 m1 =>
      s_retU (eu_tup (ea_cons ev_c (ea_cons (ev_var h1) ea_nil)) (show 2 ≤ 100000 by decide)) fun p H2 _ e2 h2 => k H2 (.ref p) (m1.grow e2) ⟨p, rfl, h2⟩
    refine q_asg (v := oN s.hand.getLast?) ?_ fun H1 e1 => ?_
    · cases hg : s.hand.getLast? with
      | none =>
        have hn := List.getLast?_eq_none_iff.mp hg
        exact ev_if (b := false) (et_is (m.handT (ev_var rfl)) (by rw [hn]; rfl)) (fun q => Bool.noConfusion q) fun _ => ev_c
      | some g =>
        exact ev_if (b := true) (et_is (m.handT (ev_var rfl)) (by cases hs : s.hand with | nil => rw [hs] at hg; cases hg | cons x y => rfl)) (fun _ => m.handLast hg (ev_var rfl)) fun q => Bool.noConfusion q
    · have m1 := m.grow e1
      have eru := raised_under s f
      cases hg : s.hand.getLast? with
      | none =>
        rw [hg] at eru
        refine q_when (b := false) (et_and (a := false) (b := false) (et_test (ev_op (ev_var rfl) ev_c rv_notN)) fun q => Bool.noConfusion q) (fun q => Bool.noConfusion q) fun _ H2 e2 => fin rfl ?_
        rw [eru]
        exact m1.grow e2
      | some h =>
        rw [hg] at eru
        have hhl := hh h (List.mem_of_getLast? hg)
        refine q_when (b := !decide (h = f)) (et_is (et_and (a := true) (b := !decide (h = f)) (et_test (ev_op (ev_var rfl) ev_c rv_notN)) fun _ => et_test (ev_is (ev_op (ev_var rfl) (ev_var rfl) (rv_ne rfl)) (congrArg (fun b => V.bl (!b)) dec_int))) (Bool.true_and _)) (fun q H2 e2 => ?_) (fun q H2 e2 => ?_)
        · have nhf : h ≠ f := fun z => by rw [decide_eq_true z] at q; exact Bool.noConfusion q
          have m2 := m1.grow e2
          obtain ⟨e, he⟩ := endp_ex (f := f) hrk (rk h) h (Nat.le_refl _)
          have hel := he.lt hc hhl
          have nef : e ≠ f := (he.on On.head).ne nhf
          obtain ⟨rf, ef⟩ := row_at hf
          refine q_asg (ev_var rfl) fun H3 e3 => ?_
          refine q_while (fun n σ' H' => (∃ i o, σ' = [some (.ref a.M), some (.int ((f : Nat) : Int)), some (.int ((h : Nat) : Int)), some (.int ((i : Nat) : Int)), o] ∧ Lw H0 H' a s lg ra ∧ n = rk i + 1 ∧ EndP s.rows f i e ∧ i < s.rows.length) ∨
            (∃ o, n = 0 ∧ σ' = [some (.ref a.M), some (.int ((f : Nat) : Int)), some (.int ((h : Nat) : Int)), some .non, o] ∧ Lw H0 H' a { s with rows := setCtx s.rows e none } lg ra)) (rk h + 1) (.inl ⟨h, none, rfl, m2.grow e3, rfl, he, hhl⟩) ?_
          rintro n σ' H' (⟨i, o, rfl, m3, rfl, hi, hil⟩ | ⟨o, rfl, rfl, m3⟩)
          · refine ⟨true, et_test (ev_op (ev_var rfl) ev_c rv_notN), fun _ H4 e4 => ⟨_, fun σ2 H2 n => n, ?_⟩, fun q => Bool.noConfusion q⟩
            have m4 := m3.grow e4
            obtain ⟨ri, ei⟩ := row_at hil
            have cx : ctxOf s.rows i = ri.ctx := by unfold ctxOf; rw [ei]; rfl
            refine q_asg (v := oN ri.ctx) (ev_op (m4.evI hil (ev_var rfl) (ev_var rfl)) ev_c (rv_ixL (sq_of (m4.row ei)) (atI_nat (j := 2) rfl))) fun H5 e5 => ?_
            have m5 := m4.grow e5
            cases hcx : ri.ctx with
            | none =>
              rw [hcx] at cx
              have hie : i = e := by
                cases hi with
                | stop _ => rfl
                | go q2 _ _ => rw [cx] at q2; cases q2
              refine q_when (b := false) (et_test (ev_op (ev_var rfl) (ev_var rfl) (rv_eq rfl))) (fun q => Bool.noConfusion q) fun _ H6 e6 => ?_
              refine s_asg (v := .non) (ev_if (b := false) (et_test (ev_op (ev_var rfl) (ev_var rfl) (rv_eq rfl))) (fun q => Bool.noConfusion q) fun _ => ev_var rfl) fun H7 e7 => ⟨0, by omega, .inr ⟨_, rfl, rfl, ?_⟩⟩
              have es : setCtx s.rows e none = s.rows := setCtx_none (by rw [← hie]; exact cx)
              rw [es]
              exact (m5.grow e6).grow e7
            | some c =>
              rw [hcx] at cx
              have tst : ∀ {H6}, EvT (tTest (tOp rEq (tVar 4) (tVar 1))) [some (.ref a.M), some (.int ((f : Nat) : Int)), some (.int ((h : Nat) : Int)), some (.int ((i : Nat) : Int)), some (oN (some c))] H6 (decide (c = f)) := et_test (ev_is (ev_op (ev_var rfl) (ev_var rfl) (rv_eq rfl)) (congrArg V.bl dec_int))
              refine q_when (b := decide (c = f)) tst (fun q H6 e6 => ?_) fun q H6 e6 => ?_
              · have hcf := of_decide_eq_true q
                have m6 := m5.grow e6
                have hie : i = e := by
                  cases hi with
                  | stop _ => rfl
                  | go q2 n _ => rw [cx] at q2; exact absurd ((Option.some.inj q2).symm.trans hcf) n
                refine s_asgX (ev_c H6 (Ex.refl _) _ fun H7 e7 => ?_)
                have m7 := m6.grow e7
                refine g_lset (n := 2) (m7.evI hil (ev_var rfl) (ev_var rfl)) ev_c (m7.row ei) rfl fun H8 e8 => ?_
                have m8 : Lw H0 (upd H8 (ra.getD i 0) (.lst (lrow { ri with ctx := none }))) a { s with rows := s.rows.set i { ri with ctx := none } } lg ra := (m7.grow e8).setRow ei
                refine s_asg (v := .non) (ev_if (b := true) (et_is tst q) (fun _ => ev_c) fun q => Bool.noConfusion q) fun H9 e9 => ⟨0, by omega, .inr ⟨_, rfl, rfl, ?_⟩⟩
                rw [← hie, setCtx_at ei]
                exact m8.grow e9
              · have ncf : c ≠ f := of_decide_eq_false q
                have hi2 : EndP s.rows f c e := by
                  cases hi with
                  | stop q2 =>
                    rcases q2 with q2 | q2
                    · rw [cx] at q2; cases q2
                    · rw [cx] at q2; exact absurd (Option.some.inj q2) ncf
                  | go q2 _ t => rw [cx] at q2; cases q2; exact t
                refine s_asg (v := .int ((c : Nat) : Int)) (ev_if (b := false) (et_is tst q) (fun q => Bool.noConfusion q) fun _ => ev_var rfl) fun H7 e7 => ⟨rk c + 1, Nat.succ_lt_succ (hrk i c cx), .inl ⟨c, _, rfl, (m5.grow e6).grow e7, rfl, hi2, hc i c cx⟩⟩
          · refine ⟨false, et_test (ev_op (ev_var rfl) ev_c rv_notN), fun q => Bool.noConfusion q, fun _ H4 e4 => ?_⟩
            have m4 := m3.grow e4
            have ef' : (setCtx s.rows e none)[f]? = some rf := by
              unfold setCtx
              rw [List.getElem?_modify, ef]
              simp [nef]
            refine s_asgX (ev_var rfl H4 (Ex.refl _) _ fun H7 e7 => ?_)
            have m7 := m4.grow e7
            refine g_lset (n := 2) (m7.evI (by show f < (setCtx s.rows e none).length; rw [len_setCtx]; exact hf) (ev_var rfl) (ev_var rfl)) ev_c (m7.row ef') rfl fun H8 e8 => ?_
            have m8 : Lw H0 (upd H8 (ra.getD f 0) (.lst (lrow { rf with ctx := some h }))) a { s with rows := (setCtx s.rows e none).set f { rf with ctx := some h } } lg ra := (m7.grow e8).setRow ef'
            refine fin rfl ?_
            have eu : under s.rows f (some h) = (setCtx s.rows e none).set f { rf with ctx := some h } := by
              show (if h = f then s.rows else setCtx (setCtx s.rows (endp s.rows f h) none) f (some h)) = _
              rw [if_neg nhf, endp_eq he, setCtx_at ef']
            rw [eru, eu]
            exact m8
        · have hhf : h = f := by
            by_cases z : h = f
            · exact z
            · rw [decide_eq_false z] at q; exact Bool.noConfusion q
          refine fin rfl ?_
          have eu : under s.rows f (some h) = s.rows := by
            show (if h = f then s.rows else _) = _
            rw [if_pos hhf]
          rw [eru, eu]
          exact m1.grow e2
end
end L2.EX
namespace L2.EX
open PySem PySem.Spec PyProof.Rows Evl
/-! The law's own statements that raise. -/
section
variable {K : Frg} {σ : L2.St} {H H' : Hp} {ta tb : TE} {t : TT} {xs ys : List V}
theorem el_cat (h1 : EvL ta σ H xs) (h2 : EvL tb σ H ys) (hl : xs.length + ys.length ≤ 100000) : EvL (tOp rCat ta tb) σ H (xs ++ ys) := fun H1 e Q q => h1 H1 e _ fun p H2 hp e2 hp2 => h2 H2 (e.trans e2) _ fun p' H3 hp' e3 h3 =>
  ⟨p, p', xs, ys, rfl, rfl, e3 _ _ hp2, h3, sz_le hl, fun r hr => q r _ (fresh_back (e2.trans e3) hr) ((e2.trans e3).trans (Ex.new hr)) upd_same⟩
theorem el_if {b : Bool} (h : EvT t σ H b) (h1 : b = true → EvL ta σ H xs) (h2 : b = false → EvL tb σ H xs) : EvL (tIf t ta tb) σ H xs := fun H1 e Q q => h H1 e _ fun H2 e2 => by
  cases b with
  | true =>
    show ta σ H2 Q
    exact h1 rfl H2 (e.trans e2) Q fun p H3 hp e3 h3 => q p H3 (fresh_back e2 hp) (e2.trans e3) h3
  | false =>
    show tb σ H2 Q
    exact h2 rfl H2 (e.trans e2) Q fun p H3 hp e3 h3 => q p H3 (fresh_back e2 hp) (e2.trans e3) h3
theorem s_asgTT {te : TE} {n : Nat} {ts : TGs} {vs : List V} {D : Ends} (h : EvU te σ H vs) (hn : vs.length = n) (k : ∀ H1, Ex H H1 → ts vs σ H1 D.nx) : tAsg te (gTup K n ts) D σ H := h H (Ex.refl H) _ fun p H1 _ e1 h1 => ⟨p, vs, rfl, st_of h1, hn, k H1 e1⟩
theorem el_is (h : EvL ta σ H xs) (e : xs = ys) : EvL ta σ H ys := by rw [← e]; exact h
theorem eu_is (h : EvU ta σ H xs) (e : xs = ys) : EvU ta σ H ys := by rw [← e]; exact h
theorem rv_neTE {p q : Addr} (h : SqT K H p xs) (h2 : SqT K H q []) : RV (rTE K true) (.ref p) (.ref q) H (.bl (!xs.isEmpty)) := fun H1 e _ k => ⟨p, q, xs, rfl, rfl, ex_t e h, ex_t e h2, k H1 (Ex.refl H1)⟩
end
/-- the names of a source -/
def srcN : Option (Option Str) → List Str
  | some (some n) => [n]
  | _ => []
theorem srcN_len (src : Option (Option Str)) : (srcN src).length ≤ 1 := by
  cases src with
  | none => exact Nat.zero_le _
  | some o => cases o <;> simp [srcN]
theorem srcV_len (src : Option (Option Str)) : (srcV src).length ≤ 1 := by cases src <;> simp [srcV]
def needN : Sim → List Str
  | .raise _ _ src => srcN src
  | .throw n src => n :: srcN src
  | _ => []
def srcF (src : Option (Option Str)) (_ : Nat) : Bool := (src.bind id).isSome
def srcG (src : Option (Option Str)) (_ : Nat) : V := oV (src.bind id)
theorem src_given (src : Option (Option Str)) : given (srcV src).length (srcF src) (srcG src) = (srcN src).map V.str := by
  cases src with
  | none => rfl
  | some o => cases o <;> rfl
theorem need_fail {x : Sim} {s : PS} {i : Nat} {n : Str} (hn : (needN x)[i]? = some n) (hb : ∀ j n', j < i → (needN x)[j]? = some n' → (bget s.board n').isSome = true) (h : bget s.board n = none) : execS x s = fail s "Name" n := by
  have mis : ∀ {src : Option (Option Str)} {j : Nat}, (srcN src)[j]? = some n → missing s.board src = some n := fun {src j} hj => by
    cases src with
    | none => cases hj
    | some o =>
      cases o with
      | none => cases hj
      | some n' =>
        cases j with
        | succ j => cases hj
        | zero =>
          have : n' = n := Option.some.inj hj
          subst this
          show (if (bget s.board n').isSome = true then none else some n') = some n'
          rw [h]
          rfl
  cases x with
  | note i => cases hn
  | again => cases hn
  | raise kd lb src =>
    show (match missing s.board src with | some n => fail s "Name" n | none => finR (made s kd lb) s.rows.length src) = _
    rw [mis hn]
  | throw m src =>
    show (match bget s.board m with | none => fail s "Name" m | some f => (match missing s.board src with | some m => fail s "Name" m | none => finR s f src)) = _
    cases i with
    | zero =>
      have : m = n := Option.some.inj hn
      subst this
      rw [h]
    | succ i =>
      have := hb 0 m (Nat.succ_pos i) rfl
      cases q : bget s.board m with
      | none => rw [q] at this; cases this
      | some f =>
        show (match missing s.board src with | some m => fail s "Name" m | none => finR s f src) = _
        rw [mis (j := i) hn]
theorem need_mis {src : Option (Option Str)} {b : List (Str × Nat)} (h : ∀ n ∈ srcN src, (bget b n).isSome = true) : missing b src = none := by
  cases src with
  | none => rfl
  | some o =>
    cases o with
    | none => rfl
    | some n =>
      show (if (bget b n).isSome = true then none else some n) = none
      rw [if_pos (h n (List.mem_singleton.mpr rfl))]
section
variable {w : World} {K : Frg} {mg : Str → Option Value} {base : Heap}
def sp_lraising : Sp := fun vs H Q _ => ∃ H0 a s lg ra x p, vs = [.ref a.M, .ref p] ∧ Lw H0 H a s lg ra ∧ H p = some (.tup (simV x)) ∧ x.hot = true ∧ WF 1 0 s ∧ s.steps ≤ 1000 ∧
  ∀ H' lg' ra' v, Lw H0 H' a (execS x s).2 lg' ra' → LEnd H' v (execS x s).1 → Q v H'
theorem ok_l_raising (T : Tx w K mg) (F_l_at : FOk PW w K mg base 1 (f_l_at K) ["_law_m", "_law_name"] [] sp_lat) (F_l_made : FOk PW w K mg base 1 (f_l_made K) ["_law_m", "_law_one", "_law_text"] [] sp_lmade) (F_l_raised : FOk PW w K mg base 1 (f_l_raised K) ["_law_m", "_law_f"] [] sp_lraised) :
    FOk PW w K mg base 2 (f_l_raising K) ["_law_m", "_law_s"] [] sp_lraising := by
  obtain ⟨fd, F⟩ := T.d_l_raising
  refine ⟨⟨fd, [], F.ok sc_l_raising (fun vs H Q E h => ?_) (fun cdv A outer s H vs Q E hr h => ?_), F.bindsN fun _ _ _ _ _ _ us hl => match us, hl with | [_, _], _ => rfl, .nil⟩, F.kp⟩
  · obtain ⟨H0, a, s, lg, ra, x, p, rfl, _⟩ := h
    rfl
  · obtain ⟨H0, a, s, lg, ra, x, p, rfl, m, hp, hot, wf, hst, k⟩ := h
    refine ⟨_, (PSs.nox (pss_cons (ps_if (pt_cmpR op_eq (pe_ix ix_tup (pv 1) pe_int (fun _ _ => rfl)) pe_str (nomark _)) (pss_one (ps_ret (pe_ifExp (pt_cmpR (op_neLE hr.units0) (pe_dget (hu_of hr) (pv 0) pe_str (fun _ _ => rfl)) (pe_lst pa_nil) (nomark _)) (pe_tup (pa_cons pe_str (pa_cons (pe_ix ix_list (pe_dget (hu_of hr) (pv 0) pe_str (fun _ _ => rfl)) (pe_un un_neg pe_int) (fun _ _ => rfl)) pa_nil))) (pk_call F_l_raised hr rfl T.g_l_raised (pa_cons (pv 0) (pa_cons (pk_call F_l_made hr rfl T.g_l_made (pa_cons (pv 0) (pa_cons pe_str (pa_cons pe_str pa_nil)))) pa_nil)))))) pss_nil) (pss_cons (ps_set (i := 2) sc_l_raising.nd rfl (Or.inl rfl) (pe_ifExp (pt_cmpR op_eq (pe_ix ix_tup (pv 1) pe_int (fun _ _ => rfl)) pe_str (nomark _)) (pe_slice sl_tupA (pv 1) (po_some pe_int) po_none) (pe_slice sl_tupA (pv 1) (po_some pe_int) po_none))) (pss_cons (ps_set (i := 3) sc_l_raising.nd rfl (Or.inl rfl) (pe_op op_cat (pe_ifExp (pt_cmpR op_eq (pe_ix ix_tup (pv 1) pe_int (fun _ _ => rfl)) pe_str (nomark _)) (pe_lst pa_nil) (pe_lst (pa_cons (pe_ix ix_tup (pv 1) pe_int (fun _ _ => rfl)) pa_nil))) (pe_lc (own := [("_law_name", 4)]) (g := gName 4) rfl sc_l_raising.nd (pi_tup (pv 2)) (blkOk_by (own := [("_law_name", 4)]) (N := ["_law_m", "_law_s", "_law_far", "_law_needed", "_law_name", "_law_f"]) (sc := (defScope s_l_raising)) (by decide +kernel)) (fun _ _ _ _ _ => pg_name (i := 4) sc_l_raising.nd rfl (Or.inl rfl)) (fun _ _ _ _ _ => pts_one (pt_cmpR op_notN (pv 4) pe_non (nomark _))) (fun _ _ _ _ _ => (pv 4))))) (pss_cons (ps_for PassesOwn.never rfl (pi_list (pv 3)) (pg_name (i := 4) sc_l_raising.nd rfl (Or.inl rfl)) (pss_one (ps_if (pt_cmpR op_isN (pk_call F_l_at hr rfl T.g_l_at (pa_cons (pv 0) (pa_cons (pv 4) pa_nil))) pe_non (nomark _)) (pss_one (ps_ret (pk_call F_l_raised hr rfl T.g_l_raised (pa_cons (pv 0) (pa_cons (pk_call F_l_made hr rfl T.g_l_made (pa_cons (pv 0) (pa_cons pe_str (pa_cons (pv 4) pa_nil)))) pa_nil))))) pss_nil))) (Evl.pss_cut (ps_set (i := 5) sc_l_raising.nd rfl (Or.inl rfl) (pe_ifExp (pt_cmpR op_eq (pe_ix ix_tup (pv 1) pe_int (fun _ _ => rfl)) pe_str (nomark _)) (pk_call F_l_made hr rfl T.g_l_made (pa_cons (pv 0) (pa_cons (pe_ix ix_tup (pv 1) pe_int (fun _ _ => rfl)) (pa_cons (pe_ix ix_tup (pv 1) pe_int (fun _ _ => rfl)) pa_nil)))) (pk_call F_l_at hr rfl T.g_l_at (pa_cons (pv 0) (pa_cons (pe_ix ix_tup (pv 1) pe_int (fun _ _ => rfl)) pa_nil))))) (pss_cons (ps_if (pt_cmpR (op_neTE hr.units0) (pv 2) (pe_tup pa_nil) (nomark _)) (pss_one (ps_asg (pe_tup (pa_cons (pe_ifExp (pt_cmpR op_isN (pe_ix ix_tup (pv 2) pe_int (fun _ _ => rfl)) pe_non (nomark _)) pe_non (pk_call F_l_at hr rfl T.g_l_at (pa_cons (pv 0) (pa_cons (pe_ix ix_tup (pv 2) pe_int (fun _ _ => rfl)) pa_nil)))) (pa_cons pe_bl pa_nil))) (pg_tup rfl (pgs_cons (pg_sub (pe_ix ix_list (pe_dget (hu_of hr) (pv 0) pe_str (fun _ _ => rfl)) (pv 5) (fun _ _ => rfl)) pe_int set_list (fun _ => rfl)) (pgs_cons (pg_sub (pe_ix ix_list (pe_dget (hu_of hr) (pv 0) pe_str (fun _ _ => rfl)) (pv 5) (fun _ _ => rfl)) pe_int set_list (fun _ => rfl)) pgs_nil))))) pss_nil) (pss_one (ps_ret (pk_call F_l_raised hr rfl T.g_l_raised (pa_cons (pv 0) (pa_cons (pv 5) pa_nil)))))))))))), ?_⟩
    have hrl : s.rows.length ≤ 5000 := by have := wf.nr; omega
    have hll : s.log.length ≤ 5000 := by have := wf.nl; omega
    -- raised(m, made(m, ..))
    have failed : ∀ {H1 σ' tk tn} (kd n : Str), Ex H H1 → σ'[0]? = some (some (.ref a.M)) → Evl.Ev tk σ' H1 (.str kd) → Evl.Ev tn σ' H1 (.str n) → execS x s = fail s kd n → (tCall (free sp_lraised) [] E0 (tCons (tVar 0) (tCons (tCall (free sp_lmade) [] E0 (tCons (tVar 0) (tCons tk (tCons tn tNil)))) tNil))) σ' H1 Q := fun {H1 σ' tk tn} kd n e1 h0 hk hn hx => by
      rw [hx] at k
      refine ax_cons (ev_var h0) fun H3 e3 => l_cons (x_call (ea_cons (ev_var h0) (ea_cons (hk.mono e3) (ea_cons (hn.mono e3) ea_nil))) fun H4 e4 => ?_)
      have wm := wf.made kd n
      exact ⟨H0, a, s, lg, ra, kd, n, rfl, m.grow ((e1.trans e3).trans e4), hrl, hll, fun H5 lg' ra' m5 _ => ax_nil ⟨H0, a, made s kd n, lg', ra', s.rows.length, rfl, m5, by rw [made_len]; omega, wm.hnd, wm.ctx, wm.rnk, fun H6 v m6 le _ => k H6 lg' ra' v m6 le⟩⟩
    have it : ∀ {H1 σ'} (j : Nat) {v}, Ex H H1 → σ'[1]? = some (some (.ref p)) → (simV x)[j]? = some v → Evl.Ev (tOp (rIxT K) (tVar 1) (tC (.int (j : Nat)))) σ' H1 v := fun {H1 σ'} j {v} e1 h1 h2 => ev_op (ev_var h1) ev_c (rv_ixT (st_of (e1 _ _ hp)) (atI_nat (j := j) h2))
    have at_ : ∀ {H1 σ' tn n}, Ex H H1 → σ'[0]? = some (some (.ref a.M)) → Evl.Ev tn σ' H1 (.str n) → Evl.Ev (tCall (free sp_lat) [] E0 (tCons (tVar 0) (tCons tn tNil))) σ' H1 (oN (bget s.board n)) := fun {H1 σ' tn n} e1 h0 h1 => ev_call (ea_cons (ev_var h0) (ea_cons h1 ea_nil)) (pur_v fun H3 e3 => ⟨H0, a, s, lg, ra, n, rfl, m.grow (e1.trans e3), rfl⟩)
    -- the loop over the needed names
    have loop : ∀ {H1 pf pn tz} {D : Ends} , D.rt = Q → Ex H H1 → H1 pn = some (.lst ((needN x).map V.str)) → (∀ H2 o, Ex H1 H2 → (∀ n ∈ needN x, (bget s.board n).isSome = true) → tz D [some (.ref a.M), some (.ref p), some (.ref pf), some (.ref pn), o, none] H2) →
        tSeq (tFor (iList K (tVar 3)) (gName 4) (tIfS (tTest (tOp (fun x y H Q => y = .non ∧ Q (.bl (decide (x = .non))) H) (tCall (free sp_lat) [] E0 (tCons (tVar 0) (tCons (tVar 4) tNil))) (tC .non))) (tRet (tCall (free sp_lraised) [] E0 (tCons (tVar 0) (tCons (tCall (free sp_lmade) [] E0 (tCons (tVar 0) (tCons (tC (.str "Name")) (tCons (tVar 4) tNil)))) tNil)))) tNext)) tz D [some (.ref a.M), some (.ref p), some (.ref pf), some (.ref pn), none, none] H1 := fun {H1 pf pn tz D} hD e1 hn kz => by
      refine q_forLn (xs := (needN x).map V.str) (ev_var rfl) (sq_of hn) (fun i σ' H' => ∃ o, σ' = [some (.ref a.M), some (.ref p), some (.ref pf), some (.ref pn), o, none] ∧ Ex H1 H' ∧ ∀ j n, j < i → (needN x)[j]? = some n → (bget s.board n).isSome = true) (fun H2 e2 => ⟨none, rfl, e2, fun j n hj => absurd hj (Nat.not_lt_zero _)⟩) (fun i σ' H' _ ⟨_, _, e2, _⟩ => sq_of (e2 _ _ hn)) (fun i y σ' H' hy pv => ?_) fun σ' H' pv => ?_
      · obtain ⟨o, rfl, e2, hb⟩ := pv
        rw [List.getElem?_map] at hy
        obtain ⟨n, hn1, rfl⟩ := Option.map_eq_some_iff.mp hy
        show tIfS _ _ _ _ [some (.ref a.M), some (.ref p), some (.ref pf), some (.ref pn), some (.str n), none] H'
        refine s_when (b := decide (oN (bget s.board n) = .non)) (et_test (ev_op (at_ (e1.trans e2) rfl (ev_var rfl)) ev_c rv_isN)) (fun q H3 e3 => ?_) fun q H3 e3 => ⟨_, rfl, e2.trans e3, fun j n' hj hn' => ?_⟩
        · have hq := of_decide_eq_true q
          have hbn : bget s.board n = none := by
            cases z : bget s.board n with
            | none => rfl
            | some f => rw [z] at hq; cases hq
          refine s_retX ?_
          show tCall _ _ _ _ _ _ D.rt
          rw [hD]
          exact failed "Name" n ((e1.trans e2).trans e3) rfl ev_c (ev_var rfl) (need_fail hn1 hb hbn)
        · by_cases e : j = i
          · subst e
            rw [hn1] at hn'
            cases hn'
            cases z : bget s.board n with
            | none => rw [z] at q; exact Bool.noConfusion q
            | some f => rfl
          · exact hb j n' (by omega) hn'
      · obtain ⟨o, rfl, e2, hb⟩ := pv
        refine kz H' o e2 fun n hn => ?_
        obtain ⟨j, hj, ej⟩ := List.mem_iff_getElem.mp hn
        exact hb j n (by rw [List.length_map]; exact hj) (by rw [List.getElem?_eq_getElem hj, ej])
    -- behind the fault's number
    have tail : ∀ {σ' H1 pf pn o s1 lg1 ra1} {f : Nat} {src : Option (Option Str)}, σ' = [some (.ref a.M), some (.ref p), some (.ref pf), some (.ref pn), o, some (V.int (f : Int))] → H1 pf = some (.tup (srcV src)) → Lw H0 H1 a s1 lg1 ra1 → WF 0 0 s1 → f < s1.rows.length → execS x s = finR s1 f src →
        tSeq (tIfS (tTest (tOp (rTE K true) (tVar 2) (tTup tNil))) (tAsg (tTup (tCons (tIf (tTest (tOp (fun x y H Q => y = .non ∧ Q (.bl (decide (x = .non))) H) (tOp (rIxT K) (tVar 2) (tC (.int 0))) (tC .non))) (tC .non) (tCall (free sp_lat) [] E0 (tCons (tVar 0) (tCons (tOp (rIxT K) (tVar 2) (tC (.int 0))) tNil)))) (tCons (tC (.bl true)) tNil)))
          (gTup K 2 (gCons (gSub (tOp (rIxL K) (tDGet (tVar 0) (tC (.str "rows"))) (tVar 5)) (tC (.int 3)) rSetL) (gCons (gSub (tOp (rIxL K) (tDGet (tVar 0) (tC (.str "rows"))) (tVar 5)) (tC (.int 4)) rSetL) gNil)))) tNext) (tRet (tCall (free sp_lraised) [] E0 (tCons (tVar 0) (tCons (tVar 5) tNil)))) { nx := fun _ H' => Q .non H', rt := Q } σ' H1 := fun {σ' H1 pf pn o s1 lg1 ra1 f src} eσ hpf m1 wf1 hf hex => by
      subst eσ
      rw [hex] at k
      have last : ∀ {H2 s2}, Lw H0 H2 a s2 lg1 ra1 → WF 0 0 s2 → f < s2.rows.length → finR s1 f src = (some f, raised s2 f) → tRet (tCall (free sp_lraised) [] E0 (tCons (tVar 0) (tCons (tVar 5) tNil))) { nx := fun _ H' => Q .non H', rt := Q } [some (.ref a.M), some (.ref p), some (.ref pf), some (.ref pn), o, some (V.int (f : Int))] H2 := fun {H2 s2} m2 wf2 hf2 ef => by
        rw [ef] at k
        exact s_retX (x_call (ea_cons (ev_var rfl) (ea_cons (ev_var rfl) ea_nil)) fun H3 e3 => ⟨H0, a, s2, lg1, ra1, f, rfl, m2.grow e3, hf2, wf2.hnd, wf2.ctx, wf2.rnk, fun H4 v m4 le _ => k H4 lg1 ra1 v m4 le⟩)
      refine q_when (b := !(srcV src).isEmpty) (et_test (ev_opU (ev_var rfl) (eu_tup ea_nil (Nat.zero_le _)) fun q H2 h2 e2 => rv_neTE (st_of (e2 _ _ hpf)) (st_of h2))) (fun q H2 e2 => ?_) fun q H2 e2 => ?_
      · cases src with
        | none => exact Bool.noConfusion q
        | some oo =>
          have m2 := m1.grow e2
          have hpf2 := e2 _ _ hpf
          have bnd : ∀ d, oo.bind (bget s1.board) = some d → d < s1.rows.length := fun d hd => by
            cases oo with
            | none => cases hd
            | some n => exact wf1.bget hd
          obtain ⟨rf, ef⟩ := row_at hf
          refine s_asgTT (vs := [oN (oo.bind (bget s1.board)), .bl true]) (eu_tup (ea_cons ?_ (ea_cons ev_c ea_nil)) (show 2 ≤ 100000 by decide)) rfl fun H3 e3 => ?_
          · have i0 : Evl.Ev (tOp (rIxT K) (tVar 2) (tC (.int 0))) [some (.ref a.M), some (.ref p), some (.ref pf), some (.ref pn), o, some (V.int (f : Int))] H2 (oV oo) := ev_op (ev_var rfl) ev_c (rv_ixT (st_of hpf2) (atI_nat (j := 0) rfl))
            cases oo with
            | none => exact ev_if (b := true) (et_test (ev_op i0 ev_c rv_isN)) (fun _ => ev_c) fun q => Bool.noConfusion q
            | some n => exact ev_if (b := false) (et_test (ev_op i0 ev_c rv_isN)) (fun q => Bool.noConfusion q) fun _ => ev_call (ea_cons (ev_var rfl) (ea_cons i0 ea_nil)) (pur_v fun H3 e3 => ⟨H0, a, s1, lg1, ra1, n, rfl, m2.grow e3, rfl⟩)
          · have m3 := m2.grow e3
            refine g_cons (g_lset (n := 3) (m3.evI hf (ev_var rfl) (ev_var rfl)) ev_c (m3.row ef) rfl fun H4 e4 => ?_)
            have m4 : Lw H0 (upd H4 (ra1.getD f 0) (.lst (lrow { rf with cause := oo.bind (bget s1.board) }))) a { s1 with rows := s1.rows.set f { rf with cause := oo.bind (bget s1.board) } } lg1 ra1 := (m3.grow e4).setRow ef
            have ef' : (s1.rows.set f { rf with cause := oo.bind (bget s1.board) })[f]? = some { rf with cause := oo.bind (bget s1.board) } := List.getElem?_set_self hf
            refine g_cons (g_lset (n := 4) (m4.evI (by show f < (s1.rows.set f _).length; rw [List.length_set]; exact hf) (ev_var rfl) (ev_var rfl)) ev_c (m4.row ef') rfl fun H5 e5 => g_nil ?_)
            have m5 : Lw H0 (upd H5 (ra1.getD f 0) (.lst (lrow { rf with cause := oo.bind (bget s1.board), hides := true }))) a { s1 with rows := (s1.rows.set f { rf with cause := oo.bind (bget s1.board) }).set f { rf with cause := oo.bind (bget s1.board), hides := true } } lg1 ra1 := (m4.grow e5).setRow ef'
            have es : setCause s1.rows f (oo.bind (bget s1.board)) = (s1.rows.set f { rf with cause := oo.bind (bget s1.board) }).set f { rf with cause := oo.bind (bget s1.board), hides := true } := by
              unfold setCause
              rw [modify_set ef, List.set_set]
            rw [← es] at m5
            exact last m5 (wf1.cause bnd) (by show f < (setCause _ _ _).length; rw [len_setCause]; exact hf) rfl
      · cases src with
        | some oo => exact Bool.noConfusion q
        | none => exact last (m1.grow e2) wf1 hf rfl
    cases x with
    | note i => cases hot
    | again =>
      refine q_when (b := true) (et_test (ev_op (it 0 (Ex.refl H) rfl rfl) ev_c (rv_eq rfl))) (fun _ H1 e1 => ?_) fun q => Bool.noConfusion q
      have m1 := m.grow e1
      have ek : execS .again s = (match s.hand.getLast? with | some h => (some h, s) | none => fail s "State" "nothing handled") := rfl
      refine s_retX ?_
      cases hg : s.hand.getLast? with
      | none =>
        have hn := List.getLast?_eq_none_iff.mp hg
        refine x_if (b := false) (et_is (m1.handT (ev_var rfl)) (by rw [hn]; rfl)) (fun q => Bool.noConfusion q) fun _ H2 e2 => failed "State" "nothing handled" (e1.trans e2) rfl ev_c ev_c (by rw [ek, hg])
      | some g =>
        rw [ek, hg] at k
        refine x_if (b := true) (et_is (m1.handT (ev_var rfl)) (by cases hs : s.hand with | nil => rw [hs] at hg; cases hg | cons x y => rfl)) (fun _ H2 e2 => ?_) fun q => Bool.noConfusion q
        have m2 := m1.grow e2
        exact eu_tup (ea_cons ev_c (ea_cons (m2.handLast hg (ev_var rfl)) ea_nil)) (show 2 ≤ 100000 by decide) H2 (Ex.refl H2) _ fun q H4 _ e4 h4 => k H4 lg ra (.ref q) (m2.grow e4) ⟨q, rfl, h4⟩
    | raise kd lb src =>
      have e1 := Ex.refl H
      have isr : ∀ {H1 σ'}, Ex H H1 → σ'[1]? = some (some (.ref p)) → EvT (tTest (tOp rEq (tOp (rIxT K) (tVar 1) (tC (.int 0))) (tC (.str "raise")))) σ' H1 true := fun {H1 σ'} e h => et_test (ev_op (it 0 e h rfl) ev_c (rv_eq rfl))
      refine q_when (b := false) (et_test (ev_op (it 0 e1 rfl rfl) ev_c (rv_eq rfl))) (fun q => Bool.noConfusion q) fun _ H1 e1 => ?_
      refine q_asgU (xs := srcV src) (eu_if (b := true) (isr e1 rfl) (fun _ => eu_is (eu_sl (ev_var rfl) (eo_some ev_c) eo_none (st_of (e1 _ _ hp)) (by cases src with | none => exact (show ¬ (HT.sIx 3 0 (some 3) = 0 ∧ HT.sIx 3 3 none = 3) by decide) | some o => exact (show ¬ (HT.sIx 4 0 (some 3) = 0 ∧ HT.sIx 4 4 none = 4) by decide))) (by cases src <;> rfl)) (fun q => Bool.noConfusion q)) fun pf H2 _ e2 hpf => ?_
      have e12 := e1.trans e2
      refine q_asgL (xs := (needN (.raise kd lb src)).map V.str) (el_is (el_cat (xs := ([] : List V)) (ys := given (srcV src).length (srcF src) (srcG src)) (el_if (b := true) (isr e12 rfl) (fun _ => el_lst ea_nil (Nat.zero_le _)) (fun q => Bool.noConfusion q)) (el_lcT (srcF src) (srcG src) (ev_var rfl) (st_of hpf) (Nat.le_trans (srcV_len src) (by decide)) (fun y => rfl) (fun i y H3 e3 hy => ?_) (fun i y H3 e3 hy hf => ?_)) ?_) (by rw [src_given]; rfl)) fun pn H3 hpn0 e3 hpn => ?_
      · have hyo : y = oV (src.bind id) := by
          cases src with
          | none => cases hy
          | some o =>
            match i, hy with
            | 0, hy => exact (Option.some.inj hy).symm
        refine et_test (ev_is (ev_op (ev_var rfl) ev_c rv_notN) ?_)
        rw [hyo]
        unfold srcF
        cases src.bind id <;> rfl
      · have hyo : y = oV (src.bind id) := by
          cases src with
          | none => cases hy
          | some o =>
            match i, hy with
            | 0, hy => exact (Option.some.inj hy).symm
        rw [hyo]
        exact ev_var rfl
      · rw [src_given, List.length_map]
        have := srcN_len src
        show 0 + _ ≤ _
        omega
      have e13 := e12.trans e3
      refine loop rfl e13 hpn fun H4 o e4 hb => ?_
      have e14 := e13.trans e4
      have hm : missing s.board src = none := need_mis fun n hn => hb n (hn)
      refine q_cut (M := fun σ' H' => ∃ s1 lg1 ra1 f, σ' = [some (.ref a.M), some (.ref p), some (.ref pf), some (.ref pn), o, some (V.int ((f : Nat) : Int))] ∧ H' pf = some (.tup (srcV src)) ∧ Lw H0 H' a s1 lg1 ra1 ∧ WF 0 0 s1 ∧ f < s1.rows.length ∧ execS (.raise kd lb src) s = finR s1 f src) ?_ fun σ' H' ⟨s1, lg1, ra1, f, eσ, h1, h2, h3, h4, h5⟩ => tail eσ h1 h2 h3 h4 h5
      refine s_asgX (x_if (b := true) (isr e14 rfl) (fun _ H5 e5 => x_call (ea_cons (ev_var rfl) (ea_cons (it 1 (e14.trans e5) rfl rfl) (ea_cons (it 2 (e14.trans e5) rfl rfl) ea_nil))) fun H6 e6 => ?_) fun q => Bool.noConfusion q)
      refine ⟨H0, a, s, lg, ra, kd, lb, rfl, m.grow ((e14.trans e5).trans e6), hrl, hll, fun H7 lg7 ra7 m7 t7 => ⟨_, lg7, ra7, s.rows.length, rfl, ?_, m7, wf.made kd lb, by rw [made_len]; omega, ?_⟩⟩
      · exact t7 _ _ (((e3.trans e4).trans (e5.trans e6)) _ _ hpf)
      · show (match missing s.board src with | some n => fail s "Name" n | none => finR (made s kd lb) s.rows.length src) = _
        rw [hm]
    | throw nm src =>
      have e1 := Ex.refl H
      have isr : ∀ {H1 σ'}, Ex H H1 → σ'[1]? = some (some (.ref p)) → EvT (tTest (tOp rEq (tOp (rIxT K) (tVar 1) (tC (.int 0))) (tC (.str "raise")))) σ' H1 false := fun {H1 σ'} e h => et_test (ev_op (it 0 e h rfl) ev_c (rv_eq rfl))
      refine q_when (b := false) (et_test (ev_op (it 0 e1 rfl rfl) ev_c (rv_eq rfl))) (fun q => Bool.noConfusion q) fun _ H1 e1 => ?_
      refine q_asgU (xs := srcV src) (eu_if (b := false) (isr e1 rfl) (fun q => Bool.noConfusion q) (fun _ => eu_is (eu_sl (ev_var rfl) (eo_some ev_c) eo_none (st_of (e1 _ _ hp)) (by cases src with | none => exact (show ¬ (HT.sIx 2 0 (some 2) = 0 ∧ HT.sIx 2 2 none = 2) by decide) | some o => exact (show ¬ (HT.sIx 3 0 (some 2) = 0 ∧ HT.sIx 3 3 none = 3) by decide))) (by cases src <;> rfl))) fun pf H2 _ e2 hpf => ?_
      have e12 := e1.trans e2
      refine q_asgL (xs := (needN (.throw nm src)).map V.str) (el_is (el_cat (xs := ([.str nm] : List V)) (ys := given (srcV src).length (srcF src) (srcG src)) (el_if (b := false) (isr e12 rfl) (fun q => Bool.noConfusion q) (fun _ => el_lst (ea_cons (it 1 e12 rfl rfl) ea_nil) (show 1 ≤ 100000 by decide))) (el_lcT (srcF src) (srcG src) (ev_var rfl) (st_of hpf) (Nat.le_trans (srcV_len src) (by decide)) (fun y => rfl) (fun i y H3 e3 hy => ?_) (fun i y H3 e3 hy hf => ?_)) ?_) (by rw [src_given]; rfl)) fun pn H3 hpn0 e3 hpn => ?_
      · have hyo : y = oV (src.bind id) := by
          cases src with
          | none => cases hy
          | some o =>
            match i, hy with
            | 0, hy => exact (Option.some.inj hy).symm
        refine et_test (ev_is (ev_op (ev_var rfl) ev_c rv_notN) ?_)
        rw [hyo]
        unfold srcF
        cases src.bind id <;> rfl
      · have hyo : y = oV (src.bind id) := by
          cases src with
          | none => cases hy
          | some o =>
            match i, hy with
            | 0, hy => exact (Option.some.inj hy).symm
        rw [hyo]
        exact ev_var rfl
      · rw [src_given, List.length_map]
        have := srcN_len src
        show 1 + _ ≤ _
        omega
      have e13 := e12.trans e3
      refine loop rfl e13 hpn fun H4 o e4 hb => ?_
      have e14 := e13.trans e4
      have hm : missing s.board src = none := need_mis fun n hn => hb n (List.mem_cons_of_mem _ hn)
      refine q_cut (M := fun σ' H' => ∃ s1 lg1 ra1 f, σ' = [some (.ref a.M), some (.ref p), some (.ref pf), some (.ref pn), o, some (V.int ((f : Nat) : Int))] ∧ H' pf = some (.tup (srcV src)) ∧ Lw H0 H' a s1 lg1 ra1 ∧ WF 0 0 s1 ∧ f < s1.rows.length ∧ execS (.throw nm src) s = finR s1 f src) ?_ fun σ' H' ⟨s1, lg1, ra1, f, eσ, h1, h2, h3, h4, h5⟩ => tail eσ h1 h2 h3 h4 h5
      have hbn := hb nm (List.mem_cons_self ..)
      cases hf : bget s.board nm with
      | none => rw [hf] at hbn; cases hbn
      | some f =>
        refine s_asg (v := oN (bget s.board nm)) (ev_if (b := false) (isr e14 rfl) (fun q => Bool.noConfusion q) fun _ => at_ e14 rfl (it 1 e14 rfl rfl)) fun H5 e5 => ⟨s, lg, ra, f, by rw [hf]; rfl, ((e3.trans e4).trans e5) _ _ hpf, m.grow (e14.trans e5), wf.mono (by omega) (Nat.le_refl _), wf.bget hf, ?_⟩
        show (match bget s.board nm with | none => fail s "Name" nm | some f => (match missing s.board src with | some m => fail s "Name" m | none => finR s f src)) = _
        rw [hf]
        show (match missing s.board src with | some m => fail s "Name" m | none => finR s f src) = _
        rw [hm]
end
end L2.EX
namespace L2.EX
open PySem PySem.Spec PyProof.Rows Evl
/-! The law's own run of a body. -/
theorem pt_no {X : Cx} {e : Expr} : PT X e (fun _ _ _ => False) := ⟨fun _ _ _ _ _ _ h => h.elim⟩
theorem ix_tupK {X : Cx} {K : Frg} (h : X.K = K) : IxR X (rIxT K) := h ▸ ix_tup
theorem ix_listK {X : Cx} {K : Frg} (h : X.K = K) : IxR X (rIxL K) := h ▸ ix_list
def Bdy.dep : Bdy → Nat
  | .nil => 0
  | .sim _ r => r.dep
  | .tri _ _ h r => max (h.dep + 1) r.dep
noncomputable def triX (x : Sim) (nm : Option Str) (h : Bdy) (s : PS) : Option Nat × PS := match execS x (tick s) with
  | (none, s1) => (none, s1)
  | (some f, s1) => ((exec h (pushB nm f s1)).1, popB nm (exec h (pushB nm f s1)).2)
theorem triX_eq {x : Sim} {nm : Option Str} {h : Bdy} {s s1 : PS} {f : Nat} (e : execS x (tick s) = (some f, s1)) : triX x nm h s = ((exec h (pushB nm f s1)).1, popB nm (exec h (pushB nm f s1)).2) := by
  unfold triX
  rw [e]
theorem exec_sim (x : Sim) (r : Bdy) (s : PS) : exec (.sim x r) s = (match execS x (tick s) with | (none, s1) => exec r s1 | (some f, s1) => (some f, s1)) := rfl
theorem exec_tri {x : Sim} {nm : Option Str} {h r : Bdy} {s : PS} (hx : x.hot = true) : exec (.tri x nm h r) s = (match triX x nm h (tick s) with | (none, s1) => exec r s1 | (some f, s1) => (some f, s1)) := by
  obtain ⟨f, s1, e⟩ := execS_hot hx (tick (tick s))
  rw [triX_eq e]
  show (match execS x (tick (tick s)) with | (none, s1) => (none, s1) | (some f, s1) => match exec h (pushB nm f s1) with | (none, s3) => exec r (popB nm s3) | (some g, s3) => (some g, popB nm s3)) = _
  rw [e]
  show (match exec h (pushB nm f s1) with | (none, s3) => exec r (popB nm s3) | (some g, s3) => (some g, popB nm s3)) = _
  cases exec h (pushB nm f s1) with
  | mk o s3 => cases o <;> rfl
theorem exec_one {x : Sim} {s s1 : PS} {f : Nat} (e : execS x (tick s) = (some f, s1)) : exec (.sim x .nil) s = (some f, s1) := by
  rw [exec_sim, e]
theorem exec_hand : ∀ (b : Bdy) (s : PS), b.hot = true → (exec b s).2.hand = s.hand
  | .nil, s, _ => rfl
  | .sim x r, s, hb => by
    rw [exec_sim]
    have h1 := (execS_keeps x (tick s)).2.2
    cases e : execS x (tick s) with
    | mk o s1 =>
      rw [e] at h1
      have h1 : s1.hand = s.hand := h1
      cases o with
      | none => exact (exec_hand r s1 hb).trans h1
      | some f => exact h1
  | .tri x nm h r, s, hb => by
    have hb1 : x.hot = true ∧ (h.hot && r.hot) = true := Bool.and_eq_true_iff.mp hb
    have hb2 := Bool.and_eq_true_iff.mp hb1.2
    rw [exec_tri hb1.1]
    obtain ⟨f, s1, e⟩ := execS_hot hb1.1 (tick (tick s))
    have h1 := (execS_keeps x (tick (tick s))).2.2
    rw [e] at h1
    have h1 : s1.hand = s.hand := h1
    have h2 := exec_hand h (pushB nm f s1) hb2.1
    have h3 : (popB nm (exec h (pushB nm f s1)).2).hand = s.hand := by
      show (exec h (pushB nm f s1)).2.hand.dropLast = s.hand
      rw [h2]
      show (s1.hand ++ [f]).dropLast = _
      rw [List.dropLast_concat, h1]
    rw [triX_eq e]
    cases e3 : (exec h (pushB nm f s1)).1 with
    | none => exact (exec_hand r _ hb2.2).trans h3
    | some g => exact h3
theorem triX_hand {x : Sim} {nm : Option Str} {h : Bdy} {s : PS} (hx : x.hot = true) (hh : h.hot = true) : (triX x nm h s).2.hand = s.hand := by
  obtain ⟨f, s1, e⟩ := execS_hot hx (tick s)
  have h1 := (execS_keeps x (tick s)).2.2
  rw [e] at h1
  have h1 : s1.hand = s.hand := h1
  rw [triX_eq e]
  show (exec h (pushB nm f s1)).2.hand.dropLast = s.hand
  rw [exec_hand h _ hh]
  show (s1.hand ++ [f]).dropLast = _
  rw [List.dropLast_concat, h1]
theorem triX_steps {x : Sim} {nm : Option Str} {h : Bdy} {s : PS} (hx : x.hot = true) : (triX x nm h s).2.steps ≤ s.steps + 1 + h.size := by
  obtain ⟨f, s1, e⟩ := execS_hot hx (tick s)
  have h1 := (execS_keeps x (tick s)).1
  rw [e] at h1
  have h1 : s1.steps = s.steps + 1 := h1
  rw [triX_eq e]
  have h2 := exec_steps h (pushB nm f s1)
  have h2 : (exec h (pushB nm f s1)).2.steps ≤ s1.steps + h.size := h2
  show (exec h (pushB nm f s1)).2.steps ≤ _
  omega
theorem triX_wf {x : Sim} {nm : Option Str} {h : Bdy} {s : PS} (hx : x.hot = true) (hh : h.hot = true) (w : WF 1 1 s) : WF 0 0 (triX x nm h s).2 := by
  obtain ⟨f, s1, e⟩ := execS_hot hx (tick s)
  have w1 := w.tick.execS x
  have l1 := execS_lt w.tick x (f := f)
  rw [e] at w1 l1
  rw [triX_eq e]
  exact (WF.exec h _ hh ((w1.mono (k' := 0) (j' := 1) (by omega) (by omega)).pushB nm (l1 rfl))).1.popB nm
theorem lhV_drop (l : List Nat) : (lhV l).dropLast = lhV l.dropLast := by
  unfold lhV
  rw [List.map_dropLast]
theorem lhV_ne {l : List Nat} (h : l ≠ []) : lhV l ≠ [] := fun e => h (List.map_eq_nil_iff.mp e)
theorem lhV_snoc (l : List Nat) (f : Nat) : lhV l ++ [.int (f : Int)] = lhV (l ++ [f]) := by
  unfold lhV
  rw [List.map_append]
  rfl
theorem any_lb (k : Str) (b : List (Str × Nat)) : ((lbK b).any fun kv => decide (kv.1 = Sum.inr k)) = b.any fun p => decide (p.1 = k) := by
  unfold lbK
  rw [List.any_map]
  refine congrArg b.any (funext fun p => ?_)
  show decide ((Sum.inr p.1 : Key) = Sum.inr k) = decide (p.1 = k)
  exact decide_eq_decide.mpr ⟨Sum.inr.inj, congrArg Sum.inr⟩
theorem putK_lb (k : Str) (n : Nat) (b : List (Str × Nat)) : putK (lbK b) (Sum.inr k) (.int (n : Int)) = lbK (bput b k n) := by
  unfold putK bput
  rw [any_lb]
  split
  · unfold lbK
    rw [List.map_map, List.map_map]
    refine List.map_congr_left fun p _ => ?_
    show (if (Sum.inr p.1 : Key) = Sum.inr k then ((Sum.inr p.1 : Key), V.int (n : Int)) else (Sum.inr p.1, V.int (p.2 : Int))) = (Sum.inr (if p.1 = k then (p.1, n) else p).1, V.int ((if p.1 = k then (p.1, n) else p).2 : Int))
    by_cases e : p.1 = k
    · rw [if_pos e, if_pos (congrArg Sum.inr e)]
    · rw [if_neg e, if_neg (fun z => e (Sum.inr.inj z))]
  · unfold lbK
    rw [List.map_append]
    rfl
theorem dropK_lb (k : Str) (b : List (Str × Nat)) : dropK (lbK b) (Sum.inr k) = lbK (bdrop b k) := by
  unfold dropK bdrop lbK
  rw [List.filter_map]
  refine congrArg _ (congrArg (fun f => List.filter f b) (funext fun p => ?_))
  show decide ((Sum.inr p.1 : Key) ≠ Sum.inr k) = decide (p.1 ≠ k)
  exact decide_eq_decide.mpr ⟨fun h z => h (congrArg Sum.inr z), fun h z => h (Sum.inr.inj z)⟩
theorem valV_lbS (k : Str) : ∀ b : List (Str × Nat), valV (lbK b) (Sum.inr k) = (bget b k).map fun n => V.int (n : Int)
  | [] => rfl
  | p :: b => by
    have ih := valV_lbS k b
    unfold lbK at ih ⊢
    unfold bget at ih ⊢
    rw [List.map_cons]
    by_cases e : p.1 = k
    · rw [valV_pos (by exact congrArg Sum.inr e), List.find?_cons, decide_eq_true e]
      rfl
    · rw [valV_neg (fun z => e (Sum.inr.inj z)), List.find?_cons, decide_eq_false e]
      exact ih
section
variable {w : World} {K : Frg} {mg : Str → Option Value} {base : Heap}
def sp_lbody (e : Nat) : Sp := fun vs H Q _ => ∃ H0 a s lg ra p us b, vs = [.ref a.M, .ref p] ∧ Lw H0 H a s lg ra ∧ H p = some (.tup us) ∧ us.length ≤ 1000 ∧ BdyT H us b ∧ b.hot = true ∧ b.dep ≤ e ∧ WF 0 0 s ∧ s.steps + b.size ≤ 400 ∧ s.hand.length + b.dep ≤ 100 ∧
  ∀ H' lg' ra' v, Lw H0 H' a (exec b s).2 lg' ra' → LEnd H' v (exec b s).1 → Q v H'
def sp_ltry (e : Nat) : Sp := fun vs H Q _ => ∃ H0 a s lg ra p x nm h, vs = [.ref a.M, .ref p] ∧ Lw H0 H a s lg ra ∧ TriAt H p x nm h ∧ x.hot = true ∧ h.hot = true ∧ h.dep + 1 ≤ e ∧ WF 1 1 s ∧ s.steps + 1 + h.size ≤ 400 ∧ s.hand.length + (h.dep + 1) ≤ 100 ∧
  ∀ H' lg' ra' v, Lw H0 H' a (triX x nm h s).2 lg' ra' → LEnd H' v (triX x nm h s).1 → Q v H'
theorem LEnd.shape {H : Hp} {v : V} {o : Option Nat} (h : LEnd H v o) : ∃ p e u, v = .ref p ∧ H p = some (.tup [.str e, u]) ∧ decide (V.str e = V.str "fault") = o.isSome ∧ decide (V.str e = V.str "stopped") = false ∧ decide (V.str e = V.str "end") = o.isNone ∧ (∀ f, o = some f → u = .int ((f : Nat) : Int)) := by
  cases o with
  | none => obtain ⟨p, e1, e2⟩ := h; exact ⟨p, "end", .non, e1, e2, rfl, rfl, rfl, fun f q => by cases q⟩
  | some f => obtain ⟨p, e1, e2⟩ := h; exact ⟨p, "fault", .int ((f : Nat) : Int), e1, e2, rfl, rfl, rfl, fun g q => by cases q; rfl⟩
theorem LEnd.re {H H' : Hp} {q : Addr} {o : Option Nat} {xs : List V} (h : LEnd H (.ref q) o) (h2 : H' q = some (.tup xs)) (h3 : H q = some (.tup xs)) : LEnd H' (.ref q) o := by
  cases o with
  | none => obtain ⟨p, e1, e2⟩ := h; cases e1; rw [h3] at e2; exact ⟨q, rfl, h2.trans e2⟩
  | some f => obtain ⟨p, e1, e2⟩ := h; cases e1; rw [h3] at e2; exact ⟨q, rfl, h2.trans e2⟩
theorem ok_l_try (T : Tx w K mg) {k e : Nat} (hk : 3 ≤ k) (F_l_fits : FOk PW w K mg base 1 (f_l_fits K) ["_law_one", "_law_some"] [] sp_lfits) (F_l_body : FOk PW w K mg base k (f_l_body K) ["_law_m", "_law_body_here"] [] (sp_lbody e)) :
    FOk PW w K mg base (k + 1) (f_l_try K) ["_law_m", "_law_s"] [] (sp_ltry (e + 1)) := by
  obtain ⟨fd, F⟩ := T.d_l_try
  refine ⟨⟨fd, [], F.ok sc_l_try (fun vs H Q E h => ?_) (fun cdv A outer s H vs Q E hr h => ?_), F.bindsN fun _ _ _ _ _ _ us hl => match us, hl with | [_, _], _ => rfl, .nil⟩, F.kp⟩
  · obtain ⟨H0, a, s, lg, ra, p, x, nm, h, rfl, _⟩ := h
    rfl
  · obtain ⟨H0, a, s, lg, ra, p, x, nm, hh, rfl, m, ⟨b, q, hs, h1, hb, e1a, e2a, ws, t1, t2, t3, ok, t5, t6, t7, t8, t9, t10⟩, hx, hhot, hdep, wf, hst, hhl, k⟩ := h
    refine ⟨_, (PSs.nox (pss_cons (ps_set (i := 2) sc_l_try.nd rfl (Or.inr rfl) (pk_call F_l_body hr rfl T.g_l_body (pa_cons (pv 0) (pa_cons (pe_ix ix_tup (pv 1) pe_int (fun _ _ => rfl)) pa_nil)))) (pss_cons (ps_setLc (i := 3) (own := [("_law_row", 4)]) (g := gName 4) rfl sc_l_try.nd rfl rfl (sw_true rfl rfl rfl (by decide +kernel)) (pi_tup (pe_ix ix_tup (pv 1) pe_int (fun _ _ => rfl))) (blkOk_by (own := [("_law_row", 4)]) (N := ["_law_m", "_law_s", "_law_ending", "_law_some", "_law_row", "_law_name", "_law_last"]) (sc := (defScope s_l_try)) (by decide +kernel)) (fun _ _ _ _ _ => pg_name (i := 4) sc_l_try.nd rfl (Or.inl rfl)) (fun _ _ _ _ _ => pts_one (PW.pt (pw_and (pt_cmpR op_eq (pe_ix (ix_tupK (K := K) rfl) (pv 2) pe_int (fun _ _ => rfl)) pe_str (nomark _)) (pw_and1 (pt_val (pk_call F_l_fits hr rfl T.g_l_fits (pa_cons (pe_ix (ix_listK (K := K) rfl) (pe_ix (ix_listK (K := K) rfl) (pe_dget (hu_of hr) (pv 0) pe_str (fun _ _ => rfl)) (pe_ix (ix_tupK (K := K) rfl) (pv 2) pe_int (fun _ _ => rfl)) (fun _ _ => rfl)) pe_int (fun _ _ => rfl)) (pa_cons (pe_ix (ix_tupK (K := K) rfl) (pv 4) pe_int (fun _ _ => rfl)) pa_nil)))))))) (fun _ _ _ _ _ => (pv 4))) (Evl.pss_cut (ps_if (pt_cmpR (op_neLE hr.units0) (pv 3) (pe_lst pa_nil) (nomark _)) (pss_cons (ps_set (i := 5) sc_l_try.nd rfl (Or.inl rfl) (pe_ix ix_tup (pe_ix ix_list (pv 3) pe_int (fun _ _ => rfl)) pe_int (fun _ _ => rfl))) (Evl.pss_cut (ps_if (pt_cmpR op_notN (pv 5) pe_non (nomark _)) (pss_one (ps_dput (hu_of hr) (pe_dget (hu_of hr) (pv 0) pe_str (fun _ _ => rfl)) (pv 5) (pe_ix (ix_tupK (K := K) rfl) (pv 2) pe_int (fun _ _ => rfl)) rfl)) pss_nil) (pss_cons (ps_expr (pe_bm PySem.F.plainAttrs_list PySem.F.slot_list_append PySem.F.type_list_append mt_append (pe_dget (hu_of hr) (pv 0) pe_str (fun _ _ => rfl)) (pa_cons (pe_ix (ix_tupK (K := K) rfl) (pv 2) pe_int (fun _ _ => rfl)) pa_nil))) (pss_cons (ps_set (i := 2) sc_l_try.nd rfl (Or.inr rfl) (pk_call F_l_body hr rfl T.g_l_body (pa_cons (pv 0) (pa_cons (pe_ix ix_tup (pe_ix ix_list (pv 3) pe_int (fun _ _ => rfl)) pe_int (fun _ _ => rfl)) pa_nil)))) (pss_cons (ps_expr (pe_bm0 PySem.F.plainAttrs_list PySem.F.slot_list_pop PySem.F.type_list_pop mt_pop (pe_dget (hu_of hr) (pv 0) pe_str (fun _ _ => rfl)))) (pss_one (ps_if (PW.pt (pw_and (pt_cmpR op_notN (pv 5) pe_non (nomark _)) (pw_and1 (pt_cmp (pc_din (hu_of hr) (pv 5) (pe_dget (hu_of hr) (pv 0) pe_str (fun _ _ => rfl))))))) (pss_one (ps_expr (pe_dpop1 (pe_dget (hu_of hr) (pv 0) pe_str (fun _ _ => rfl)) (pv 5) ⟨rfl, rfl, rfl, rfl⟩))) pss_nil))))))) (pss_one (ps_if (pt_cmpR op_eq (pe_ix (ix_tupK (K := K) rfl) (pv 2) pe_int (fun _ _ => rfl)) pe_str (nomark _)) (pss_one (ps_set (i := 2) sc_l_try.nd rfl (Or.inr rfl) (pk_call F_l_body hr rfl T.g_l_body (pa_cons (pv 0) (pa_cons (pe_ix ix_tup (pv 1) pe_int (fun _ _ => rfl)) pa_nil))))) pss_nil))) (pss_cons (ps_if (pt_cmpR op_eq (pe_ix (ix_tupK (K := K) rfl) (pv 2) pe_int (fun _ _ => rfl)) pe_str (nomark _)) (pss_one (ps_ret (pv 2))) pss_nil) (pss_cons (ps_if (pt_cmpR op_eq (pe_ix (ix_tupK (K := K) rfl) (pv 2) pe_int (fun _ _ => rfl)) pe_str (nomark _)) (pss_one (ps_expr (pe_bm PySem.F.plainAttrs_list PySem.F.slot_list_append PySem.F.type_list_append mt_append (pe_dget (hu_of hr) (pv 0) pe_str (fun _ _ => rfl)) (pa_cons (pe_ix (ix_tupK (K := K) rfl) (pv 2) pe_int (fun _ _ => rfl)) pa_nil)))) pss_nil) (pss_cons (ps_set (i := 6) sc_l_try.nd rfl (Or.inl rfl) (pk_call F_l_body hr rfl T.g_l_body (pa_cons (pv 0) (pa_cons (pe_ix ix_tup (pv 1) pe_int (fun _ _ => rfl)) pa_nil)))) (pss_cons (ps_if (pt_cmpR op_eq (pe_ix (ix_tupK (K := K) rfl) (pv 2) pe_int (fun _ _ => rfl)) pe_str (nomark _)) (pss_one (ps_expr (pe_bm0 PySem.F.plainAttrs_list PySem.F.slot_list_pop PySem.F.type_list_pop mt_pop (pe_dget (hu_of hr) (pv 0) pe_str (fun _ _ => rfl))))) pss_nil) (pss_one (ps_ret (pe_ifExp (pt_cmpR op_eq (pe_ix ix_tup (pv 6) pe_int (fun _ _ => rfl)) pe_str (nomark _)) (pv 2) (pv 6)))))))))))), ?_⟩
    obtain ⟨f, s1, ex1⟩ := execS_hot hx (tick s)
    rw [triX_eq ex1] at k
    have kp1 := execS_keeps x (tick s)
    have w1 := wf.tick.execS x
    have l1 := execS_lt wf.tick x (f := f)
    rw [ex1] at kp1 w1 l1
    have w1 : WF 1 2 s1 := w1
    have hf : f < s1.rows.length := l1 rfl
    have hst1 : s1.steps = s.steps + 1 := kp1.1
    have hhd1 : s1.hand = s.hand := kp1.2.2
    have wp := (w1.mono (k' := 0) (j' := 1) (by omega) (by omega)).pushB nm hf
    have hbl : s1.board.length ≤ 1000 := by have := w1.nb; omega
    -- the tried body
    refine q_asgX (x_call (ea_cons (ev_var rfl) (ea_cons (ev_op (ev_var rfl) ev_c (rv_ixT (st_of t1) (atI_nat (j := 1) rfl))) ea_nil)) fun H1 e1 => ?_)
    refine ⟨H0, a, s, lg, ra, b, [.ref q], .sim x .nil, rfl, m.grow e1, e1 _ _ t2, (show 1 ≤ 1000 by decide), .sim (e1 _ _ t3) ok .nil, rfl, Nat.zero_le _, wf.mono (by omega) (by omega), (by show s.steps + (0 + 1) ≤ 400; omega), (by show s.hand.length + 0 ≤ 100; omega), fun H2 lg2 ra2 v2 m2 le2 tp2 => ?_⟩
    rw [exec_one ex1] at m2 le2
    obtain ⟨q2, rfl, hq2⟩ := le2
    have m2 : Lw H0 H2 a s1 lg2 ra2 := m2
    have tp2 := (ex_tp e1).trans tp2
    obtain ⟨rf, ef⟩ := row_at hf
    have end1 : ∀ {H3 : Hp} {σ' : L2.St}, Ex H2 H3 → σ'[2]? = some (some (.ref q2)) → Evl.Ev (tOp (rIxT K) (tVar 2) (tC (.int 1))) σ' H3 (.int ((f : Nat) : Int)) := fun e h => ev_op (ev_var h) ev_c (rv_ixT (st_of (e _ _ hq2)) (atI_nat (j := 1) rfl))
    -- the handlers that fit
    refine q_asgL (xs := [.ref h1]) (el_is (el_lcT (xs := [.ref h1]) (fun _ => true) (fun _ => .ref h1) (ev_op (ev_var rfl) ev_c (rv_ixT (st_of (tp2 _ _ t1)) (atI_nat (j := 2) rfl))) (st_of (tp2 _ _ t5)) (show 1 ≤ 40000 by decide) (fun y => rfl) (fun i y H3 e3 hy => ?_) (fun i y H3 e3 hy _ => ?_)) rfl) fun L H3 hL e3 h3 => ?_
    · have hyo : y = .ref h1 := by
        match i, hy with
        | 0, hy => exact (Option.some.inj hy).symm
      subst hyo
      have m3 := m2.grow e3
      exact et_is (et_and (a := true) (et_test (ev_op (ev_op (ev_var rfl) ev_c (rv_ixT (st_of (e3 _ _ hq2)) (atI_nat (j := 0) rfl))) ev_c (rv_eq rfl))) fun _ =>
        et_B (ev_call (ea_cons (ev_op (m3.evI hf (ev_var rfl) (end1 e3 rfl)) ev_c (rv_ixL (sq_of (m3.row ef)) (atI_nat (j := 0) rfl))) (ea_cons (ev_op (ev_var rfl) ev_c (rv_ixT (st_of (e3 _ _ (tp2 _ _ t6))) (atI_nat (j := 0) rfl))) ea_nil)) (pur_v fun _ _ => ⟨_, rfl, rfl⟩))) rfl
    · have hyo : y = .ref h1 := by
        match i, hy with
        | 0, hy => exact (Option.some.inj hy).symm
      subst hyo
      exact ev_var rfl
    have m3 := m2.grow e3
    have tp3 := tp2.trans (ex_tp e3)
    refine q_cut (M := fun σ' H' => ∃ lg3 ra3 v3 oS oR oN, σ' = [some (.ref a.M), some (.ref p), some v3, oS, oR, oN, none] ∧ Lw H0 H' a (popB nm (exec hh (pushB nm f s1)).2) lg3 ra3 ∧ LEnd H' v3 (exec hh (pushB nm f s1)).1 ∧ TP H H') ?_ ?_
    · refine s_if (b := true) (et_test (ev_opL (ev_var rfl) (el_lst ea_nil (Nat.zero_le _)) fun q' H8 h8 e8 => rv_neL (sq_of (e8 _ _ h3)) (sq_of h8))) (fun _ H4 e4 => ?_) fun q => Bool.noConfusion q
      have m4 := m3.grow e4
      have L0 : ∀ {H5 : Hp} {σ' : L2.St}, H5 L = some (.lst [.ref h1]) → σ'[3]? = some (some (.ref L)) → Evl.Ev (tOp (rIxL K) (tVar 3) (tC (.int 0))) σ' H5 (.ref h1) := fun h hσ => ev_op (ev_var hσ) ev_c (rv_ixL (sq_of h) (atI_nat (j := 0) rfl))
      have nLB : L ≠ a.LB := fun z => (ne_of_none m2.board hL) z.symm
      have nLH : L ≠ a.LH := fun z => (ne_of_none m2.hand hL) z.symm
      refine q_asg (v := oV nm) (ev_op (L0 (e4 _ _ h3) rfl) ev_c (rv_ixT (st_of (e4 _ _ (tp3 _ _ t6))) (atI_nat (j := 1) rfl))) fun H5 e5 => ?_
      have m5 := m4.grow e5
      have tp5 := tp3.trans (ex_tp (e4.trans e5))
      have L5 := (e4.trans e5) _ _ h3
      have q5 := (e3.trans (e4.trans e5)) _ _ hq2
      refine q_cut (M := fun σ' H' => σ' = [some (.ref a.M), some (.ref p), some (.ref q2), some (.ref L), none, some (oV nm), none] ∧ Lw H0 H' a { s1 with board := bputO nm f s1.board } lg2 ra2 ∧ H' L = some (.lst [.ref h1]) ∧ TP H5 H') ?_ ?_
      · cases nm with
        | none => exact s_when (b := false) (et_test (ev_op (ev_var rfl) ev_c rv_notN)) (fun q => Bool.noConfusion q) fun _ H6 e6 => ⟨rfl, m5.grow e6, e6 _ _ L5, ex_tp e6⟩
        | some n =>
          refine s_when (b := true) (et_test (ev_op (ev_var rfl) ev_c rv_notN)) (fun _ H6 e6 => ?_) fun q => Bool.noConfusion q
          have m6 := m5.grow e6
          refine s_dput (k := Sum.inr n) (v := .int ((f : Nat) : Int)) (ev_op (ev_var rfl) ev_c (rv_ixT (st_of (e6 _ _ q5)) (atI_nat (j := 1) rfl))) (m6.evB (ev_var rfl)) (ev_var rfl) m6.board (sz_lt (by unfold lbK; rw [List.length_map]; omega)) fun H7 e7 => ?_
          rw [putK_lb]
          refine ⟨rfl, (m6.grow e7).setBoard, ?_, (ex_tp (e6.trans e7)).trans (TP.upd (m6.grow e7).board dk_no)⟩
          rw [upd_ne nLB]
          exact e7 _ _ (e6 _ _ L5)
      · rintro σ' H' ⟨rfl, m6, L6, tp6⟩
        have q6 := tp6 _ _ q5
        have tp6 := tp5.trans tp6
        refine q_app m6.hand (m6.evH (ev_var rfl)) (ev_op (ev_var rfl) ev_c (rv_ixT (st_of q6) (atI_nat (j := 1) rfl))) (by unfold lhV; rw [List.length_map]; show s1.hand.length < _; rw [hhd1]; omega) fun H7 e7 => ?_
        rw [lhV_snoc]
        have m7 : Lw H0 (upd H7 a.LH (.lst (lhV (s1.hand ++ [f])))) a (pushB nm f s1) lg2 ra2 := (m6.grow e7).setHand (b := s1.hand ++ [f])
        have tp7 := tp6.trans ((ex_tp e7).trans (TP.upd (o := .lst (lhV (s1.hand ++ [f]))) (m6.grow e7).hand lst_no))
        have L7 : upd H7 a.LH (.lst (lhV (s1.hand ++ [f]))) L = some (.lst [.ref h1]) := by
          rw [upd_ne nLH]
          exact e7 _ _ L6
        refine q_asgX (x_call (ea_cons (ev_var rfl) (ea_cons (ev_op (L0 L7 rfl) ev_c (rv_ixT (st_of (tp7 _ _ t6)) (atI_nat (j := 2) rfl))) ea_nil)) fun H8 e8 => ?_)
        have tp8 := tp7.trans (ex_tp e8)
        refine ⟨H0, a, pushB nm f s1, lg2, ra2, hb, ws, hh, rfl, m7.grow e8, tp8 _ _ t7, t8, t9.tp tp8, hhot, by omega, wp, (by show s1.steps + hh.size ≤ 400; omega), (by show (s1.hand ++ [f]).length + hh.dep ≤ 100; rw [List.length_append, hhd1, List.length_singleton]; omega), fun H9 lg3 ra3 v3 m9 le9 tp9 => ?_⟩
        have hhd := exec_hand hh (pushB nm f s1) hhot
        generalize exec hh (pushB nm f s1) = r3 at m9 le9 hhd ⊢
        obtain ⟨o3, s3⟩ := r3
        have m9 : Lw H0 H9 a s3 lg3 ra3 := m9
        have le9 : LEnd H9 v3 o3 := le9
        have hhd : s3.hand = s1.hand ++ [f] := hhd
        refine q_pop m9.hand (lhV_ne (by rw [hhd]; simp)) (m9.evH (ev_var rfl)) fun H10 e10 => ?_
        rw [lhV_drop]
        have m10 : Lw H0 (upd H10 a.LH (.lst (lhV s3.hand.dropLast))) a { s3 with hand := s3.hand.dropLast } lg3 ra3 := (m9.grow e10).setHand
        have tp10 : TP H9 (upd H10 a.LH (.lst (lhV s3.hand.dropLast))) := (ex_tp e10).trans (TP.upd (m9.grow e10).hand lst_no)
        have tpA := (tp8.trans tp9).trans tp10
        have leA := le9.tp tp10
        cases nm with
        | none =>
          exact s_when (b := false) (et_and (a := false) (b := false) (et_test (ev_op (ev_var rfl) ev_c rv_notN)) fun q => Bool.noConfusion q) (fun q => Bool.noConfusion q) fun _ H11 e11 => ⟨lg3, ra3, v3, _, _, _, rfl, m10.grow e11, leA.tp (ex_tp e11), tpA.trans (ex_tp e11)⟩
        | some n =>
          refine s_when (b := (bget s3.board n).isSome) (et_is (et_and (a := true) (b := (bget s3.board n).isSome) (et_test (ev_op (ev_var rfl) ev_c rv_notN)) fun _ => et_test (ev_is (ev_din (k := Sum.inr n) (ev_var rfl) (m10.evB (ev_var rfl)) m10.board) ?_)) (Bool.true_and _)) (fun q H11 e11 => ?_) fun q H11 e11 => ?_
          · show V.bl (valV (lbK s3.board) (Sum.inr n)).isSome = _
            rw [valV_lbS]
            cases bget s3.board n <;> rfl
          · cases hn : bget s3.board n with
            | none => rw [hn] at q; exact Bool.noConfusion q
            | some g =>
              have m11 := m10.grow e11
              refine s_dpop (k := Sum.inr n) (v := .int ((g : Nat) : Int)) m11.board (m11.evB (ev_var rfl)) (ev_var rfl) (by show valV (lbK s3.board) (Sum.inr n) = _; rw [valV_lbS, hn]; rfl) fun H12 e12 => ?_
              have hd : dropK (lbK { s3 with hand := s3.hand.dropLast }.board) (Sum.inr n) = lbK (bdrop s3.board n) := dropK_lb n s3.board
              rw [hd]
              have m12 : Lw H0 (upd H12 a.LB (.dK (lbK (bdrop s3.board n)))) a (popB (some n) s3) lg3 ra3 := (m11.grow e12).setBoard
              have tp12 : TP _ (upd H12 a.LB (.dK (lbK (bdrop s3.board n)))) := (ex_tp (e11.trans e12)).trans (TP.upd (m11.grow e12).board dk_no)
              exact ⟨lg3, ra3, v3, _, _, _, rfl, m12, leA.tp tp12, tpA.trans tp12⟩
          · have hn : bget s3.board n = none := by
              cases hn : bget s3.board n with
              | none => rfl
              | some g => rw [hn] at q; exact Bool.noConfusion q
            have es : popB (some n) s3 = { s3 with hand := s3.hand.dropLast } := by
              show { s3 with board := bdrop s3.board n, hand := s3.hand.dropLast } = _
              rw [bdrop_no hn]
            refine ⟨lg3, ra3, v3, _, _, _, rfl, ?_, leA.tp (ex_tp e11), tpA.trans (ex_tp e11)⟩
            show Lw _ _ _ (popB (some n) s3) _ _
            rw [es]
            exact m10.grow e11
    · rintro σ' H4 ⟨lg3, ra3, v3, oS, oR, oN, rfl, m4, le4, tp4⟩
      have hhd := exec_hand hh (pushB nm f s1) hhot
      have hwf := (WF.exec hh (pushB nm f s1) hhot wp).1.popB nm
      have hstp := exec_steps hh (pushB nm f s1)
      have hgl := (WF.exec hh (pushB nm f s1) hhot wp).2
      generalize exec hh (pushB nm f s1) = r3 at m4 le4 hhd hwf hstp hgl k
      obtain ⟨o3, s3⟩ := r3
      have m4 : Lw H0 H4 a (popB nm s3) lg3 ra3 := m4
      have le4 : LEnd H4 v3 o3 := le4
      have hhd : s3.hand = s1.hand ++ [f] := hhd
      have hw4 : WF 0 0 (popB nm s3) := hwf
      have hstp : s3.steps ≤ s1.steps + hh.size := hstp
      have hph : (popB nm s3).hand = s.hand := by
        show s3.hand.dropLast = _
        rw [hhd, List.dropLast_concat, hhd1]
      have hs4 : (popB nm s3).steps ≤ s.steps + 1 + hh.size := by show s3.steps ≤ _; omega
      have hgl : ∀ g, o3 = some g → g < (popB nm s3).rows.length := hgl
      generalize popB nm s3 = s4 at m4 hw4 hph hs4 hgl k
      have k : ∀ H' lg' ra' v, Lw H0 H' a s4 lg' ra' → LEnd H' v o3 → Q v H' := k
      obtain ⟨q3, ee, u, rfl, hq3, hdf, hds, hde, hu⟩ := le4.shape
      have e0 : ∀ {H5 : Hp} {σ' : L2.St} (c : Str), H5 q3 = some (.tup [.str ee, u]) → σ'[2]? = some (some (.ref q3)) → EvT (tTest (tOp rEq (tOp (rIxT K) (tVar 2) (tC (.int 0))) (tC (.str c)))) σ' H5 (decide (V.str ee = V.str c)) := fun c h hσ => et_test (ev_op (ev_op (ev_var hσ) ev_c (rv_ixT (st_of h) (atI_nat (j := 0) rfl))) ev_c (rv_eq rfl))
      refine q_when (b := false) (et_is (e0 "stopped" hq3 rfl) hds) (fun q => Bool.noConfusion q) fun _ H5 e5 => ?_
      have m5 := m4.grow e5
      have tp5 := tp4.trans (ex_tp e5)
      have hq5 := e5 _ _ hq3
      -- the last part
      have lastB : ∀ {H6 : Hp} {σ' : L2.St} {s5 : PS} {Q' : VK}, TP H5 H6 → σ'[0]? = some (some (.ref a.M)) → σ'[1]? = some (some (.ref p)) → Lw H0 H6 a s5 lg3 ra3 → WF 0 0 s5 → s5.steps ≤ 400 → s5.hand.length ≤ 100 → (∀ H8 lg8 ra8 q8, Lw H0 H8 a s5 lg8 ra8 → H8 q8 = some (.tup [.str "end", .non]) → TP H6 H8 → Q' (.ref q8) H8) → tCall (free (sp_lbody e)) [] E0 (tCons (tVar 0) (tCons (tOp (rIxT K) (tVar 1) (tC (.int 4))) tNil)) σ' H6 Q' := fun {H6 σ' s5 Q'} t h0 h1 m6 w6 hs6 hh6 kk =>
        x_call (ea_cons (ev_var h0) (ea_cons (ev_op (ev_var h1) ev_c (rv_ixT (st_of (t _ _ (tp5 _ _ t1))) (atI_nat (j := 4) rfl))) ea_nil)) fun H7 e7 => ⟨H0, a, s5, lg3, ra3, e2a, [], .nil, rfl, m6.grow e7, e7 _ _ (t _ _ (tp5 _ _ t10)), Nat.zero_le _, .nil, rfl, Nat.zero_le _, w6, hs6, hh6, fun H8 lg8 ra8 v8 m8 le8 tp8 => by
          obtain ⟨q8, rfl, hq8⟩ := le8
          exact kk H8 lg8 ra8 q8 m8 hq8 ((ex_tp e7).trans tp8)⟩
      have fin : ∀ {H9 : Hp} {lg9 ra9} {q8 : Addr} {oS oR oN : Option V}, H9 q8 = some (.tup [.str "end", .non]) → H9 q3 = some (.tup [.str ee, u]) → Lw H0 H9 a s4 lg9 ra9 → tRet (tIf (tTest (tOp rEq (tOp (rIxT K) (tVar 6) (tC (.int 0))) (tC (.str "end")))) (tVar 2) (tVar 6)) { nx := fun _ H' => Q .non H', rt := Q } [some (.ref a.M), some (.ref p), some (.ref q3), oS, oR, oN, some (.ref q8)] H9 := fun {H9 lg9 ra9 q8 oS oR oN} h8 h3 m9 =>
        s_ret (ev_if (b := true) (et_test (ev_op (ev_op (ev_var rfl) ev_c (rv_ixT (st_of h8) (atI_nat (j := 0) rfl))) ev_c (rv_eq rfl))) (fun _ => ev_var rfl) fun q => Bool.noConfusion q) fun H10 e10 => by
          refine k H10 lg9 ra9 _ (m9.grow e10) ?_
          have h3 := e10 _ _ h3
          cases o3 with
          | none => exact le4.re h3 hq3
          | some g => exact le4.re h3 hq3
      cases o3 with
      | none =>
        refine q_when (b := false) (et_is (e0 "fault" hq5 rfl) hdf) (fun q => Bool.noConfusion q) fun _ H6 e6 => ?_
        refine q_asgX (lastB (ex_tp e6) rfl rfl (m5.grow e6) hw4 (by omega) (by rw [hph]; omega) fun H8 lg8 ra8 q8 m8 hq8 tp8 => ?_)
        have h3 := tp8 _ _ (e6 _ _ hq5)
        refine q_when (b := false) (et_is (e0 "fault" h3 rfl) hdf) (fun q => Bool.noConfusion q) fun _ H9 e9 => ?_
        exact fin (e9 _ _ hq8) (e9 _ _ h3) (m8.grow e9)
      | some g =>
        have eu := hu g rfl
        refine q_when (b := true) (et_is (e0 "fault" hq5 rfl) hdf) (fun _ H6 e6 => ?_) fun q => Bool.noConfusion q
        have m6 := m5.grow e6
        have hgb := hgl g rfl
        refine s_app m6.hand (m6.evH (ev_var rfl)) (ev_op (ev_var rfl) ev_c (rv_ixT (st_of (e6 _ _ hq5)) (atI_nat (j := 1) (by rw [eu]; rfl)))) (by unfold lhV; rw [List.length_map, hph]; omega) fun H7 e7 => ?_
        rw [lhV_snoc]
        have m7 : Lw H0 (upd H7 a.LH (.lst (lhV (s4.hand ++ [g])))) a { s4 with hand := s4.hand ++ [g] } lg3 ra3 := (m6.grow e7).setHand
        have tp7 : TP H6 (upd H7 a.LH (.lst (lhV (s4.hand ++ [g])))) := (ex_tp e7).trans (TP.upd (m6.grow e7).hand lst_no)
        have w7 : WF 0 0 { s4 with hand := s4.hand ++ [g] } := ⟨hw4.brd, fun i hi => by
          rcases List.mem_append.mp hi with z | z
          · exact hw4.hnd i z
          · rw [List.mem_singleton.mp z]; exact hgb, hw4.ctx, hw4.cau, hw4.rnk, hw4.nr, hw4.nl, hw4.nb⟩
        refine q_asgX (lastB ((ex_tp e6).trans tp7) rfl rfl m7 w7 (by show s4.steps ≤ _; omega) (by show (s4.hand ++ [g]).length ≤ _; rw [List.length_append, hph, List.length_singleton]; omega) fun H8 lg8 ra8 q8 m8 hq8 tp8 => ?_)
        have h3 := tp8 _ _ (tp7 _ _ (e6 _ _ hq5))
        refine q_when (b := true) (et_is (e0 "fault" h3 rfl) hdf) (fun _ H9 e9 => ?_) fun q => Bool.noConfusion q
        have m9 := m8.grow e9
        refine s_pop m9.hand (lhV_ne (by show s4.hand ++ [g] ≠ []; simp)) (m9.evH (ev_var rfl)) fun H10 e10 => ?_
        rw [lhV_drop]
        have m10 : Lw H0 (upd H10 a.LH (.lst (lhV (s4.hand ++ [g]).dropLast))) a { s4 with hand := (s4.hand ++ [g]).dropLast } lg8 ra8 := (m9.grow e10).setHand
        have e4 : ({ s4 with hand := (s4.hand ++ [g]).dropLast } : PS) = s4 := by rw [List.dropLast_concat]
        rw [e4] at m10
        have tp10 : TP H9 (upd H10 a.LH (.lst (lhV (s4.hand ++ [g]).dropLast))) := (ex_tp e10).trans (TP.upd (m9.grow e10).hand lst_no)
        exact fin (tp10 _ _ (e9 _ _ hq8)) (tp10 _ _ (e9 _ _ h3)) m10
end
end L2.EX
namespace L2.EX
open PySem PySem.Spec PyProof.Rows Evl
/-! The law's own run: statements, bodies. -/
section
variable {w : World} {K : Frg} {mg : Str → Option Value} {base : Heap}
def sp_lstm (e : Nat) : Sp := fun vs H Q _ => ∃ H0 a s lg ra p, vs = [.ref a.M, .ref p] ∧ Lw H0 H a s lg ra ∧ WF 0 0 s ∧ s.steps ≤ 399 ∧
  ((∃ x, H p = some (.tup (simV x)) ∧ ∀ H' lg' ra' v, Lw H0 H' a (execS x (tick s)).2 lg' ra' → LEnd H' v (execS x (tick s)).1 → Q v H') ∨
   (∃ x nm h, TriAt H p x nm h ∧ x.hot = true ∧ h.hot = true ∧ h.dep + 1 ≤ e ∧ s.steps + 2 + h.size ≤ 400 ∧ s.hand.length + (h.dep + 1) ≤ 100 ∧ ∀ H' lg' ra' v, Lw H0 H' a (triX x nm h (tick s)).2 lg' ra' → LEnd H' v (triX x nm h (tick s)).1 → Q v H'))
theorem ok_l_statement (T : Tx w K mg) {k e : Nat} {spt : Sp} (hk : 2 ≤ k) (hsp : 0 < e → spt = sp_ltry e) (F_l_raising : FOk PW w K mg base 2 (f_l_raising K) ["_law_m", "_law_s"] [] sp_lraising) (F_l_try : FOk PW w K mg base k (f_l_try K) ["_law_m", "_law_s"] [] spt) :
    FOk PW w K mg base (k + 1) (f_l_statement K) ["_law_m", "_law_s"] [] (sp_lstm e) := by
  obtain ⟨fd, F⟩ := T.d_l_statement
  refine ⟨⟨fd, [], F.ok sc_l_statement (fun vs H Q E h => ?_) (fun cdv A outer s H vs Q E hr h => ?_), F.bindsN fun _ _ _ _ _ _ us hl => match us, hl with | [_, _], _ => rfl, .nil⟩, F.kp⟩
  · obtain ⟨H0, a, s, lg, ra, p, rfl, _⟩ := h
    rfl
  · obtain ⟨H0, a, s, lg, ra, p, rfl, m, wf, hst, alt⟩ := h
    refine ⟨_, (PSs.nox (pss_cons (ps_if (pt_cmpR op_eq (pe_dget (hu_of hr) (pv 0) pe_str (fun _ _ => rfl)) (pe_dget (hu_of hr) (pv 0) pe_str (fun _ _ => rfl)) (nomark _)) (pss_one (ps_ret (pe_tup (pa_cons pe_str (pa_cons pe_non pa_nil))))) pss_nil) (pss_cons (ps_asg (pe_op op_add (pe_dget (hu_of hr) (pv 0) pe_str (fun _ _ => rfl)) pe_int) (pg_sub (pv 0) pe_str (set_dict (hu_of hr)) (fun _ => rfl))) (pss_cons (ps_if (pt_cmpR op_in_seq (pe_ix ix_tup (pv 1) pe_int (fun _ _ => rfl)) (pe_tup (pa_cons pe_str (pa_cons pe_str (pa_cons pe_str pa_nil)))) rfl) (pss_one (ps_ret (pk_call F_l_raising hr rfl T.g_l_raising (pa_cons (pv 0) (pa_cons (pv 1) pa_nil))))) pss_nil) (pss_cons (ps_if (pt_cmpR op_in_seq (pe_ix ix_tup (pv 1) pe_int (fun _ _ => rfl)) (pe_tup (pa_cons pe_str (pa_cons pe_str (pa_cons pe_str pa_nil)))) rfl) (pss_one (ps_ret (pe_tup (pa_cons (pe_ix ix_tup (pv 1) pe_int (fun _ _ => rfl)) (pa_cons (pe_ifExp (pt_cmpR op_eq (pe_ix ix_tup (pv 1) pe_int (fun _ _ => rfl)) pe_str (nomark _)) (pe_ix ix_tup (pv 1) pe_int (fun _ _ => rfl)) pe_non) pa_nil))))) pss_nil) (pss_cons (ps_if (PW.pt (pw_or (pt_cmpR op_eq (pe_ix ix_tup (pv 1) pe_int (fun _ _ => rfl)) pe_str (nomark _)) (pw_or1 (pt_cmpR op_eq (pe_ix ix_tup (pv 1) pe_int (fun _ _ => rfl)) pe_str (nomark _))))) (pss_one (ps_ret (pe_ifExp (pt_cmpR op_eq (pe_ix ix_tup (pv 1) pe_int (fun _ _ => rfl)) pe_str (nomark _)) (pk_call F_l_try hr rfl T.g_l_try (pa_cons (pv 0) (pa_cons (pv 1) pa_nil))) pe_no))) pss_nil) (pss_cons (ps_if (pt_cmpR op_eq (pe_ix ix_tup (pv 1) pe_int (fun _ _ => rfl)) pe_str (nomark _)) (pss_cons ps_never (pss_one ps_never)) pss_nil) (pss_cons (ps_if (PW.pt (pw_and (pt_cmpR op_eq (pe_ix ix_tup (pv 1) pe_int (fun _ _ => rfl)) pe_str (nomark _)) (pw_and1 pt_no))) (pss_one ps_never) pss_nil) (pss_cons (ps_expr (pe_bm PySem.F.plainAttrs_list PySem.F.slot_list_append PySem.F.type_list_append mt_append (pe_dget (hu_of hr) (pv 0) pe_str (fun _ _ => rfl)) (pa_cons (pe_ifExp (pt_cmpR op_eq (pe_ix ix_tup (pv 1) pe_int (fun _ _ => rfl)) pe_str (nomark _)) pe_no (pv 1)) pa_nil))) (pss_one (ps_ret (pe_tup (pa_cons pe_str (pa_cons pe_non pa_nil)))))))))))))), ?_⟩
    refine q_when (b := false) (et_test (ev_is (ev_op (m.evS (ev_var rfl)) (m.evMo (ev_var rfl)) (rv_eq rfl)) (congrArg V.bl (decide_eq_false fun z => by have := V.int.inj z; omega)))) (fun q => Bool.noConfusion q) fun _ H1 e1 => ?_
    have m1 := m.grow e1
    refine q_asgXT (ev_op (m1.evS (ev_var rfl)) ev_c rv_I0 H1 (Ex.refl _) _ fun H2 e2 => ?_)
    refine g_dset (k := Sum.inr "steps") (ev_var rfl) ev_c (m1.grow e2).dict (sz_lt (show 6 < 100000 by decide)) fun H3 e3 => ?_
    have m3 : Lw H0 (upd H3 a.M (.dK (mK a ((s.steps + 1 : Nat) : Int)))) a (tick s) lg ra := ((m1.grow e2).grow e3).setStep
    have tp3 : TP H (upd H3 a.M (.dK (mK a ((s.steps + 1 : Nat) : Int)))) := (ex_tp (e1.trans (e2.trans e3))).trans (TP.upd ((m1.grow e2).grow e3).dict dk_no)
    generalize he3 : upd H3 a.M (.dK (mK a ((s.steps + 1 : Nat) : Int))) = H4 at m3 tp3
    have he3' : upd H3 a.M (.dK (putK (mK a s.steps) (Sum.inr "steps") (.int ((s.steps : Int) + 1)))) = H4 := he3
    rw [he3']
    have i0 : ∀ {H5 : Hp} {σ' : L2.St} {z : Str} {ys : List V}, H5 p = some (.tup (.str z :: ys)) → σ'[1]? = some (some (.ref p)) → Evl.Ev (tOp (rIxT K) (tVar 1) (tC (.int 0))) σ' H5 (.str z) := fun h hσ => ev_op (ev_var hσ) ev_c (rv_ixT (st_of h) (atI_nat (j := 0) rfl))
    have wft := wf.tick
    have run : ∀ {x : Sim}, x.hot = true → H p = some (.tup (simV x)) → (∀ H' lg' ra' v, Lw H0 H' a (execS x (tick s)).2 lg' ra' → LEnd H' v (execS x (tick s)).1 → Q v H') → ∀ {H5 : Hp} {σ' : L2.St}, Ex H4 H5 → σ'[0]? = some (some (.ref a.M)) → σ'[1]? = some (some (.ref p)) → tRet (tCall (free sp_lraising) [] E0 (tCons (tVar 0) (tCons (tVar 1) tNil))) { nx := fun _ H' => Q .non H', rt := Q } σ' H5 := fun {x} hx hp kk {H5 σ'} e5 h0 h1 =>
      s_retX (x_call (ea_cons (ev_var h0) (ea_cons (ev_var h1) ea_nil)) fun H6 e6 => ⟨H0, a, tick s, lg, ra, x, p, rfl, m3.grow (e5.trans e6), (e5.trans e6) _ _ (tp3 _ _ hp), hx, wft.mono (by omega) (by omega), (by show s.steps + 1 ≤ 1000; omega), fun H7 lg' ra' v m7 le _ => kk H7 lg' ra' v m7 le⟩)
    rcases alt with ⟨x, hp, kk⟩ | ⟨x, nm, h, tri, hx, hh, hde, hs2, hhd, kk⟩
    · have hp4 := tp3 _ _ hp
      cases x with
      | raise kd lb src => exact q_when (b := true) (et_test (ev_is (ev_inU (i0 hp4 rfl) (eu_tup (ea_cons ev_c (ea_cons ev_c (ea_cons ev_c ea_nil))) (show 3 ≤ 100000 by decide)) rfl rfl) (by decide +kernel))) (fun _ H5 e5 => run rfl hp kk e5 rfl rfl) fun q => Bool.noConfusion q
      | throw n src => exact q_when (b := true) (et_test (ev_is (ev_inU (i0 hp4 rfl) (eu_tup (ea_cons ev_c (ea_cons ev_c (ea_cons ev_c ea_nil))) (show 3 ≤ 100000 by decide)) rfl rfl) (by decide +kernel))) (fun _ H5 e5 => run rfl hp kk e5 rfl rfl) fun q => Bool.noConfusion q
      | again => exact q_when (b := true) (et_test (ev_is (ev_inU (i0 hp4 rfl) (eu_tup (ea_cons ev_c (ea_cons ev_c (ea_cons ev_c ea_nil))) (show 3 ≤ 100000 by decide)) rfl rfl) (by decide +kernel))) (fun _ H5 e5 => run rfl hp kk e5 rfl rfl) fun q => Bool.noConfusion q
      | note i =>
        refine q_when (b := false) (et_test (ev_is (ev_inU (i0 hp4 rfl) (eu_tup (ea_cons ev_c (ea_cons ev_c (ea_cons ev_c ea_nil))) (show 3 ≤ 100000 by decide)) rfl rfl) (by decide +kernel))) (fun q => Bool.noConfusion q) fun _ H5 e5 => ?_
        have hp5 := e5 _ _ hp4
        refine q_when (b := false) (et_test (ev_is (ev_inU (i0 hp5 rfl) (eu_tup (ea_cons ev_c (ea_cons ev_c (ea_cons ev_c ea_nil))) (show 3 ≤ 100000 by decide)) rfl rfl) (by decide +kernel))) (fun q => Bool.noConfusion q) fun _ H6 e6 => ?_
        have hp6 := e6 _ _ hp5
        refine q_when (b := false) (et_or (a := false) (b := false) (et_test (ev_op (i0 hp6 rfl) ev_c (rv_eq rfl))) fun _ => et_test (ev_op (i0 hp6 rfl) ev_c (rv_eq rfl))) (fun q => Bool.noConfusion q) fun _ H7 e7 => ?_
        have hp7 := e7 _ _ hp6
        refine q_when (b := false) (et_test (ev_op (i0 hp7 rfl) ev_c (rv_eq rfl))) (fun q => Bool.noConfusion q) fun _ H8 e8 => ?_
        have hp8 := e8 _ _ hp7
        refine q_when (b := false) (et_and (a := false) (b := false) (et_test (ev_op (i0 hp8 rfl) ev_c (rv_eq rfl))) fun q => Bool.noConfusion q) (fun q => Bool.noConfusion q) fun _ H9 e9 => ?_
        have hp9 := e9 _ _ hp8
        have m9 := m3.grow (((e5.trans e6).trans e7).trans (e8.trans e9))
        refine q_app m9.logl (m9.evL (ev_var rfl)) (ev_if (b := false) (et_test (ev_op (i0 hp9 rfl) ev_c (rv_eq rfl))) (fun q => Bool.noConfusion q) fun _ => ev_var rfl) (by have := m9.log.len; have := wft.nl; have : (tick s).steps = s.steps + 1 := rfl; omega) fun H10 e10 => ?_
        have m10 := (m9.grow e10).setLog (e := .note i) (e10 _ _ hp9)
        exact s_retU (D := { nx := fun _ H' => Q .non H', rt := Q }) (eu_tup (ea_cons ev_c (ea_cons ev_c ea_nil)) (show 2 ≤ 100000 by decide)) fun q H11 _ e11 h11 => kk H11 _ _ (.ref q) (m10.grow e11) ⟨q, rfl, h11⟩
    · have tri4 := tri.tp tp3
      obtain ⟨b, q, hs, h1, hb, e1a, e2a, ws, t1, t2⟩ := tri4
      refine q_when (b := false) (et_test (ev_is (ev_inU (i0 t1 rfl) (eu_tup (ea_cons ev_c (ea_cons ev_c (ea_cons ev_c ea_nil))) (show 3 ≤ 100000 by decide)) rfl rfl) (by decide +kernel))) (fun q => Bool.noConfusion q) fun _ H5 e5 => ?_
      have hp5 := e5 _ _ t1
      refine q_when (b := false) (et_test (ev_is (ev_inU (i0 hp5 rfl) (eu_tup (ea_cons ev_c (ea_cons ev_c (ea_cons ev_c ea_nil))) (show 3 ≤ 100000 by decide)) rfl rfl) (by decide +kernel))) (fun q => Bool.noConfusion q) fun _ H6 e6 => ?_
      have hp6 := e6 _ _ hp5
      refine q_when (b := true) (et_or (a := true) (b := true) (et_test (ev_op (i0 hp6 rfl) ev_c (rv_eq rfl))) fun q => Bool.noConfusion q) (fun _ H7 e7 => ?_) fun q => Bool.noConfusion q
      have hp7 := e7 _ _ hp6
      refine s_retX (x_if (b := true) (et_test (ev_op (i0 hp7 rfl) ev_c (rv_eq rfl))) (fun _ H8 e8 => ?_) fun q => Bool.noConfusion q)
      have g := ((e5.trans e6).trans e7).trans e8
      obtain rfl := hsp (by omega)
      refine x_call (ea_cons (ev_var rfl) (ea_cons (ev_var rfl) ea_nil)) fun H9 e9 => ?_
      exact ⟨H0, a, tick s, lg, ra, p, x, nm, h, rfl, m3.grow (g.trans e9), (tri.tp tp3).tp (ex_tp (g.trans e9)), hx, hh, hde, wft, (by show s.steps + 1 + 1 + h.size ≤ 400; omega), hhd, fun H10 lg' ra' v m10 le _ => kk H10 lg' ra' v m10 le⟩
theorem ok_l_body (T : Tx w K mg) {k e : Nat} (F_l_statement : FOk PW w K mg base k (f_l_statement K) ["_law_m", "_law_s"] [] (sp_lstm e)) : FOk PW w K mg base (k + 1) (f_l_body K) ["_law_m", "_law_body_here"] [] (sp_lbody e) := by
  obtain ⟨fd, F⟩ := T.d_l_body
  refine ⟨⟨fd, [], F.ok sc_l_body (fun vs H Q E h => ?_) (fun cdv A outer s H vs Q E hr h => ?_), F.bindsN fun _ _ _ _ _ _ us hl => match us, hl with | [_, _], _ => rfl, .nil⟩, F.kp⟩
  · obtain ⟨H0, a, s, lg, ra, p, us, b, rfl, _⟩ := h
    rfl
  · obtain ⟨H0, a, s, lg, ra, p, us, b, rfl, m, hp, hus, bt, hot, hdep, wf, hst, hhd, k⟩ := h
    refine ⟨_, (PSs.nox (pss_cons (ps_for PassesOwn.never rfl (pi_tup (pv 1)) (pg_name (i := 2) sc_l_body.nd rfl (Or.inl rfl)) (pss_cons (ps_set (i := 3) sc_l_body.nd rfl (Or.inl rfl) (pk_call F_l_statement hr rfl T.g_l_statement (pa_cons (pv 0) (pa_cons (pv 2) pa_nil)))) (pss_one (ps_if (pt_cmpR op_ne (pe_ix ix_tup (pv 3) pe_int (fun _ _ => rfl)) pe_str (nomark _)) (pss_one (ps_ret (pv 3))) pss_nil)))) (pss_one (ps_ret (pe_tup (pa_cons pe_str (pa_cons pe_non pa_nil))))))), ?_⟩
    refine q_forT (xs := us) (ev_var rfl) (st_of hp) (fun i σ' H' => ∃ o1 o2 lg' ra' s' b', σ' = [some (.ref a.M), some (.ref p), o1, o2] ∧ TP H H' ∧ Lw H0 H' a s' lg' ra' ∧ BdyT H' (us.drop i) b' ∧ b'.hot = true ∧ b'.dep ≤ e ∧ WF 0 0 s' ∧ s'.steps + b'.size ≤ 400 ∧ s'.hand.length + b'.dep ≤ 100 ∧ exec b s = exec b' s')
      (fun H1 e1 => ⟨none, none, lg, ra, s, b, rfl, ex_tp e1, m.grow e1, by rw [List.drop_zero]; exact bt.tp (ex_tp e1), hot, hdep, wf, hst, hhd, rfl⟩) (fun i σ' H' _ ⟨_, _, _, _, _, _, _, t, _⟩ => st_of (t _ _ hp)) (fun i x σ' H' hx pv => ?_) fun σ' H' pv => ?_
    · obtain ⟨o1, o2, lg', ra', s', b', rfl, t, m', bt', hot', hdep', wf', hst', hhd', hex⟩ := pv
      show tSeq _ _ _ [some (.ref a.M), some (.ref p), some x, o2] H'
      have hlt : i < us.length := (List.getElem?_eq_some_iff.mp hx).1
      have hdr := List.drop_eq_getElem_cons hlt
      have ex0 : us[i] = x := (List.getElem?_eq_some_iff.mp hx).2
      rw [ex0] at hdr
      rw [hdr] at bt'
      -- behind the statement
      have after : ∀ {H3 : Hp} {lg3 ra3 v} {o : Option Nat} {s3 : PS} {r : Bdy}, TP H H3 → LEnd H3 v o → Lw H0 H3 a s3 lg3 ra3 → BdyT H3 (us.drop (i + 1)) r → r.hot = true → r.dep ≤ e → WF 0 0 s3 → s3.steps + r.size ≤ 400 → s3.hand.length + r.dep ≤ 100 → exec b s = (match (o, s3) with | (none, s1) => exec r s1 | (some f, s1) => (some f, s1)) →
          tIfS (tTest (tOp rNe (tOp (rIxT K) (tVar 3) (tC (.int 0))) (tC (.str "end")))) (tRet (tVar 3)) tNext { nx := fun σ' H' => ∃ o1 o2 lg' ra' s' b', σ' = [some (.ref a.M), some (.ref p), o1, o2] ∧ TP H H' ∧ Lw H0 H' a s' lg' ra' ∧ BdyT H' (us.drop (i + 1)) b' ∧ b'.hot = true ∧ b'.dep ≤ e ∧ WF 0 0 s' ∧ s'.steps + b'.size ≤ 400 ∧ s'.hand.length + b'.dep ≤ 100 ∧ exec b s = exec b' s', rt := Q } [some (.ref a.M), some (.ref p), some x, some v] H3 := fun {H3 lg3 ra3 v o s3 r} t3 le m3 bt3 hot3 hdep3 wf3 hst3 hhd3 hex3 => by
        obtain ⟨q, ee, u, rfl, hq, _, _, hde, _⟩ := le.shape
        refine s_when (b := !o.isNone) (et_test (ev_is (ev_op (ev_op (ev_var rfl) ev_c (rv_ixT (st_of hq) (atI_nat (j := 0) rfl))) ev_c (rv_ne rfl)) (by rw [hde]))) (fun z H4 e4 => ?_) fun z H4 e4 => ?_
        · cases o with
          | none => exact Bool.noConfusion z
          | some f =>
            rw [hex3] at k
            exact s_ret (ev_var rfl) fun H5 e5 => k H5 lg3 ra3 (.ref q) (m3.grow (e4.trans e5)) (le.tp (ex_tp (e4.trans e5)))
        · cases o with
          | some f => exact Bool.noConfusion z
          | none => exact ⟨_, _, lg3, ra3, s3, r, rfl, t3.trans (ex_tp e4), m3.grow e4, bt3.tp (ex_tp e4), hot3, hdep3, wf3, hst3, hhd3, hex3⟩
      cases bt' with
      | @sim p1 _ y r h ok bt2 =>
        refine q_asgX (x_call (ea_cons (ev_var rfl) (ea_cons (ev_var rfl) ea_nil)) fun H2 e2 => ?_)
        have hst'' : s'.steps + (r.size + 1) ≤ 400 := hst'
        refine ⟨H0, a, s', lg', ra', p1, rfl, m'.grow e2, wf', by omega, .inl ⟨y, e2 _ _ h, fun H3 lg3 ra3 v m3 le3 t3 => ?_⟩⟩
        have kp := execS_keeps y (tick s')
        have w3 := wf'.tick.execS y
        have tt := (ex_tp e2).trans t3
        have hex2 := hex.trans (exec_sim y r s')
        generalize execS y (tick s') = r3 at m3 le3 kp w3 hex2
        obtain ⟨o, s3⟩ := r3
        have k1 : s3.steps = s'.steps + 1 := kp.1
        have k2 : s3.hand = s'.hand := kp.2.2
        have w3 : WF 0 1 s3 := w3
        have hr : r.hot = true := hot'
        have hd : r.dep ≤ e := hdep'
        have hhd'' : s'.hand.length + r.dep ≤ 100 := hhd'
        have g1 : s3.steps + r.size ≤ 400 := by omega
        exact after (s3 := s3) (t.trans tt) le3 m3 (bt2.tp tt) hr hd (w3.mono (by omega) (by omega)) g1 (by rw [k2]; omega) hex2
      | @tri p1 b1 q1 hs1 h1 h2 e1a e2a y nm h r ws _ a1 a2 a3 ok a4 a5 a6 a7 a8 a9 a10 bt2 =>
        have hb1 : y.hot = true ∧ (h.hot && r.hot) = true := Bool.and_eq_true_iff.mp hot'
        have hb2 := Bool.and_eq_true_iff.mp hb1.2
        have hd1 : max (h.dep + 1) r.dep ≤ e := hdep'
        have hd2 : s'.hand.length + max (h.dep + 1) r.dep ≤ 100 := hhd'
        have hst'' : s'.steps + (h.size + r.size + 2) ≤ 400 := hst'
        refine q_asgX (x_call (ea_cons (ev_var rfl) (ea_cons (ev_var rfl) ea_nil)) fun H2 e2 => ?_)
        refine ⟨H0, a, s', lg', ra', p1, rfl, m'.grow e2, wf', by omega, .inr ⟨y, nm, h, TriAt.tp (ex_tp e2) ⟨b1, q1, hs1, h1, h2, e1a, e2a, ws, a1, a2, a3, ok, a4, a5, a6, a7, a8, a10⟩, hb1.1, hb2.1, by omega, by omega, by omega, fun H3 lg3 ra3 v m3 le3 t3 => ?_⟩⟩
        have w3 := triX_wf (nm := nm) hb1.1 hb2.1 wf'.tick
        have k1 := triX_steps (nm := nm) (h := h) (s := tick s') hb1.1
        have k2 := triX_hand (nm := nm) (s := tick s') hb1.1 hb2.1
        have tt := (ex_tp e2).trans t3
        have hex2 := hex.trans (exec_tri (nm := nm) (h := h) (r := r) (s := s') hb1.1)
        generalize triX y nm h (tick s') = r3 at m3 le3 w3 k1 k2 hex2
        obtain ⟨o, s3⟩ := r3
        have k1 : s3.steps ≤ s'.steps + 1 + 1 + h.size := k1
        have k2 : s3.hand = s'.hand := k2
        have g1 : s3.steps + r.size ≤ 400 := by omega
        exact after (s3 := s3) (t.trans tt) le3 m3 (bt2.tp tt) hb2.2 (by omega) w3 g1 (by rw [k2]; omega) hex2
    · obtain ⟨o1, o2, lg', ra', s', b', rfl, t, m', bt', hot', hdep', wf', hst', hhd', hex⟩ := pv
      rw [List.drop_length] at bt'
      cases bt' with
      | nil =>
        rw [hex] at k
        exact s_retU (D := { nx := fun _ H' => Q .non H', rt := Q }) (eu_tup (ea_cons ev_c (ea_cons ev_c ea_nil)) (show 2 ≤ 100000 by decide)) fun q H2 _ e2 h2 => k H2 lg' ra' (.ref q) (m'.grow e2) ⟨q, rfl, h2⟩
theorem ok_lt_no (T : Tx w K mg) : FOk PW w K mg base 1 (f_l_try K) ["_law_m", "_law_s"] [] (fun _ _ _ _ => False) := by
  have F_l_fits : FOk PW w K mg base 1 (f_l_fits K) ["_law_one", "_law_some"] [] sp_lfits := ok_l_fits T
  obtain ⟨fd, F⟩ := T.d_l_try
  refine ⟨⟨fd, [], F.ok sc_l_try (fun vs H Q E h => h.elim) (fun cdv A outer s H vs Q E hr h => h.elim), F.bindsN fun _ _ _ _ _ _ us hl => match us, hl with | [_, _], _ => rfl, .nil⟩, F.kp⟩
/-- all depths -/
theorem ok_l_body_all (T : Tx w K mg) (F_l_fits : FOk PW w K mg base 1 (f_l_fits K) ["_law_one", "_law_some"] [] sp_lfits) (F_l_raising : FOk PW w K mg base 2 (f_l_raising K) ["_law_m", "_law_s"] [] sp_lraising) : ∀ e, FOk PW w K mg base (5 + 3 * e) (f_l_body K) ["_law_m", "_law_body_here"] [] (sp_lbody e)
  | 0 => ok_l_body T (ok_l_statement T (k := 3) (by decide) (fun h => absurd h (Nat.lt_irrefl 0)) F_l_raising ((ok_lt_no T).mono (by decide)))
  | e + 1 => by
    have B := ok_l_body_all T F_l_fits F_l_raising e
    have Y := ok_l_try T (by omega) F_l_fits B
    have S := ok_l_statement T (k := 5 + 3 * e + 1) (e := e + 1) (by omega) (fun _ => rfl) F_l_raising Y
    exact (ok_l_body T S).mono (by omega)
end
end L2.EX
namespace L2.EX
open PySem PySem.Spec PyProof.Rows Evl
/-! The law's draw: a pick, some throws. -/
theorem FOk.imp {P : Program} {w : World} {K : Frg} {mg : Str → Option Value} {base : Heap} {k : Nat} {f : Addr} {ps : List Str} {dvs : List V} {sp sp' : Sp} (F : FOk P w K mg base k f ps dvs sp) (h : ∀ vs H Q E, sp' vs H Q E → sp vs H Q E) : FOk P w K mg base k f ps dvs sp' := by
  obtain ⟨⟨fd, ds, F1, F2, F3⟩, kp⟩ := F
  exact ⟨⟨fd, ds, ⟨fun vs H Q E q => F1.len vs H Q E (h _ _ _ _ q), fun A outer s H args us vs Q E hr he hb hv hs => F1.run A outer s H args us vs Q E hr he hb hv (h _ _ _ _ hs)⟩, F2, F3⟩, kp⟩
/-- what is kept by the draw -/
def Kp (D G : Addr) (H H' : Hp) : Prop := ∀ b o, b ≠ D → b ≠ G → H b = some o → H' b = some o
def DrS (D G : Addr) (t : Int) (H : Hp) : Prop := ∃ m gs, D ≠ G ∧ H D = some (.dK [(Sum.inr "mixed", .int m), (Sum.inr "great", .ref G), (Sum.inr "turn", .int t)]) ∧ H G = some (.lst (gs.map V.int)) ∧ DrOk m gs t
section
variable {D G p : Addr} {H H1 H2 H' : Hp} {t : Int} {o : HO}
theorem Kp.refl : Kp D G H H := fun _ _ _ _ h => h
theorem Kp.trans (a : Kp D G H H1) (b : Kp D G H1 H2) : Kp D G H H2 := fun x o n1 n2 h => b x o n1 n2 (a x o n1 n2 h)
theorem Kp.ex (e : Ex H H1) : Kp D G H H1 := fun x o _ _ h => e x o h
theorem Kp.mut (a : Kp D G H H1) (h : H p = none) : Kp D G H (upd H1 p o) := fun x u n1 n2 e => by
  rw [upd_ne (ne_of_none e h)]
  exact a x u n1 n2 e
theorem DrS.ex (d : DrS D G t H) (e : Ex H H1) : DrS D G t H1 := by
  obtain ⟨m, gs, n, h1, h2, ok⟩ := d
  exact ⟨m, gs, n, e _ _ h1, e _ _ h2, ok⟩
theorem DrS.upd (d : DrS D G t H) (n1 : p ≠ D) (n2 : p ≠ G) : DrS D G t (upd H p o) := by
  obtain ⟨m, gs, n, h1, h2, ok⟩ := d
  exact ⟨m, gs, n, by rw [upd_ne (Ne.symm n1)]; exact h1, by rw [upd_ne (Ne.symm n2)]; exact h2, ok⟩
/-- a new thing is none of the draw's -/
theorem DrS.ne (d : DrS D G t H) (h : H p = none) : p ≠ D ∧ p ≠ G := by
  obtain ⟨m, gs, n, h1, h2, ok⟩ := d
  exact ⟨fun z => ne_of_none h1 h z.symm, fun z => ne_of_none h2 h z.symm⟩
theorem DrS.neL {xs : List V} (d : DrS D G t H) (h : H p = some (.lst xs)) : p ≠ D := by
  obtain ⟨m, gs, n, h1, h2, ok⟩ := d
  exact ne_of h h1 (by intro z; cases z)
end
section
variable {w : World} {K : Frg} {mg : Str → Option Value} {base : Heap}
def sp_nxt : Sp := fun vs H Q _ => ∃ (D G : Addr) (t b : Int), vs = [.ref D, .int b] ∧ DrS D G t H ∧ t + 1 ≤ 100000 ∧ 1 ≤ b ∧ b ≤ 1000 ∧ ∀ H' r, DrS D G (t + 1) H' → Kp D G H H' → 0 ≤ r → r < b → Q (.int r) H'
theorem nxt_of {vs : List V} {H : Hp} {Q : VK} {E : XK} (h : sp_nxt vs H Q E) : sp_next K vs H Q E := by
  obtain ⟨D, G, t, b, rfl, ⟨m, gs, n, h1, h2, ok⟩, ht, hb1, hb2, k⟩ := h
  have w0 : Own (cut H (drc D G m gs t)) H (drc D G m gs t) := by
    refine ⟨fun b o e => ?_, fun c hc => ?_, ?_, fun c hc => ?_⟩
    · unfold EX.cut at e
      split at e
      · cases e
      · exact e
    · unfold EX.cut
      rw [if_pos (List.mem_map.mpr ⟨c, hc, rfl⟩)]
    · show [D, G].Nodup
      simp [n]
    · rcases List.mem_cons.mp hc with e | hc
      · rw [e]; exact h1
      · rw [List.mem_singleton.mp hc]; exact h2
  refine ⟨_, D, G, m, gs, t, b, rfl, w0, ok, ht, hb1, hb2, fun H' m' gs' r w1 ok' h0 hb => k H' r ⟨m', gs', n, w1.get 0 rfl, w1.get 1 rfl, ok'⟩ (fun x o n1 n2 hx => w1.same x o ?_) h0 hb⟩
  unfold EX.cut
  rw [if_neg (fun m => ?_)]
  · exact hx
  · have m : x ∈ [D, G] := m
    rcases List.mem_cons.mp m with z | z
    · exact n1 z
    · exact n2 (List.mem_singleton.mp z)
def sp_pick : Sp := fun vs H Q _ => ∃ (D G L : Addr) (t : Int) (xs : List V), vs = [.ref D, .ref L] ∧ DrS D G t H ∧ t + 1 ≤ 100000 ∧ H L = some (.lst xs) ∧ L ≠ G ∧ xs ≠ [] ∧ xs.length ≤ 1000 ∧ ∀ H' x, x ∈ xs → DrS D G (t + 1) H' → Kp D G H H' → Q x H'
theorem ok_l_pick (T : Tx w K mg) (F_l_next : FOk PW w K mg base 1 (f_l_next K) ["_law_draw", "_law_below"] [] sp_nxt) : FOk PW w K mg base 2 (f_l_pick K) ["_law_draw", "_law_some"] [] sp_pick := by
  obtain ⟨fd, F⟩ := T.d_l_pick
  refine ⟨⟨fd, [], F.ok sc_l_pick (fun vs H Q E h => ?_) (fun cdv A outer s H vs Q E hr h => ?_), F.bindsN fun _ _ _ _ _ _ us hl => match us, hl with | [_, _], _ => rfl, .nil⟩, F.kp⟩
  · obtain ⟨D, G, L, t, xs, rfl, _⟩ := h
    rfl
  · obtain ⟨D, G, L, t, xs, rfl, d, ht, hL, nLG, hne, hlen, k⟩ := h
    refine ⟨_, (PSs.nox (pss_one (ps_ret (pe_ix ix_list (pv 1) (pk_call F_l_next hr rfl T.g_l_next (pa_cons (pv 0) (pa_cons (pe_callB call_len rfl T.z_len boot_len (pa_cons (pv 1) pa_nil)) pa_nil))) (fun _ _ => rfl))))), ?_⟩
    have hpos := List.length_pos_iff.mpr hne
    refine s_retX (ev_var (v := .ref L) rfl H (Ex.refl _) _ fun H1 e1 => ?_)
    refine x_call (vs := [.ref D, .int (xs.length : Int)]) (ea_cons (ev_var rfl) (ea_cons (ev_cb (ea_cons (ev_var rfl) ea_nil) (rc_len fun H5 e5 => .inl ⟨_, sq_of (e5 _ _ (e1 _ _ hL)), rfl⟩)) ea_nil)) fun H2 e2 => ?_
    refine ⟨D, G, t, _, rfl, (d.ex e1).ex e2, ht, by omega, by omega, fun H3 r d3 kp3 h0 hb _ => ?_⟩
    obtain ⟨n, rfl⟩ := Int.eq_ofNat_of_zero_le h0
    have hn : n < xs.length := by omega
    have nLD : L ≠ D := d.neL hL
    have g : Kp D G H H3 := (Kp.ex (e1.trans e2)).trans kp3
    exact rv_ixL (K := K) (sq_of (g _ _ nLD nLG hL)) (atI_nat (List.getElem?_eq_getElem hn)) H3 (Ex.refl _) _ fun H4 e4 => k H4 _ (List.getElem_mem hn) (d3.ex e4) (g.trans (Kp.ex e4))
end
/-! ### a drawn try -/
section
variable {K : Frg} {σ : L2.St} {H : Hp} {ta tb t1 tn th : TE} {xs ys : List V} {p q : Addr} {Q : VK}
theorem l_nil {A : List V → Hp → Prop} (h : A [] H) : tNil σ H A := h
theorem el_cat1 (h1 : Evl.Ev ta σ H (.ref p)) (hp : H p = some (.lst xs)) (h2 : EvL tb σ H ys) (hl : xs.length + ys.length ≤ 100000) : EvL (tOp rCat ta tb) σ H (xs ++ ys) := fun H1 e Q q => h1 H1 e _ fun H2 e2 => h2 H2 (e.trans e2) _ fun p' H3 hp' e3 h3 =>
  ⟨p, p', xs, ys, rfl, rfl, ((e.trans e2).trans e3) _ _ hp, h3, sz_le hl, fun r hr => q r _ (fresh_back (e2.trans e3) hr) ((e2.trans e3).trans (Ex.new hr)) upd_same⟩
theorem t_tup {tr : TA} (h : tr σ H fun vs H1 => vs.length ≤ sizeLine ∧ ∀ p, H1 p = none → Q (.ref p) (upd H1 p (.tup vs))) : tTup tr σ H Q := h
theorem iteT {A B : Prop} (h : A) : (if true = true then A else B) := by rw [if_pos rfl]; exact h
theorem iteF {A B : Prop} (h : B) : (if false = true then A else B) := by rw [if_neg Bool.false_ne_true]; exact h
theorem q_parX {i j : Nat} {tr : TA} {D : Ends} {tz : TS} (h : tr σ H fun vs H1 => ∃ v w, vs = [v, w] ∧ tz D ((σ.set i (some v)).set j (some w)) H1) : tSeq (tPar i j tr) tz D σ H := h
theorem tst_next {D G : Addr} {t b : Int} {R : Bool → Hp → Prop} (h0 : σ[0]? = some (some (.ref D))) (d : DrS D G t H) (ht : t + 1 ≤ 100000) (hb : 1 ≤ b ∧ b ≤ 1000) (k : ∀ H' c, DrS D G (t + 1) H' → Kp D G H H' → TP H H' → R c H') :
    tTest (tOp rEq (tCall (free sp_nxt) [] E0 (tCons (tVar 0) (tCons (tC (.int b)) tNil))) (tC (.int 0))) σ H R :=
  x_call (vs := [.ref D, .int b]) (ea_cons (ev_var h0) (ea_cons ev_c ea_nil)) fun H2 e2 => ⟨D, G, t, b, rfl, d.ex e2, ht, hb.1, hb.2, fun H3 r d3 kp3 _ _ tp3 => ev_c H3 (Ex.refl _) _ fun H4 e4 => ⟨rfl, _, rfl, k H4 _ (d3.ex e4) (((Kp.ex e2).trans kp3).trans (Kp.ex e4)) (((ex_tp e2).trans tp3).trans (ex_tp e4))⟩⟩
/-- ("try", (one,), ((None, name, body),), (), ()) -/
theorem x_try {x : Sim} {nm : Option Str} {h : Bdy} (h1 : Evl.Ev t1 σ H (.ref q)) (hn : Evl.Ev tn σ H (oV nm)) (hh : EvW th σ H xs) (hq : H q = some (.tup (simV x))) (ok : x.Ok) (hl : xs.length ≤ 1000) (bt : BdyT H xs h)
    (k : ∀ p H', Ex H H' → (∀ {vs r}, BdyT H' vs r → BdyT H' (.ref p :: vs) (.tri x nm h r)) → Q (.ref p) H') :
    tTup (tCons (tC (.str "try")) (tCons (tTup (tCons t1 tNil)) (tCons (tTup (tCons (tTup (tCons (tC .non) (tCons tn (tCons th tNil)))) tNil)) (tCons (tTup tNil) (tCons (tTup tNil) tNil))))) σ H Q := by
  refine ax_cons (v := .str "try") ev_c fun H1 e1 => ?_
  refine ax_W (ew_u (eu_tup (ea_cons (h1.mono e1) ea_nil) (show 1 ≤ 100000 by decide))) fun b H2 e2 hb' => ?_
  have e12 := e1.trans e2
  refine l_cons (t_tup (l_cons (t_tup (ax_cons ev_c fun H3 e3 => ax_cons (hn.mono (e12.trans e3)) fun H4 e4 => l_cons (hh H4 ((e12.trans e3).trans e4) _ fun hb H5 e5 h5 => l_nil ⟨sz_le (show 3 ≤ 100000 by decide), fun h1 hh1 => l_nil ⟨sz_le (show 1 ≤ 100000 by decide), fun hs hhs => ?_⟩⟩)))))
  refine ax_W (ew_u (eu_tup ea_nil (Nat.zero_le _))) fun e1a H6 e6 he1 => ax_W (ew_u (eu_tup ea_nil (Nat.zero_le _))) fun e2a H7 e7 he2 => l_nil ⟨sz_le (show 5 ≤ 100000 by decide), fun p hp => ?_⟩
  have a1 := (e3.trans e4).trans e5
  have a2 := (Ex.new (o := .tup [.non, oV nm, .ref hb]) hh1).trans (Ex.new (o := .tup [.ref h1]) hhs)
  have a3 := (e6.trans e7).trans (Ex.new (o := .tup [.str "try", .ref b, .ref hs, .ref e1a, .ref e2a]) hp)
  have g := e12.trans (a1.trans (a2.trans a3))
  refine k p _ g fun {vs r} bt2 => ?_
  exact .tri (b := b) (q := q) (hs := hs) (h1 := h1) (h2 := hb) (e1 := e1a) (e2 := e2a) (ws := xs) upd_same ((a1.trans (a2.trans a3)) _ _ hb') (g _ _ hq) ok (a3 _ _ upd_same) ((( Ex.new (o := .tup [.ref h1]) hhs).trans a3) _ _ upd_same) ((a2.trans a3) _ _ h5) hl (bt.tp (ex_tp g)) ((e7.trans (Ex.new hp)) _ _ he1) ((Ex.new hp) _ _ he2) bt2
end
section
variable {w : World} {K : Frg} {mg : Str → Option Value} {base : Heap}
def Bdy.app : Bdy → Bdy → Bdy
  | .nil, b => b
  | .sim x r, b => .sim x (r.app b)
  | .tri x nm h r, b => .tri x nm h (r.app b)
theorem BdyT.app {H : Hp} {us vs : List V} {a b : Bdy} (ha : BdyT H us a) (hb : BdyT H vs b) : BdyT H (us ++ vs) (a.app b) := by
  induction ha with
  | nil => exact hb
  | sim h ok _ ih => exact .sim h ok ih
  | tri hp hb2 hq ok hh hh1 hhb hw th he1 he2 _ _ ih2 => exact .tri hp hb2 hq ok hh hh1 hhb hw th he1 he2 ih2
/-- what is asked of a drawn body: m the most statements, n the most items, e how deep it goes, c the most depth about it -/
structure BOk (b : Bdy) (m n e c : Nat) : Prop where
  hot : b.hot = true
  size : b.size ≤ m
  len : b.len ≤ n
  dep : b.dep ≤ e
  ck : ∀ d, d ≤ c → b.ck d
theorem BOk.nil {e c : Nat} : BOk .nil 0 0 e c := ⟨rfl, Nat.le_refl _, Nat.le_refl _, Nat.zero_le _, fun _ _ => trivial⟩
theorem BOk.app {a b : Bdy} {m n m' n' e c : Nat} (ha : BOk a m n e c) (hb : BOk b m' n' e c) : BOk (a.app b) (m + m') (n + n') e c := by
  have hot : ∀ {a : Bdy}, a.hot = true → (a.app b).hot = true := fun {a} => by
    induction a with
    | nil => exact fun _ => hb.hot
    | sim x r ih => exact ih
    | tri x nm h r _ ih =>
      intro z
      have z1 : x.hot = true ∧ (h.hot && r.hot) = true := Bool.and_eq_true_iff.mp z
      have z2 := Bool.and_eq_true_iff.mp z1.2
      show (x.hot && (h.hot && (r.app b).hot)) = true
      rw [z1.1, z2.1, ih z2.2]
      rfl
  have size : ∀ {a : Bdy}, (a.app b).size = a.size + b.size := fun {a} => by
    induction a with
    | nil => show b.size = 0 + b.size; omega
    | sim x r ih => show (r.app b).size + 1 = r.size + 1 + b.size; omega
    | tri x nm h r _ ih => show h.size + (r.app b).size + 2 = h.size + r.size + 2 + b.size; omega
  have len : ∀ {a : Bdy}, (a.app b).len = a.len + b.len := fun {a} => by
    induction a with
    | nil => show b.len = 0 + b.len; omega
    | sim x r ih => show (r.app b).len + 1 = r.len + 1 + b.len; omega
    | tri x nm h r _ ih => show (r.app b).len + 1 = r.len + 1 + b.len; omega
  have dep : ∀ {a : Bdy}, (a.app b).dep = max a.dep b.dep := fun {a} => by
    induction a with
    | nil => show b.dep = max 0 b.dep; omega
    | sim x r ih => exact ih
    | tri x nm h r _ ih => show max (h.dep + 1) (r.app b).dep = max (max (h.dep + 1) r.dep) b.dep; omega
  have ck : ∀ {a : Bdy} (d : Nat), a.ck d → b.ck d → (a.app b).ck d := fun {a} d => by
    induction a with
    | nil => exact fun _ h => h
    | sim x r ih => exact fun h h2 => ⟨h.1, ih h.2 h2⟩
    | tri x nm h r _ ih => exact fun z h2 => ⟨z.1, z.2.1, z.2.2.1, z.2.2.2.1, ih z.2.2.2.2 h2⟩
  have h1 := ha.size
  have h2 := hb.size
  have h3 := ha.len
  have h4 := hb.len
  have h5 := ha.dep
  have h6 := hb.dep
  exact ⟨hot ha.hot, by rw [size]; omega, by rw [len]; omega, by rw [dep]; omega, fun d hd => ck d (ha.ck d hd) (hb.ck d hd)⟩
def NmP (n : Str) : Prop := isNameP n ∧ isLabelP n
theorem kp_Stop : isKindP "Stop" := ⟨by decide, by decide, ⟨83, by decide +kernel, by decide +kernel, by decide +kernel⟩, by decide +kernel⟩
theorem lab_t : isLabelP "t" := ⟨by decide, by decide +kernel⟩
theorem kn_Stop : (valV kindsK (Sum.inr "Stop")).isSome = true := by decide +kernel
def sp_throws : Sp := fun vs H Q _ => ∃ (D G L : Addr) (t : Int) (kn : List Str), vs = [.ref D, .ref L] ∧ DrS D G t H ∧ t + 13 ≤ 100000 ∧ H L = some (.lst (kn.map V.str)) ∧ L ≠ G ∧ kn ≠ [] ∧ kn.length ≤ 100 ∧ (∀ n ∈ kn, NmP n) ∧
  ∀ H' t' p us b, DrS D G t' H' → t' ≤ t + 13 → Kp D G H H' → H' p = some (.tup us) → BdyT H' us b → BOk b 6 3 1 7 → Q (.ref p) H'
theorem ok_l_throws (T : Tx w K mg) (F_l_next : FOk PW w K mg base 1 (f_l_next K) ["_law_draw", "_law_below"] [] sp_nxt) (F_l_pick : FOk PW w K mg base 2 (f_l_pick K) ["_law_draw", "_law_some"] [] sp_pick) : FOk PW w K mg base 3 (f_l_throws K) ["_law_draw", "_law_known"] [] sp_throws := by
  obtain ⟨fd, F⟩ := T.d_l_throws
  refine ⟨⟨fd, [], F.ok sc_l_throws (fun vs H Q E h => ?_) (fun cdv A outer s H vs Q E hr h => ?_), F.bindsN fun _ _ _ _ _ _ us hl => match us, hl with | [_, _], _ => rfl, .nil⟩, F.kp⟩
  · obtain ⟨D, G, L, t, kn, rfl, _⟩ := h
    rfl
  · obtain ⟨D, G, L, t, kn, rfl, d, ht, hL, nLG, hne, hlen, hkn, k⟩ := h
    refine ⟨_, (PSs.nox (pss_cons (ps_set (i := 2) sc_l_throws.nd rfl (Or.inl rfl) (pe_lst pa_nil)) (pss_cons (ps_for PassesOwn.never rfl (pi_range1 rfl T.z_range (pa_cons (pk_call F_l_next hr rfl T.g_l_next (pa_cons (pv 0) (pa_cons pe_int pa_nil))) pa_nil)) (pg_name (i := 3) sc_l_throws.nd rfl (Or.inl rfl)) (pss_cons (ps_par (i := 4) (j := 5) rfl sc_l_throws.nd rfl rfl (by decide) rfl rfl (pa_cons (pk_call F_l_pick hr rfl T.g_l_pick (pa_cons (pv 0) (pa_cons (pv 1) pa_nil))) (pa_cons (pk_call F_l_pick hr rfl T.g_l_pick (pa_cons (pv 0) (pa_cons (pe_op op_cat (pv 1) (pe_lst (pa_cons pe_non pa_nil))) pa_nil))) pa_nil)) rfl) (Evl.pss_cut (ps_set (i := 6) sc_l_throws.nd rfl (Or.inl rfl) (pe_ifExp (pt_cmpR op_eq (pk_call F_l_next hr rfl T.g_l_next (pa_cons (pv 0) (pa_cons pe_int pa_nil))) pe_int (nomark _)) (pe_tup (pa_cons pe_str (pa_cons (pv 4) pa_nil))) (pe_tup (pa_cons pe_str (pa_cons (pv 4) (pa_cons (pv 5) pa_nil)))))) (Evl.pss_cut (ps_if (pt_cmpR op_eq (pk_call F_l_next hr rfl T.g_l_next (pa_cons (pv 0) (pa_cons pe_int pa_nil))) pe_int (nomark _)) (pss_one (ps_set (i := 6) sc_l_throws.nd rfl (Or.inl rfl) (pe_tup (pa_cons pe_str (pa_cons pe_str (pa_cons pe_str (pa_cons (pv 5) pa_nil))))))) pss_nil) (pss_one (ps_expr (pe_bm PySem.F.plainAttrs_list PySem.F.slot_list_append PySem.F.type_list_append mt_append (pv 2) (pa_cons (pe_tup (pa_cons pe_str (pa_cons (pe_tup (pa_cons (pv 6) pa_nil)) (pa_cons (pe_tup (pa_cons (pe_tup (pa_cons pe_non (pa_cons pe_non (pa_cons (pe_tup pa_nil) pa_nil)))) pa_nil)) (pa_cons (pe_tup pa_nil) (pa_cons (pe_tup pa_nil) pa_nil)))))) pa_nil)))))))) (pss_one (ps_ret (pe_callTy call_tuple_of rfl T.z_tuple boot_tuple (pa_cons (pv 2) pa_nil))))))), ?_⟩
    have nLD : L ≠ D := d.neL hL
    refine q_asgL (el_lst ea_nil (Nat.zero_le _)) fun F H1 hF e1 h1 => ?_
    have nF := d.ne hF
    have d1 := d.ex e1
    have nFL : F ≠ L := fun z => ne_of_none hL hF z.symm
    refine x_call (vs := [.ref D, .int 4]) (ea_cons (ev_var rfl) (ea_cons ev_c ea_nil)) fun H2 e2 => ?_
    refine ⟨D, G, t, 4, rfl, d1.ex e2, by omega, by decide, by decide, fun H3 n d3 kp3 h0 hb _ => l_nil ⟨n, rfl, by omega, by omega, for_range (lo := 0) (n := n.toNat) (fun i σ' H' => ∃ o3 o4 o5 o6 t' us b, σ' = [some (.ref D), some (.ref L), some (.ref F), o3, o4, o5, o6] ∧ DrS D G t' H' ∧ t' ≤ t + 1 + 4 * i ∧ Kp D G H H' ∧ H' F = some (.lst us) ∧ BdyT H' us b ∧ BOk b (2 * i) i 1 7 ∧ us.length = i)
      ⟨none, none, none, none, t + 1, [], .nil, rfl, d3, by omega, (Kp.ex (e1.trans e2)).trans kp3, kp3 _ _ nF.1 nF.2 (e2 _ _ h1), .nil, .nil, rfl⟩ (fun i σ' H' hi pv => ?_) fun σ' H' pv => ?_⟩⟩
    · obtain ⟨o3, o4, o5, o6, t', us, b, rfl, d4, ht4, kp4, hF4, bt4, ok4, hul⟩ := pv
      show tSeq _ _ _ [some (.ref D), some (.ref L), some (.ref F), some (.int (0 + (i : Int))), o4, o5, o6] H'
      have hi3 : i < 3 + 1 := by omega
      have hi4 : (i : Int) < 4 := by omega
      have LX : ∀ {H9 : Hp}, Kp D G H H9 → H9 L = some (.lst (kn.map V.str)) := fun g => g _ _ nLD nLG hL
      refine q_parX (l_cons (x_call (ea_cons (ev_var rfl) (ea_cons (ev_var rfl) ea_nil)) fun H5 e5 => ⟨D, G, L, t', kn.map V.str, rfl, d4.ex e5, by omega, LX (kp4.trans (Kp.ex e5)), nLG, (fun z => hne (List.map_eq_nil_iff.mp z)), by rw [List.length_map]; omega, fun H6 x hx d6 kp6 tp6 => ?_⟩))
      obtain ⟨nm, hnm, rfl⟩ := List.mem_map.mp hx
      have g6 := (kp4.trans (Kp.ex e5)).trans kp6
      refine l_cons (ax_cons (v := .ref D) (ev_var rfl) fun H7 e7 => l_cons (el_cat1 (ev_var rfl) (LX (g6.trans (Kp.ex e7))) (el_lst (ea_cons ev_c ea_nil) (show 1 ≤ 100000 by decide)) (by rw [List.length_map]; show _ + 1 ≤ _; omega) H7 (Ex.refl _) _ fun L2 H8 hL2 e8 h8 => l_nil ⟨D, G, L2, t' + 1, kn.map V.str ++ [.non], rfl, (d6.ex e7).ex e8, by omega, h8, ((d6.ex e7).ne hL2).2, by simp, by simp; omega, fun H9 y hy d9 kp9 tp9 => l_nil ⟨_, _, rfl, ?_⟩⟩))
      obtain ⟨o, rfl, ho⟩ : ∃ o, y = oV o ∧ ∀ n, o = some n → NmP n := by
        rcases List.mem_append.mp hy with z | z
        · obtain ⟨n', hn', rfl⟩ := List.mem_map.mp z
          exact ⟨some n', rfl, fun m e => by cases e; exact hkn n' hn'⟩
        · exact ⟨none, List.mem_singleton.mp z, fun m e => by cases e⟩
      have g9 := (g6.trans (Kp.ex (e7.trans e8))).trans kp9
      have gF : Kp D G H' H9 := (((Kp.ex e5).trans kp6).trans (Kp.ex (e7.trans e8))).trans kp9
      have tF : TP H' H9 := (((ex_tp e5).trans tp6).trans (ex_tp (e7.trans e8))).trans tp9
      have okn := hkn nm hnm
      refine q_cut (M := fun σ' H2 => ∃ q x, σ' = [some (.ref D), some (.ref L), some (.ref F), some (.int (0 + (i : Int))), some (.str nm), some (oV o), some (.ref q)] ∧ H2 q = some (.tup (simV x)) ∧ x.hot = true ∧ x.Ok ∧ DrS D G (t' + 1 + 1 + 1) H2 ∧ Kp D G H' H2 ∧ TP H' H2) ?_ ?_
      · refine s_asgX (tst_next (t := t' + 1 + 1) rfl d9 (by omega) (by decide) fun HA c dA kpA tpA => ?_)
        cases c with
        | true => exact iteT <| eu_tup (ea_cons ev_c (ea_cons (ev_var rfl) ea_nil)) (show 2 ≤ 100000 by decide) HA (Ex.refl _) _ fun q HB _ eB hB => ⟨q, .throw nm none, rfl, hB, rfl, ⟨okn.1, okn.2, fun n e => by cases e⟩, dA.ex eB, (gF.trans kpA).trans (Kp.ex eB), (tF.trans tpA).trans (ex_tp eB)⟩
        | false => exact iteF <| eu_tup (ea_cons ev_c (ea_cons (ev_var rfl) (ea_cons (ev_var rfl) ea_nil))) (show 3 ≤ 100000 by decide) HA (Ex.refl _) _ fun q HB _ eB hB => ⟨q, .throw nm (some o), rfl, hB, rfl, ⟨okn.1, okn.2, fun n e => by cases e; exact ho n rfl⟩, dA.ex eB, (gF.trans kpA).trans (Kp.ex eB), (tF.trans tpA).trans (ex_tp eB)⟩
      · rintro σ' HA ⟨q, x, rfl, hq, hx, okx, dA, gA, tA⟩
        refine q_cut (M := fun σ' H2 => ∃ q x, σ' = [some (.ref D), some (.ref L), some (.ref F), some (.int (0 + (i : Int))), some (.str nm), some (oV o), some (.ref q)] ∧ H2 q = some (.tup (simV x)) ∧ x.hot = true ∧ x.Ok ∧ DrS D G (t' + 1 + 1 + 1 + 1) H2 ∧ Kp D G H' H2 ∧ TP H' H2) ?_ ?_
        · refine tst_next (t := t' + 1 + 1 + 1) rfl dA (by omega) (by decide) fun HB c dB kpB tpB => ?_
          cases c with
          | true => exact iteT <| s_asgU (eu_tup (ea_cons ev_c (ea_cons ev_c (ea_cons ev_c (ea_cons (ev_var rfl) ea_nil)))) (show 4 ≤ 100000 by decide)) fun q' HC _ eC hC => ⟨q', .raise "Stop" "t" (some o), rfl, hC, rfl, ⟨⟨kp_Stop, kn_Stop⟩, lab_t, fun n e => by cases e; exact ho n rfl⟩, dB.ex eC, (gA.trans kpB).trans (Kp.ex eC), (tA.trans tpB).trans (ex_tp eC)⟩
          | false => exact iteF (B := _) <| show tNext _ _ _ from ⟨q, x, rfl, tpB _ _ hq, hx, okx, dB, gA.trans kpB, tA.trans tpB⟩
        · rintro σ' HB ⟨q, x, rfl, hq, hx, okx, dB, gB, tB⟩
          have hFB := gB _ _ nF.1 nF.2 hF4
          refine s_dropX (ev_var (v := .ref F) rfl HB (Ex.refl _) _ fun HC eC => ⟨Or.inl ⟨rfl, us, sq_of (eC _ _ hFB)⟩, l_cons (x_try (q := q) (x := x) (nm := none) (h := .nil) (xs := []) (ev_var rfl) ev_c (ew_u (eu_tup ea_nil (Nat.zero_le _))) (eC _ _ hq) okx (Nat.zero_le _) .nil fun p HD eD bt => l_nil ⟨F, us, .ref p, rfl, rfl, (eC.trans eD) _ _ hFB, sz_lt (by omega), ?_⟩)⟩)
          have hFD := (eC.trans eD) _ _ hFB
          have tU : TP HD (upd HD F (.lst (us ++ [.ref p]))) := TP.upd hFD lst_no
          refine ⟨_, _, _, _, t' + 1 + 1 + 1 + 1, us ++ [.ref p], b.app (.tri x none .nil .nil), rfl, ((dB.ex eC).ex eD).upd nF.1 nF.2, by omega, ((kp4.trans gB).trans (Kp.ex (eC.trans eD))).mut hF, upd_same, ?_, ?_, by rw [List.length_append, hul]; rfl⟩
          · exact ((bt4.tp (tB.trans (ex_tp (eC.trans eD)))).app (bt .nil)).tp tU
          · exact ok4.app ⟨by show (x.hot && (true && true)) = true; rw [hx]; rfl, Nat.le_refl _, Nat.le_refl _, Nat.le_refl _, fun dd hd => ⟨by omega, (fun n e => by cases e), Nat.zero_le _, trivial, trivial⟩⟩
    · obtain ⟨o3, o4, o5, o6, t', us, b, rfl, d4, ht4, kp4, hF4, bt4, ok4, hul⟩ := pv
      dsimp only
      refine s_retX (D := { nx := fun _ H' => Q .non H', rt := Q }) (ea_cons (ev_var rfl) ea_nil H' (Ex.refl _) _ fun H9 e9 => ⟨F, us, rfl, .inl ⟨sq_of (e9 _ _ hF4), fun p hp => ?_⟩⟩)
      have e10 := e9.trans (Ex.new (o := .tup us) hp)
      have hn3 : n.toNat ≤ 3 := by omega
      exact k _ t' p us b (d4.ex e10) (by omega) (kp4.trans (Kp.ex e10)) upd_same (bt4.tp (ex_tp e10)) ⟨ok4.hot, by have := ok4.size; omega, by have := ok4.len; omega, ok4.dep, ok4.ck⟩
end
end L2.EX
namespace L2.EX
open PySem PySem.Spec PyProof.Rows Evl
/-! The law's draw: nested handlers. -/
section
variable {K : Frg} {σ : L2.St} {H : Hp} {xs ys : List V} {a b : Addr} {Q : VK}
theorem t_lst {tr : TA} (h : tr σ H fun vs H1 => vs.length ≤ sizeLine ∧ ∀ p, H1 p = none → Q (.ref p) (upd H1 p (.lst vs))) : tLst tr σ H Q := h
theorem r_cat (ha : H a = some (.tup xs)) (hb : H b = some (.tup ys)) (hl : xs.length + ys.length ≤ 100000) (k : ∀ r H', Ex H H' → H' r = some (.tup (xs ++ ys)) → Q (.ref r) H') : rCatA K (.ref a) (.ref b) H Q := by
  refine ⟨a, b, xs, ys, rfl, rfl, st_of ha, st_of hb, sz_le hl, fun e => ?_, fun _ e => ?_, fun _ _ p hp => k p _ (Ex.new hp) upd_same⟩
  · exact k b H (Ex.refl H) (by rw [e]; exact hb)
  · exact k a H (Ex.refl H) (by rw [e, List.append_nil]; exact ha)
end
/-- the name at a depth -/
def nmAt (j : Nat) : Str := ⟨#[97 + j]⟩
theorem nmAt_ok {j : Nat} (h : j ≤ 4) : NmP (nmAt j) ∧ nmAt j ≠ "error" := by
  match j, h with
  | 0, _ => exact ⟨⟨⟨by decide, by decide, by decide +kernel⟩, by decide, by decide +kernel⟩, by decide +kernel⟩
  | 1, _ => exact ⟨⟨⟨by decide, by decide, by decide +kernel⟩, by decide, by decide +kernel⟩, by decide +kernel⟩
  | 2, _ => exact ⟨⟨⟨by decide, by decide, by decide +kernel⟩, by decide, by decide +kernel⟩, by decide +kernel⟩
  | 3, _ => exact ⟨⟨⟨by decide, by decide, by decide +kernel⟩, by decide, by decide +kernel⟩, by decide +kernel⟩
  | 4, _ => exact ⟨⟨⟨by decide, by decide, by decide +kernel⟩, by decide, by decide +kernel⟩, by decide +kernel⟩
theorem nmAt_ix {j : Nat} (h : j ≤ 4) : atI (Str.ofString "abcdefgh").cps.toList (j : Int) = some (97 + j) := by
  match j, h with
  | 0, _ => decide +kernel
  | 1, _ => decide +kernel
  | 2, _ => decide +kernel
  | 3, _ => decide +kernel
  | 4, _ => decide +kernel
def kd3 : List Str := ["Error", "Near", "Exit"]
theorem kd3_ok : ∀ k ∈ kd3, isKindP k ∧ (valV kindsK (Sum.inr k)).isSome = true := by
  intro k hk
  have hk : k = "Error" ∨ k = "Near" ∨ k = "Exit" := by simpa [kd3] using hk
  rcases hk with rfl | rfl | rfl
  · exact ⟨⟨by decide, by decide, ⟨69, by decide +kernel, by decide +kernel, by decide +kernel⟩, by decide +kernel⟩, by decide +kernel⟩
  · exact ⟨⟨by decide, by decide, ⟨78, by decide +kernel, by decide +kernel, by decide +kernel⟩, by decide +kernel⟩, by decide +kernel⟩
  · exact ⟨⟨by decide, by decide, ⟨69, by decide +kernel, by decide +kernel, by decide +kernel⟩, by decide +kernel⟩, by decide +kernel⟩
theorem lab_z : isLabelP "z" := ⟨by decide, by decide +kernel⟩
theorem kn_State : (valV kindsK (Sum.inr "State")).isSome = true := by decide +kernel
theorem BOk.mono {b : Bdy} {m n e c m' n' e' c' : Nat} (h : BOk b m n e c) (h1 : m ≤ m') (h2 : n ≤ n') (h3 : e ≤ e') (h4 : c' ≤ c) : BOk b m' n' e' c' := ⟨h.hot, Nat.le_trans h.size h1, Nat.le_trans h.len h2, Nat.le_trans h.dep h3, fun d hd => h.ck d (Nat.le_trans hd h4)⟩
section
variable {w : World} {K : Frg} {mg : Str → Option Value} {base : Heap}
def sp_nest (e : Nat) : Sp := fun vs H Q _ => ∃ (D G L : Addr) (t : Int) (kn : List Str) (j : Nat), vs = [.ref D, .ref L, .int (j : Int)] ∧ j + e = 4 ∧ DrS D G t H ∧ t + 31 * (e + 1) ≤ 100000 ∧ H L = some (.lst (kn.map V.str)) ∧ L ≠ G ∧ kn.length ≤ j ∧ (∀ n ∈ kn, NmP n) ∧
  ∀ H' t' p x n h, DrS D G t' H' → t' ≤ t + 31 * (e + 1) → Kp D G H H' → (∀ {vs r}, BdyT H' vs r → BdyT H' (.ref p :: vs) (.tri x (some n) h r)) → x.hot = true → nmOk (some n) → BOk h (7 + 15 * e) 8 (e + 1) (7 - e) → Q (.ref p) H'
theorem ok_ln_no (T : Tx w K mg) : FOk PW w K mg base 1 (f_l_nest K) ["_law_draw", "_law_known", "_law_deep"] [] (fun _ _ _ _ => False) := by
  obtain ⟨fd, F⟩ := T.d_l_nest
  refine ⟨⟨fd, [], F.ok sc_l_nest (fun vs H Q E h => h.elim) (fun cdv A outer s H vs Q E hr h => h.elim), F.bindsN fun _ _ _ _ _ _ us hl => match us, hl with | [_, _, _], _ => rfl, .nil⟩, F.kp⟩
theorem ok_l_nest (T : Tx w K mg) {k e : Nat} {spn : Sp} (hk : 3 ≤ k) (hsp : ∀ e', e = e' + 1 → spn = sp_nest e') (F_l_next : FOk PW w K mg base 1 (f_l_next K) ["_law_draw", "_law_below"] [] sp_nxt) (F_l_pick : FOk PW w K mg base 2 (f_l_pick K) ["_law_draw", "_law_some"] [] sp_pick)
    (F_l_throws : FOk PW w K mg base 3 (f_l_throws K) ["_law_draw", "_law_known"] [] sp_throws) (F_l_nest : FOk PW w K mg base k (f_l_nest K) ["_law_draw", "_law_known", "_law_deep"] [] spn) : FOk PW w K mg base (k + 1) (f_l_nest K) ["_law_draw", "_law_known", "_law_deep"] [] (sp_nest e) := by
  obtain ⟨fd, F⟩ := T.d_l_nest
  refine ⟨⟨fd, [], F.ok sc_l_nest (fun vs H Q E h => ?_) (fun cdv A outer s H vs Q E hr h => ?_), F.bindsN fun _ _ _ _ _ _ us hl => match us, hl with | [_, _, _], _ => rfl, .nil⟩, F.kp⟩
  · obtain ⟨D, G, L, t, kn, j, rfl, _⟩ := h
    rfl
  · obtain ⟨D, G, L, t, kn, j, rfl, hje, d, ht, hL, nLG, hlen, hkn, kk⟩ := h
    refine ⟨_, (PSs.nox (pss_cons (ps_par (i := 3) (j := 4) rfl sc_l_nest.nd rfl rfl (by decide) rfl rfl (pa_cons (pe_ix ix_str pe_str (pv 2) (fun _ _ => rfl)) (pa_cons (pk_call F_l_next hr rfl T.g_l_next (pa_cons (pv 0) (pa_cons pe_int pa_nil))) pa_nil)) rfl) (pss_cons (ps_set (i := 5) sc_l_nest.nd rfl (Or.inl rfl) (pe_tup (pa_cons pe_str (pa_cons (pk_call F_l_pick hr rfl T.g_l_pick (pa_cons (pv 0) (pa_cons (pe_lst (pa_cons pe_str (pa_cons pe_str (pa_cons pe_str pa_nil)))) pa_nil))) (pa_cons (pv 3) pa_nil))))) (Evl.pss_cut (ps_if (PW.pt (pw_and (pt_cmpR (op_neLE hr.units0) (pv 1) (pe_lst pa_nil) (nomark _)) (pw_and1 (pt_cmpR op_eq (pk_call F_l_next hr rfl T.g_l_next (pa_cons (pv 0) (pa_cons pe_int pa_nil))) pe_int (nomark _))))) (pss_one (ps_set (i := 5) sc_l_nest.nd rfl (Or.inl rfl) (pe_tup (pa_cons pe_str (pa_cons (pk_call F_l_pick hr rfl T.g_l_pick (pa_cons (pv 0) (pa_cons (pv 1) pa_nil))) pa_nil))))) pss_nil) (pss_cons (ps_set (i := 6) sc_l_nest.nd rfl (Or.inl rfl) (pk_call F_l_throws hr rfl T.g_l_throws (pa_cons (pv 0) (pa_cons (pe_op op_cat (pv 1) (pe_lst (pa_cons (pv 3) pa_nil))) pa_nil)))) (Evl.pss_cut (ps_if (pt_cmpR op_lt (pv 2) pe_int (nomark _)) (pss_cons (ps_set (i := 6) sc_l_nest.nd rfl (Or.inl rfl) (pe_op op_catA (pv 6) (pe_tup (pa_cons (pk_call F_l_nest hr rfl T.g_l_nest (pa_cons (pv 0) (pa_cons (pe_op op_cat (pv 1) (pe_lst (pa_cons (pv 3) pa_nil))) (pa_cons (pe_op op_add (pv 2) pe_int) pa_nil)))) pa_nil)))) (pss_one (ps_set (i := 6) sc_l_nest.nd rfl (Or.inl rfl) (pe_op op_catA (pv 6) (pk_call F_l_throws hr rfl T.g_l_throws (pa_cons (pv 0) (pa_cons (pe_op op_cat (pv 1) (pe_lst (pa_cons (pv 3) pa_nil))) pa_nil))))))) pss_nil) (pss_cons (ps_set (i := 7) sc_l_nest.nd rfl (Or.inl rfl) (pe_ix ix_list (pe_lst (pa_cons (pe_tup (pa_cons pe_str pa_nil)) (pa_cons (pe_tup (pa_cons pe_str (pa_cons (pk_call F_l_pick hr rfl T.g_l_pick (pa_cons (pv 0) (pa_cons (pe_op op_cat (pv 1) (pe_lst (pa_cons (pv 3) pa_nil))) pa_nil))) pa_nil))) (pa_cons (pe_tup (pa_cons pe_str (pa_cons pe_str (pa_cons pe_str pa_nil)))) (pa_cons (pe_tup (pa_cons pe_str (pa_cons (pv 2) pa_nil))) pa_nil))))) (pv 4) (fun _ _ => rfl))) (pss_one (ps_ret (pe_tup (pa_cons pe_str (pa_cons (pe_tup (pa_cons (pv 5) pa_nil)) (pa_cons (pe_tup (pa_cons (pe_tup (pa_cons pe_non (pa_cons (pv 3) (pa_cons (pe_op op_catA (pv 6) (pe_tup (pa_cons (pv 7) pa_nil))) pa_nil)))) pa_nil)) (pa_cons (pe_tup pa_nil) (pa_cons (pe_tup pa_nil) pa_nil))))))))))))))), ?_⟩
    have nLD : L ≠ D := d.neL hL
    have LX : ∀ {H9 : Hp}, Kp D G H H9 → H9 L = some (.lst (kn.map V.str)) := fun g => g _ _ nLD nLG hL
    obtain ⟨nok, nerr⟩ := nmAt_ok (j := j) (by omega)
    have hknn : ∀ n ∈ kn ++ [nmAt j], NmP n := fun n hn => by
      rcases List.mem_append.mp hn with z | z
      · exact hkn n z
      · rw [List.mem_singleton.mp z]; exact nok
    -- known + [name]
    have cat : ∀ {H1 : Hp} {σ' : L2.St}, Kp D G H H1 → σ'[1]? = some (some (.ref L)) → σ'[3]? = some (some (.str (nmAt j))) → EvL (tOp rCat (tVar 1) (tLst (tCons (tVar 3) tNil))) σ' H1 ((kn ++ [nmAt j]).map V.str) := fun g h1 h3 => by
      rw [List.map_append]
      exact el_cat1 (ev_var h1) (LX g) (el_lst (ea_cons (ev_var h3) ea_nil) (show 1 ≤ 100000 by decide)) (by rw [List.length_map]; show _ + 1 ≤ _; omega)
    -- the name, the end
    refine q_parX (l_cons (ev_op (z := .str (nmAt j)) ev_c (ev_var rfl) (rv_ixS (by decide) (nmAt_ix (j := j) (by omega))) H (Ex.refl _) _ fun H1 e1 => l_cons (x_call (vs := [.ref D, .int 4]) (ea_cons (ev_var rfl) (ea_cons ev_c ea_nil)) fun H2 e2 => ⟨D, G, t, 4, rfl, (d.ex e1).ex e2, by omega, by decide, by decide, fun H3 en d3 kp3 hen0 hen4 tp3 => l_nil ⟨_, _, rfl, ?_⟩⟩)))
    obtain ⟨en, rfl⟩ := Int.eq_ofNat_of_zero_le hen0
    have g3 : Kp D G H H3 := (Kp.ex (e1.trans e2)).trans kp3
    -- the first
    refine q_asgX (t_tup (ax_cons ev_c fun H4 e4 => l_cons (ax_cons (v := .ref D) (ev_var rfl) fun H5 e5 => l_cons (el_lst (ea_cons ev_c (ea_cons ev_c (ea_cons ev_c ea_nil))) (show 3 ≤ 100000 by decide) H5 (Ex.refl _) _ fun L2 H6 hL2 e6 h6 => l_nil ⟨D, G, L2, t + 1, kd3.map V.str, rfl, ((d3.ex e4).ex e5).ex e6, by omega, h6, (((d3.ex e4).ex e5).ne hL2).2, List.cons_ne_nil _ _, (show 3 ≤ 1000 by decide), fun H7 y hy d7 kp7 tp7 =>
      ax_cons (ev_var rfl) fun H8 e8 => l_nil ⟨sz_le (show 3 ≤ 100000 by decide), fun q0 hq0 => ?_⟩⟩))))
    obtain ⟨kd, hkd, rfl⟩ := List.mem_map.mp hy
    have e9 := e8.trans (Ex.new (o := .tup [.str "raise", .str kd, .str (nmAt j)]) hq0)
    have g9 := ((g3.trans (Kp.ex ((e4.trans e5).trans e6))).trans kp7).trans (Kp.ex e9)
    have d9 := d7.ex e9
    refine q_cut (M := fun σ' H' => ∃ q x t', σ' = [some (.ref D), some (.ref L), some (.int (j : Int)), some (.str (nmAt j)), some (.int (en : Int)), some (.ref q), none, none] ∧ H' q = some (.tup (simV x)) ∧ x.hot = true ∧ x.Ok ∧ DrS D G t' H' ∧ t' ≤ t + 4 ∧ Kp D G H H') ?_ ?_
    · refine et_test (ev_opL (ev_var rfl) (el_lst ea_nil (Nat.zero_le _)) fun q' H8 h8 e8 => rv_neL (sq_of (e8 _ _ (LX g9))) (sq_of h8)) _ (Ex.refl _) _ fun HA eA => ?_
      have okx : Sim.Ok (.raise kd (nmAt j) none) := ⟨kd3_ok kd hkd, nok.2, fun n e => by cases e⟩
      cases hb : (!(kn.map V.str).isEmpty) with
      | false => exact iteF (iteF (show tNext _ _ _ from ⟨q0, .raise kd (nmAt j) none, t + 1 + 1, rfl, eA _ _ upd_same, rfl, okx, d9.ex eA, by omega, g9.trans (Kp.ex eA)⟩))
      | true =>
        refine iteT (tst_next (t := t + 1 + 1) rfl (d9.ex eA) (by omega) (by decide) fun HB c dB kpB tpB => ?_)
        have gB := (g9.trans (Kp.ex eA)).trans kpB
        cases c with
        | false => exact iteF (show tNext _ _ _ from ⟨q0, .raise kd (nmAt j) none, t + 1 + 1 + 1, rfl, tpB _ _ (eA _ _ upd_same), rfl, okx, dB, by omega, gB⟩)
        | true =>
          refine iteT (s_asgX (t_tup (ax_cons ev_c fun HC eC => l_cons (x_call (vs := [.ref D, .ref L]) (ea_cons (ev_var rfl) (ea_cons (ev_var rfl) ea_nil)) fun HD eD => ⟨D, G, L, t + 1 + 1 + 1, kn.map V.str, rfl, (dB.ex eC).ex eD, by omega, LX (gB.trans (Kp.ex (eC.trans eD))), nLG, ?_, by rw [List.length_map]; omega, fun HE y hy dE kpE tpE => l_nil ⟨sz_le (show 2 ≤ 100000 by decide), fun q hq => ?_⟩⟩))))
          · intro z
            rw [z] at hb
            exact Bool.noConfusion hb
          · obtain ⟨n, hn, rfl⟩ := List.mem_map.mp hy
            have okn := hkn n hn
            exact ⟨q, .throw n none, t + 1 + 1 + 1 + 1, rfl, upd_same, rfl, ⟨okn.1, okn.2, fun n e => by cases e⟩, dE.ex (Ex.new hq), by omega, ((gB.trans (Kp.ex (eC.trans eD))).trans kpE).trans (Kp.ex (Ex.new hq))⟩
    · rintro σ' H10 ⟨q, x, t1, rfl, hq, hx, okx, d10, ht1, g10⟩
      -- throws within
      refine q_asgX (ax_cons (v := .ref D) (ev_var rfl) fun H11 e11 => l_cons (cat (g10.trans (Kp.ex e11)) rfl rfl H11 (Ex.refl _) _ fun L2 H12 hL2 e12 h12 => l_nil ⟨D, G, L2, t1, kn ++ [nmAt j], rfl, (d10.ex e11).ex e12, by omega, h12, ((d10.ex e11).ne hL2).2, by simp, by simp; omega, hknn, fun H13 t2 pb us b d13 ht2 kp13 hpb bt13 ok13 tp13 => ?_⟩))
      have g13 := (g10.trans (Kp.ex (e11.trans e12))).trans kp13
      have tp := (ex_tp (e11.trans e12)).trans tp13
      have hul := bt13.len
      have hul3 := ok13.len
      refine q_cut (M := fun σ' H' => ∃ p us b t', σ' = [some (.ref D), some (.ref L), some (.int (j : Int)), some (.str (nmAt j)), some (.int (en : Int)), some (.ref q), some (.ref p), none] ∧ H' p = some (.tup us) ∧ BdyT H' us b ∧ BOk b (6 + 15 * e) 7 (e + 1) (7 - e) ∧ DrS D G t' H' ∧ t' ≤ t + 30 + 31 * e ∧ Kp D G H H' ∧ TP H10 H') ?_ ?_
      · cases e with
        | zero =>
          have hj : j = 4 := by omega
          subst hj
          exact s_when (b := false) (et_test (ev_op (ev_var rfl) ev_c rv_I0)) (fun q => Bool.noConfusion q) fun _ H14 e14 => ⟨pb, us, b, t2, rfl, e14 _ _ hpb, bt13.tp (ex_tp e14), ok13.mono (by omega) (by omega) (by omega) (by omega), d13.ex e14, by omega, g13.trans (Kp.ex e14), tp.trans (ex_tp e14)⟩
        | succ e' =>
          obtain rfl := hsp e' rfl
          refine s_when (b := true) (et_test (ev_is (ev_op (ev_var rfl) ev_c rv_I0) (congrArg V.bl (decide_eq_true (by omega))))) (fun _ H14 e14 => ?_) fun q => Bool.noConfusion q
          have g14 := g13.trans (Kp.ex e14)
          refine q_asgX (ev_var (v := .ref pb) rfl H14 (Ex.refl _) _ fun H15 e15 => t_tup (l_cons (ax_cons (v := .ref D) (ev_var rfl) fun H16 e16 => l_cons (cat (g14.trans (Kp.ex (e15.trans e16))) rfl rfl H16 (Ex.refl _) _ fun L3 H17 hL3 e17 h17 => ax_cons (ev_op (ev_var rfl) ev_c rv_I0) fun H18 e18 => l_nil ⟨D, G, L3, t2, kn ++ [nmAt j], j + 1, rfl, by omega, (d13.ex e14).ex (((e15.trans e16).trans e17).trans e18), by omega, e18 _ _ h17, ((d13.ex e14).ex (e15.trans e16)).ne hL3 |>.2, by simp; omega, hknn, fun H19 t3 p1 x1 n1 h1 d19 ht3 kp19 bt1 hx1 nm1 ok1 tp19 => l_nil ⟨sz_le (show 1 ≤ 100000 by decide), fun q1 hq1 => ?_⟩⟩))))
          have eA := (((e14.trans e15).trans e16).trans e17).trans e18
          have tA : TP H13 H19 := (ex_tp eA).trans tp19
          have eq1 := Ex.new (o := .tup [.ref p1]) hq1
          refine r_cat (xs := us) (ys := [.ref p1]) (eq1 _ _ (tA _ _ hpb)) upd_same (by show us.length + 1 ≤ _; omega) fun r H21 e21 hr => ?_
          have eB := eq1.trans e21
          have g21 := ((g13.trans (Kp.ex eA)).trans kp19).trans (Kp.ex eB)
          have d21 := d19.ex eB
          have tB := tA.trans (ex_tp eB)
          have btA : BdyT H21 (us ++ [.ref p1]) (b.app (.tri x1 (some n1) h1 .nil)) := (bt13.tp tB).app ((bt1 .nil).tp (ex_tp eB))
          have okA : BOk (b.app (.tri x1 (some n1) h1 .nil)) (6 + (9 + 15 * e')) (3 + 1) (e' + 2) (7 - (e' + 1)) := (ok13.mono (Nat.le_refl _) (Nat.le_refl _) (by omega) (by omega)).app ⟨by show (x1.hot && (h1.hot && true)) = true; rw [hx1, ok1.hot]; rfl, by have := ok1.size; show h1.size + 0 + 2 ≤ _; omega, Nat.le_refl _, by have := ok1.dep; show max (h1.dep + 1) 0 ≤ _; omega, fun dd hd => ⟨by omega, nm1, by have := ok1.len; omega, ok1.ck (dd + 1) (by omega), trivial⟩⟩
          refine s_asgX (ev_var (v := .ref r) rfl H21 (Ex.refl _) _ fun H22 e22 => ax_cons (v := .ref D) (ev_var rfl) fun H23 e23 => l_cons (cat (g21.trans (Kp.ex (e22.trans e23))) rfl rfl H23 (Ex.refl _) _ fun L4 H24 hL4 e24 h24 => l_nil ⟨D, G, L4, t3, kn ++ [nmAt j], rfl, d21.ex ((e22.trans e23).trans e24), by omega, h24, (d21.ex (e22.trans e23)).ne hL4 |>.2, by simp, by simp; omega, hknn, fun H25 t4 pb2 us2 b2 d25 ht4 kp25 hpb2 bt25 ok25 tp25 => ?_⟩))
          have tC : TP H21 H25 := (ex_tp ((e22.trans e23).trans e24)).trans tp25
          have hul2 := bt25.len
          have hul4 := ok25.len
          refine r_cat (xs := us ++ [.ref p1]) (ys := us2) (tC _ _ hr) hpb2 (by rw [List.length_append]; show us.length + 1 + _ ≤ _; omega) fun r2 H26 e26 hr2 => ?_
          exact ⟨r2, _, _, t4, rfl, hr2, ((btA.tp tC).app bt25).tp (ex_tp e26), (okA.app (ok25.mono (Nat.le_refl _) (Nat.le_refl _) (by omega) (by omega))).mono (by omega) (by omega) (by omega) (Nat.le_refl _), d25.ex e26, by omega, ((g21.trans (Kp.ex ((e22.trans e23).trans e24))).trans kp25).trans (Kp.ex e26), ((tp.trans tB).trans tC).trans (ex_tp e26)⟩
      · rintro σ' H30 ⟨p, us, b, t5, rfl, hp, bt, okb, d30, ht5, g30, tp30⟩
        -- the last statement
        refine q_asgX (t_lst (l_cons (eu_tup (ea_cons ev_c ea_nil) (show 1 ≤ 100000 by decide) H30 (Ex.refl _) _ fun p1 H31 _ e31 h31 => l_cons (t_tup (ax_cons ev_c fun H32 e32 => l_cons (ax_cons (v := .ref D) (ev_var rfl) fun H33 e33 => l_cons (cat (g30.trans (Kp.ex ((e31.trans e32).trans e33))) rfl rfl H33 (Ex.refl _) _ fun L4 H34 hL4 e34 h34 => l_nil ⟨D, G, L4, t5, (kn ++ [nmAt j]).map V.str, rfl, (((d30.ex e31).ex e32).ex e33).ex e34, by omega, h34, (((d30.ex e31).ex e32).ex e33).ne hL4 |>.2, by simp, by rw [List.length_map]; simp; omega, fun H35 y hy d35 kp35 tp35 => l_nil ⟨sz_le (show 2 ≤ 100000 by decide), fun p2 hp2 => ?_⟩⟩)))))))
        obtain ⟨nn, hnn, rfl⟩ := List.mem_map.mp hy
        have okn := hknn nn hnn
        refine ax_W (ew_u (eu_tup (ea_cons ev_c (ea_cons ev_c (ea_cons ev_c ea_nil))) (show 3 ≤ 100000 by decide))) fun p3 H36 e36 h36 => ax_W (ew_u (eu_tup (ea_cons ev_c (ea_cons (ev_var rfl) ea_nil)) (show 2 ≤ 100000 by decide))) fun p4 H37 e37 h37 => l_nil ⟨sz_le (show 4 ≤ 100000 by decide), fun Lr hLr => ?_⟩
        have eD := (e31.trans e32).trans (e33.trans e34)
        have eE := (Ex.new (o := .tup [.str "throw", .str nn]) hp2).trans ((e36.trans e37).trans (Ex.new (o := .lst [.ref p1, .ref p2, .ref p3, .ref p4]) hLr))
        have tF := ((ex_tp eD).trans tp35).trans (ex_tp eE)
        obtain ⟨qr, xr, hqr, hqt, okr⟩ : ∃ qr xr, ([.ref p1, .ref p2, .ref p3, .ref p4] : List V)[en]? = some (.ref qr) ∧ (upd H37 Lr (.lst [.ref p1, .ref p2, .ref p3, .ref p4])) qr = some (.tup (simV xr)) ∧ xr.Ok := by
          have e37' := Ex.new (o := .lst [.ref p1, .ref p2, .ref p3, .ref p4]) hLr
          match en, hen4 with
          | 0, _ => exact ⟨p1, .again, rfl, (((ex_tp ((e32.trans e33).trans e34)).trans tp35).trans (ex_tp eE)) _ _ h31, trivial⟩
          | 1, _ => exact ⟨p2, .throw nn none, rfl, ((e36.trans e37).trans e37') _ _ upd_same, okn.1, okn.2, fun n e => by cases e⟩
          | 2, _ => exact ⟨p3, .raise "State" "z" none, rfl, (e37.trans e37') _ _ h36, ⟨isKind_State, kn_State⟩, lab_z, fun n e => by cases e⟩
          | 3, _ => exact ⟨p4, .note (j : Int), rfl, e37' _ _ h37, by omega, by omega⟩
          | n + 4, h => omega
        refine ev_var (v := .int (en : Int)) rfl _ (Ex.refl _) _ fun H38 e38 => ⟨Lr, _, (en : Int), _, rfl, rfl, sq_of (e38 _ _ upd_same), atI_nat hqr, ?_⟩
        have eF := eE.trans e38
        have tG := tF.trans (ex_tp e38)
        have hul := bt.len
        have hul7 := okb.len
        -- the whole
        refine s_retX (x_try (q := q) (x := x) (nm := some (nmAt j)) (h := b.app (.sim xr .nil)) (xs := us ++ [.ref qr]) (ev_var rfl) (ev_var rfl) (ew_cat (ev_var rfl) (tG _ _ hp) (eu_tup (ea_cons (ev_var rfl) ea_nil) (show 1 ≤ 100000 by decide)) (by omega)) ((tp30.trans tG) _ _ hq) okx (by rw [List.length_append]; show us.length + 1 ≤ _; omega) ((bt.tp tG).app (.sim (e38 _ _ hqt) okr .nil)) fun pR H40 e40 btR => ?_)
        refine kk H40 (t5 + 1) pR x (nmAt j) _ (d35.ex (eF.trans e40)) (by omega) (((g30.trans (Kp.ex eD)).trans kp35).trans (Kp.ex (eF.trans e40))) btR hx (fun n e => by cases e; exact ⟨nok.1, nerr⟩) ?_
        exact (okb.app (b := .sim xr .nil) (m' := 1) (n' := 1) ⟨rfl, Nat.le_refl _, Nat.le_refl _, Nat.zero_le _, fun dd hd => ⟨by omega, trivial⟩⟩).mono (by omega) (by omega) (Nat.le_refl _) (Nat.le_refl _)
/-- all depths -/
theorem ok_l_nest_all (T : Tx w K mg) (F_l_next : FOk PW w K mg base 1 (f_l_next K) ["_law_draw", "_law_below"] [] sp_nxt) (F_l_pick : FOk PW w K mg base 2 (f_l_pick K) ["_law_draw", "_law_some"] [] sp_pick) (F_l_throws : FOk PW w K mg base 3 (f_l_throws K) ["_law_draw", "_law_known"] [] sp_throws) : ∀ e, FOk PW w K mg base (4 + e) (f_l_nest K) ["_law_draw", "_law_known", "_law_deep"] [] (sp_nest e)
  | 0 => ok_l_nest T (k := 3) (by decide) (fun e' h => by cases h) F_l_next F_l_pick F_l_throws ((ok_ln_no T).mono (by decide))
  | e + 1 => (ok_l_nest T (k := 4 + e) (e := e + 1) (by omega) (fun e' h => by cases h; rfl) F_l_next F_l_pick F_l_throws (ok_l_nest_all T F_l_next F_l_pick F_l_throws e)).mono (by omega)
end
end L2.EX
namespace L2.EX
set_option maxHeartbeats 300000
open PySem PySem.Spec PyProof.Rows Evl
/-! The law's readings of faults; its tree; the draw begun. -/
/-- the faults stand in memory -/
def FtA (K : Frg) (H : Hp) (fa : List (Addr × Addr)) (rows : List FR) : Prop := ∀ (i : Nat) (r : FR), rows[i]? = some r → H (fa.getD i (0, 0)).1 = some (.ins (a_Fault K) (fa.getD i (0, 0)).2 (fFs r.kind r.label i (refO fa r.ctx) (refO fa r.cause) r.hides))
theorem FtA.ex {K : Frg} {H H' : Hp} {fa : List (Addr × Addr)} {rows : List FR} (h : FtA K H fa rows) (e : Ex H H') : FtA K H' fa rows := fun i r q => e _ _ (h i r q)
structure Lnk (rows : List FR) : Prop where
  ctx : ∀ i c, ctxOf rows i = some c → c < rows.length
  cau : ∀ (i : Nat) (r : FR) (c : Nat), rows[i]? = some r → r.cause = some c → c < rows.length
  rnk : ∃ r : Nat → Nat, ∀ i c, ctxOf rows i = some c → r c < r i
theorem x_lcT {K : Frg} {σ : L2.St} {H : Hp} {a : Addr} {xs : List V} {tl te : TE} {tt : TT} {j : Nat} {vs : List Nat} {Q : VK} (h : Evl.Ev tl σ H (.ref a)) (hx : H a = some (.tup xs))
    (k : ∀ H1, Ex H H1 → ∀ Dl, H1 Dl = none → ∃ W : Nat → Nat → Hp → Prop, (∃ m, W 0 m (upd H1 Dl (.lst []))) ∧ ∀ i m H, W i m H → ((Itt K a).stop i H ∧ Q (.ref Dl) H) ∨ ((Itt K a).go i H ∧ ∃ Nx : Hp → Prop, (∀ H', Nx H' → ∃ m', m' < m ∧ W (i + 1) m' H') ∧ ∀ x H', (Itt K a).yld i H x H' → gName j x (wipe σ vs) H' fun σ2 H2 => wipe σ2 vs = wipe σ vs ∧ tt σ2 H2 fun b H3 => if b = true then te σ2 H3 fun y H4 => ∃ acc, H4 Dl = some (.lst acc) ∧ acc.length < sizeLine ∧ Nx (upd H4 Dl (.lst (acc ++ [y]))) else Nx H3)) :
    tLc (iTup K tl) (gName j) tt te vs σ H Q := h H (Ex.refl _) _ fun H1 e1 => ⟨a, rfl, ⟨xs, st_of (e1 _ _ hx)⟩, fun Dl hD => k H1 e1 Dl hD⟩
section
variable {w : World} {K : Frg} {mg : Str → Option Value} {base : Heap}
def sp_lnum (K : Frg) : Sp := Pur fun vs H z => (vs = [.non] ∧ z = .non) ∨ ∃ a dx fs, vs = [.ref a] ∧ H a = some (.ins (a_Fault K) dx fs) ∧ fs.lookup ("s1_number" : Str) = some z
theorem ok_l_number (T : Tx w K mg) (F_Fault_number : FOk PW w K mg base 1 (f_Fault_number K) ["self"] [] (sp_get (a_Fault K) "s1_number")) : FOk PW w K mg base 3 (f_l_number K) ["_law_f"] [] (sp_lnum K) := by
  obtain ⟨fd, F⟩ := T.d_l_number
  refine ⟨⟨fd, [], F.ok sc_l_number (fun vs H Q E h => ?_) (fun cdv A outer s H vs Q E hr h => ?_), F.bindsN fun _ _ _ _ _ _ us hl => match us, hl with | [_], _ => rfl, .nil⟩, F.kp⟩
  · obtain ⟨z, ⟨rfl, _⟩ | ⟨a, dx, fs, rfl, _⟩, _⟩ := h <;> rfl
  · obtain ⟨z, h1, k⟩ := h
    refine ⟨_, (PSs.nox (pss_one (ps_ret (pe_ifExp (pt_cmpR op_isN (pv 0) pe_non (nomark _)) pe_non (pk_prop (pv 0) T.c_Fault T.p_Fault_number F_Fault_number hr))))), ?_⟩
    rcases h1 with ⟨rfl, rfl⟩ | ⟨a, dx, fs, rfl, h1, h2⟩
    · exact s_ret (ev_if (b := true) (et_test (ev_op (ev_var rfl) ev_c rv_isN)) (fun _ => ev_c) fun q => Bool.noConfusion q) k
    · exact s_ret (ev_if (b := false) (et_test (ev_op (ev_var rfl) ev_c rv_isN)) (fun q => Bool.noConfusion q) fun _ => ev_prop (ev_var rfl) h1 (get_v h1 h2)) k
theorem num_v {H : Hp} {fa : List (Addr × Addr)} {rows : List FR} {o : Option Nat} (ft : FtA K H fa rows) (ho : ∀ i, o = some i → i < rows.length) : SpV (free (sp_lnum K)) [refO fa o] H (oN o) := by
  cases o with
  | none => exact pur_v fun H1 e => .inl ⟨rfl, rfl⟩
  | some i =>
    obtain ⟨r, er⟩ := row_at (ho i rfl)
    exact pur_v fun H1 e => .inr ⟨_, _, _, rfl, e _ _ (ft i r er), rfl⟩
/-- a new list of rows -/
def sp_lrows (K : Frg) : Sp := fun vs H Q _ => ∃ (p : Addr) (fa : List (Addr × Addr)) (rows : List FR), vs = [.ref p] ∧ H p = some (.tup (flV fa rows.length)) ∧ FtA K H fa rows ∧ Lnk rows ∧ rows.length ≤ 1000 ∧
  ∀ (q : Addr) (H' : Hp) (bs : List Addr), Ex H H' → H' q = some (.lst (bs.map V.ref)) → bs.length = rows.length → (∀ (i : Nat) (r : FR), rows[i]? = some r → H' (bs.getD i 0) = some (.lst (lrow r))) → Q (.ref q) H'
theorem ok_l_rows (T : Tx w K mg) (F_l_number : FOk PW w K mg base 3 (f_l_number K) ["_law_f"] [] (sp_lnum K)) (F_Fault_kind : FOk PW w K mg base 1 (f_Fault_kind K) ["self"] [] (sp_get (a_Fault K) "s1_kind")) (F_Fault_label : FOk PW w K mg base 1 (f_Fault_label K) ["self"] [] (sp_get (a_Fault K) "s1_label"))
    (F_Fault_context : FOk PW w K mg base 1 (f_Fault_context K) ["self"] [] (sp_get (a_Fault K) "s1_context")) (F_Fault_cause : FOk PW w K mg base 1 (f_Fault_cause K) ["self"] [] (sp_get (a_Fault K) "s1_cause")) (F_Fault_hides : FOk PW w K mg base 1 (f_Fault_hides K) ["self"] [] (sp_get (a_Fault K) "s1_hides")) :
    FOk PW w K mg base 4 (f_l_rows K) ["_law_some"] [] (sp_lrows K) := by
  obtain ⟨fd, F⟩ := T.d_l_rows
  refine ⟨⟨fd, [], F.ok sc_l_rows (fun vs H Q E h => ?_) (fun cdv A outer s H vs Q E hr h => ?_), F.bindsN fun _ _ _ _ _ _ us hl => match us, hl with | [_], _ => rfl, .nil⟩, F.kp⟩
  · obtain ⟨p, fa, rows, rfl, _⟩ := h
    rfl
  · obtain ⟨p, fa, rows, rfl, hp, ft, lk, hlen, k⟩ := h
    refine ⟨_, (PSs.nox (pss_one (ps_ret (pe_lc (own := [("_law_f", 1)]) (g := gName 1) rfl sc_l_rows.nd (pi_tup (pv 0)) (blkOk_by (own := [("_law_f", 1)]) (N := ["_law_some", "_law_f"]) (sc := (defScope s_l_rows)) (by decide +kernel)) (fun _ _ _ _ _ => pg_name (i := 1) sc_l_rows.nd rfl (Or.inl rfl)) (fun _ _ _ _ _ => pts_nil) (fun _ _ _ _ _ => (pe_lst (pa_cons (pk_prop (pv 1) T.c_Fault T.p_Fault_kind F_Fault_kind hr) (pa_cons (pk_prop (pv 1) T.c_Fault T.p_Fault_label F_Fault_label hr) (pa_cons (pk_call F_l_number hr rfl T.g_l_number (pa_cons (pk_prop (pv 1) T.c_Fault T.p_Fault_context F_Fault_context hr) pa_nil)) (pa_cons (pk_call F_l_number hr rfl T.g_l_number (pa_cons (pk_prop (pv 1) T.c_Fault T.p_Fault_cause F_Fault_cause hr) pa_nil)) (pa_cons (pk_prop (pv 1) T.c_Fault T.p_Fault_hides F_Fault_hides hr) pa_nil))))))))))), ?_⟩
    have h0 : Evl.Ev (tVar 0) [some (V.ref p), none] H (.ref p) := ev_var rfl
    refine s_retX (x_lcT h0 hp fun H1 e1 Dl hD => lc_tup (xs := flV fa rows.length) (fun i H' => H1 Dl = none ∧ Ex H1 H' ∧ ∃ bs : List Addr, H' Dl = some (.lst (bs.map V.ref)) ∧ bs.length = i ∧ ∀ (j : Nat) (r : FR), j < i → rows[j]? = some r → H' (bs.getD j 0) = some (.lst (lrow r)) ∧ bs.getD j 0 ≠ Dl)
      ⟨hD, Ex.new hD, [], upd_same, rfl, fun j r hj => absurd hj (Nat.not_lt_zero _)⟩ (fun i H' _ pv => st_of (pv.2.1 _ _ (e1 _ _ hp))) (fun i x H' hx pv => ⟨rfl, ?_⟩) fun H' pv => ?_)
    · obtain ⟨p1, p2, bs, p3, p4, p5⟩ := pv
      have hil : i < rows.length := by
        have := (List.getElem?_eq_some_iff.mp hx).1
        unfold flV at this
        simpa using this
      obtain ⟨ri, er⟩ := row_at hil
      have ex0 : x = refF fa i := by
        unfold flV at hx
        rw [List.getElem?_map, List.getElem?_range hil] at hx
        exact (Option.some.inj hx).symm
      subst ex0
      have f1 := ((ft.ex e1).ex p2) i ri er
      have cx : ∀ c, ri.ctx = some c → c < rows.length := fun c hc => lk.ctx i c (by unfold ctxOf; rw [er]; exact hc)
      have cu : ∀ c, ri.cause = some c → c < rows.length := fun c hc => lk.cau i ri c er hc
      have ftH := (ft.ex e1).ex p2
      unfold tYes
      dsimp only
      rw [if_pos rfl]
      refine el_lst (ea_cons (ev_prop (ev_var rfl) f1 (get_v f1 rfl)) (ea_cons (ev_prop (ev_var rfl) f1 (get_v f1 rfl)) (ea_cons (ev_call (ea_cons (ev_prop (ev_var rfl) f1 (get_v f1 rfl)) ea_nil) (num_v ftH cx))
        (ea_cons (ev_call (ea_cons (ev_prop (ev_var rfl) f1 (get_v f1 rfl)) ea_nil) (num_v ftH cu)) (ea_cons (ev_prop (ev_var rfl) f1 (get_v f1 rfl)) ea_nil))))) (show 5 ≤ 100000 by decide) H' (Ex.refl _) _ fun b H2 hb e2 h2 => ?_
      have hb2 : b ≠ Dl := fun z => ne_of_none p3 hb z.symm
      have q1 : upd H2 Dl (.lst (bs.map V.ref ++ [.ref b])) Dl = some (.lst ((bs ++ [b]).map V.ref)) := by rw [upd_same, List.map_append]; rfl
      have q2 : (bs ++ [b]).length = i + 1 := by rw [List.length_append, p4]; rfl
      refine ⟨bs.map V.ref, e2 Dl _ p3, sz_lt (by rw [List.length_map]; omega), p1, Ex.mut (p2.trans e2) p1, bs ++ [b], q1, q2, fun j r hj hr => ?_⟩
      by_cases c : j = i
      · subst c
        rw [er] at hr
        cases hr
        have eg : (bs ++ [b]).getD j 0 = b := by rw [← p4]; simp
        rw [eg, upd_ne hb2]
        exact ⟨h2, hb2⟩
      · have eg : (bs ++ [b]).getD j 0 = bs.getD j 0 := by
          rw [List.getD_eq_getElem?_getD, List.getD_eq_getElem?_getD, List.getElem?_append_left (by omega)]
        obtain ⟨h3, h4⟩ := p5 j r (by omega) hr
        rw [eg, upd_ne h4]
        exact ⟨e2 _ _ h3, h4⟩
    · obtain ⟨p1, p2, bs, p3, p4, p5⟩ := pv
      have hfl : (flV fa rows.length).length = rows.length := by unfold flV; simp
      rw [hfl] at p4 p5
      exact k Dl H' bs (e1.trans p2) p3 p4 fun i r hr => (p5 i r (List.getElem?_eq_some_iff.mp hr).1 hr).1
/-- no fault's contexts come back to it -/
def sp_lturns (K : Frg) : Sp := fun vs H Q _ => ∃ (fa : List (Addr × Addr)) (rows : List FR) (f : Nat), vs = [refF fa f] ∧ f < rows.length ∧ FtA K H fa rows ∧ Lnk rows ∧ rows.length ≤ 1000 ∧ ∀ H', Ex H H' → Q (.bl false) H'
theorem inV_no {c : Nat} {is : List Nat} (h : c ∉ is) : inV (.int (c : Int)) (is.map fun i : Nat => V.int (i : Int)) = false := by
  unfold inV
  rw [List.any_map]
  refine List.any_eq_false.mpr fun i hi => ?_
  have ne : i ≠ c := fun z => h (by rw [← z]; exact hi)
  show ¬ eqV (.int (i : Int)) (.int (c : Int)) = true
  intro z
  have z : decide ((i : Int) = (c : Int)) = true := z
  have := of_decide_eq_true z
  omega
theorem ok_l_turns (T : Tx w K mg) (F_Fault_number : FOk PW w K mg base 1 (f_Fault_number K) ["self"] [] (sp_get (a_Fault K) "s1_number")) (F_Fault_context : FOk PW w K mg base 1 (f_Fault_context K) ["self"] [] (sp_get (a_Fault K) "s1_context")) :
    FOk PW w K mg base 3 (f_l_turns K) ["_law_f"] [] (sp_lturns K) := by
  obtain ⟨fd, F⟩ := T.d_l_turns
  refine ⟨⟨fd, [], F.ok sc_l_turns (fun vs H Q E h => ?_) (fun cdv A outer s H vs Q E hr h => ?_), F.bindsN fun _ _ _ _ _ _ us hl => match us, hl with | [_], _ => rfl, .nil⟩, F.kp⟩
  · obtain ⟨fa, rows, f, rfl, _⟩ := h
    rfl
  · obtain ⟨fa, rows, f, rfl, hf, ft, lk, hlen, k⟩ := h
    refine ⟨_, (PSs.nox (pss_cons (ps_par (i := 1) (j := 2) rfl sc_l_turns.nd rfl rfl (by decide) rfl rfl (pa_cons (pe_lst pa_nil) (pa_cons (pv 0) pa_nil)) rfl) (pss_cons (ps_while PassesOwn.never (PW.pt (pw_and (pt_cmpR op_notN (pv 2) pe_non (nomark _)) (pw_and1 (pt_cmpR op_notIn_seq (pk_prop (pv 2) T.c_Fault T.p_Fault_number F_Fault_number hr) (pv 1) rfl)))) (pss_cons (ps_expr (pe_bm PySem.F.plainAttrs_list PySem.F.slot_list_append PySem.F.type_list_append mt_append (pv 1) (pa_cons (pk_prop (pv 2) T.c_Fault T.p_Fault_number F_Fault_number hr) pa_nil))) (pss_one (ps_set (i := 2) sc_l_turns.nd rfl (Or.inl rfl) (pk_prop (pv 2) T.c_Fault T.p_Fault_context F_Fault_context hr))))) (pss_one (ps_ret (pe_cmpR op_notN (pv 2) pe_non (nomark _))))))), ?_⟩
    obtain ⟨rk, hrk⟩ := lk.rnk
    refine q_parX (el_lst ea_nil (Nat.zero_le _) H (Ex.refl _) _ fun L H1 hL e1 h1 => ev_var (v := refF fa f) rfl H1 (Ex.refl _) _ fun H2 e2 => ⟨_, _, rfl, ?_⟩)
    have e12 := e1.trans e2
    refine q_while (fun m σ' H' => ∃ (o : Option Nat) (is : List Nat), σ' = [some (refF fa f), some (.ref L), some (refO fa o)] ∧ Ex H H' ∧ H' L = some (.lst (is.map fun i : Nat => V.int (i : Int))) ∧ (∀ c, o = some c → c < rows.length ∧ (∀ i ∈ is, rk c < rk i) ∧ m = rk c + 1) ∧ is.Nodup ∧ ∀ i ∈ is, i < rows.length) (rk f + 1) ⟨some f, [], rfl, e12, e2 _ _ h1, fun c hc => by cases hc; exact ⟨hf, (fun i hi => absurd hi List.not_mem_nil), rfl⟩, List.nodup_nil, fun i hi => absurd hi List.not_mem_nil⟩ ?_
    rintro m σ' H' ⟨o, is, rfl, e3, h3, ho, nd, lt⟩
    have hil := nodup_len nd lt
    cases o with
    | none =>
      refine ⟨false, et_is (et_and (a := false) (b := false) (et_test (ev_op (ev_var rfl) ev_c rv_notN)) fun q => Bool.noConfusion q) rfl, fun q => Bool.noConfusion q, fun _ H4 e4 => ?_⟩
      exact s_ret (D := { nx := fun _ H' => Q .non H', rt := Q }) (ev_is (ev_op (ev_var rfl) ev_c rv_notN) rfl) fun H5 e5 => k H5 ((e3.trans e4).trans e5)
    | some c =>
      obtain ⟨hc, hr, rfl⟩ := ho c rfl
      obtain ⟨rc, er⟩ := row_at hc
      have nm : c ∉ is := fun z => Nat.lt_irrefl _ (hr c z)
      have num : ∀ {H4 : Hp}, Ex H' H4 → Evl.Ev (tProp (a_Fault K) (free (sp_get (a_Fault K) "s1_number")) [] E0 (tVar 2)) [some (refF fa f), some (.ref L), some (refO fa (some c))] H4 (.int (c : Int)) := fun {H4} e4 => ev_prop (ev_var rfl) ((ft.ex (e3.trans e4)) c rc er) (get_v ((ft.ex (e3.trans e4)) c rc er) rfl)
      refine ⟨true, et_is (et_and (a := true) (b := true) (et_test (ev_op (ev_var rfl) ev_c rv_notN)) fun _ => et_test (ev_is (ev_op (num (Ex.refl _)) (ev_var rfl) (rv_niL (sq_of h3) rfl ?_)) (by rw [inV_no nm]; rfl))) rfl, fun _ H4 e4 => ⟨_, fun σ2 H2 n => n, ?_⟩, fun q => Bool.noConfusion q⟩
      · rw [List.all_map]
        exact List.all_eq_true.mpr fun i _ => rfl
      · refine q_app (e4 _ _ h3) (ev_var rfl) (num e4) (by rw [List.length_map]; omega) fun H5 e5 => ?_
        have hL5 : H L = none := hL
        have e6 : Ex H (upd H5 L (.lst ((is.map fun i : Nat => V.int (i : Int)) ++ [.int (c : Int)]))) := Ex.mut ((e3.trans e4).trans e5) hL5
        refine s_asg (v := refO fa rc.ctx) (ev_prop (ev_var rfl) ((ft.ex e6) c rc er) (get_v ((ft.ex e6) c rc er) rfl)) fun H7 e7 => ?_
        have cx : ctxOf rows c = rc.ctx := by unfold ctxOf; rw [er]; rfl
        have l7 : H7 L = some (.lst ((is ++ [c]).map fun i : Nat => V.int (i : Int))) := by
          rw [List.map_append]
          exact e7 _ _ upd_same
        have nd7 : (is ++ [c]).Nodup := List.nodup_append.mpr ⟨nd, by simp, fun x hx y hy e => nm (by rw [← List.mem_singleton.mp hy, ← e]; exact hx)⟩
        have lt7 : ∀ i ∈ is ++ [c], i < rows.length := fun i hi => by
          rcases List.mem_append.mp hi with z | z
          · exact lt i z
          · rw [List.mem_singleton.mp z]; exact hc
        cases hcx : rc.ctx with
        | none => exact ⟨0, Nat.succ_pos _, none, is ++ [c], rfl, e6.trans e7, l7, (fun c' h => by cases h), nd7, lt7⟩
        | some c' =>
          rw [hcx] at cx
          have hlt := hrk c c' cx
          refine ⟨rk c' + 1, Nat.succ_lt_succ hlt, some c', is ++ [c], rfl, e6.trans e7, l7, fun c'' h => ?_, nd7, lt7⟩
          cases h
          refine ⟨lk.ctx c c' cx, fun i hi => ?_, rfl⟩
          rcases List.mem_append.mp hi with z | z
          · exact Nat.lt_trans hlt (hr i z)
          · rw [List.mem_singleton.mp z]; exact hlt
/-- the tree of the law -/
def sp_ltree (K : Frg) : Sp := fun vs H Q _ => vs = [] ∧ ∀ H' T dT PD, Own H H' [(T, .ins (a_KindTree K) dT [("s1_parents", .ref PD)]), (PD, .dK kindsK)] → Q (.ref T) H'
theorem ok_l_tree (T : Tx w K mg) (F_KindTree_init : FnR PW w K mg base C8.CX0 3 (f_KindTree_init K) (sp_kt K)) : FOk PW w K mg base 5 (f_l_tree K) [] [] (sp_ltree K) := by
  obtain ⟨fd, F⟩ := T.d_l_tree
  refine ⟨⟨fd, [], F.ok sc_l_tree (fun vs H Q E h => ?_) (fun cdv A outer s H vs Q E hr h => ?_), F.bindsN fun _ _ _ _ _ _ us hl => match us, hl with | [], _ => rfl, .nil⟩, F.kp⟩
  · obtain ⟨rfl, _⟩ := h
    rfl
  · obtain ⟨rfl, k⟩ := h
    refine ⟨_, (PSs.nox (pss_one (ps_ret (StX.pe_makeR (E := E0) T.k_KindTree F_KindTree_init (hr.mono (by decide)) rfl T.g_KindTree pass0 (pa_cons (pe_tup (pa_cons pe_str (pa_cons pe_str pa_nil))) (pa_cons (pe_tup (pa_cons pe_str (pa_cons pe_str pa_nil))) pa_nil)))))), ?_⟩
    refine s_retX (ax_W (ew_u (eu_tup (ea_cons ev_c (ea_cons ev_c ea_nil)) (show 2 ≤ 100000 by decide))) fun q0 H1 e1 h1 => ax_W (ew_u (eu_tup (ea_cons ev_c (ea_cons ev_c ea_nil)) (show 2 ≤ 100000 by decide))) fun q1 H2 e2 h2 => ax_nil fun x dx hx hd n => ?_)
    have w0 : Own H (upd (upd H2 dx (.own x)) x (.ins (a_KindTree K) dx [])) ([] ++ [(x, .ins (a_KindTree K) dx [])]) := ((Own.refl (H := H)).grow (e1.trans e2)).made2 (C := a_KindTree K) (fs := []) hx hd n
    have em := ex_made (o := .own x) (u := .ins (a_KindTree K) dx []) hx hd n
    refine ⟨[.ref x], [.ref q0, .ref q1], rfl, rfl, sz_le (show 2 ≤ 100000 by decide), fun p hp => ?_⟩
    have ep := em.trans (Ex.new (o := .tup [.ref q0, .ref q1]) hp)
    exact ⟨H, x, dx, p, q0, q1, rfl, upd_same, (e2.trans ep) _ _ h1, ep _ _ h2, w0.tmp hp, fun H' PD w1 => ⟨rfl, k H' x dx PD w1⟩⟩
end
end L2.EX
namespace L2.EX
set_option maxHeartbeats 300000
open PySem PySem.Spec PyProof.Rows Evl
/-! The draw begun. -/
/-- over enumerate(l), l a list -/
theorem go_enumL {K : PySem.W.Frag} {a : Addr} {xs : List V} {g : TG} {tb : TS} {D : Ends} {σ : L2.St} {H : Hp} (Pv : Nat → L2.St → Hp → Prop) (p0 : Pv 0 σ H) (pl : ∀ i σ H, i ≤ xs.length → Pv i σ H → SqL K H a xs)
    (ps : ∀ i x σ H T, xs[i]? = some x → Pv i σ H → H T = none → g (.ref T) σ (upd H T (.tup [.int (i : Nat), x])) fun σ2 H2 => tb { D with nx := Pv (i + 1), ct := Pv (i + 1), bk := D.nx } σ2 H2) (pd : ∀ σ H, Pv xs.length σ H → D.nx σ H) :
    ∃ W : Nat → Nat → L2.St → Hp → Prop, (∃ m, W 0 m σ H) ∧ ∀ i m σ H, W i m σ H →
      ((Ite K a).stop i H ∧ D.nx σ H) ∨ ((Ite K a).go i H ∧ ∃ N : L2.St → Hp → Prop, (∀ σ' H', N σ' H' → ∃ m', m' < m ∧ W (i + 1) m' σ' H') ∧ ∀ x H', (Ite K a).yld i H x H' → g x σ H' fun σ2 H2 => tb { D with nx := N, ct := N, bk := D.nx } σ2 H2) := by
  refine ⟨fun i m σ H => m = xs.length - i ∧ i ≤ xs.length ∧ Pv i σ H, ⟨xs.length, (Nat.sub_zero _).symm, Nat.zero_le _, p0⟩, ?_⟩
  rintro i m σ H ⟨rfl, hi, p⟩
  have q := pl i σ H hi p
  rcases Nat.lt_or_ge i xs.length with c | c
  · refine .inr ⟨⟨xs, xs[i], q, List.getElem?_eq_getElem c⟩, Pv (i + 1), fun σ' H' p' => ⟨xs.length - (i + 1), by omega, rfl, c, p'⟩, fun x H' y => ?_⟩
    obtain ⟨T, z, rfl, hT, rfl, y⟩ := y
    exact ps i z σ H T (y xs q) p hT
  · obtain rfl : i = xs.length := by omega
    exact .inl ⟨⟨xs, q, Nat.le_refl _⟩, pd σ H p⟩
section
variable {K : Frg} {σ : L2.St} {H : Hp} {ta : TA} {tu : TS} {D : Ends} {tz : TS} {a : Addr} {xs : List V}
theorem q_forEnL {i j : Nat} (h : EvA ta σ H [.ref a]) (hx : SqL K H a xs) (Pv : Nat → L2.St → Hp → Prop) (h0 : ∀ H1, Ex H H1 → Pv 0 σ H1) (hl : ∀ i σ' H', i ≤ xs.length → Pv i σ' H' → SqL K H' a xs)
    (hs : ∀ (n : Nat) x σ' H' H1, xs[n]? = some x → Pv n σ' H' → Ex H' H1 → tu { D with nx := Pv (n + 1), ct := Pv (n + 1), bk := tz D } ((σ'.set i (some (.int n))).set j (some x)) H1) (hd : ∀ σ' H', Pv xs.length σ' H' → tz D σ' H') :
    tSeq (tFor (iEnum K ta) (gTup K 2 (gCons (gName i) (gCons (gName j) gNil))) tu) tz D σ H :=
  h H (Ex.refl H) _ fun H1 e1 => ⟨a, xs, rfl, ex_l e1 hx, go_enumL (D := { D with nx := tz D }) Pv (h0 H1 e1) hl (fun n x σ' H' T e p hT => ⟨T, _, rfl, st_of upd_same, rfl, g_cons (g_cons (g_nil (hs n x σ' H' _ e p (Ex.new hT))))⟩) hd⟩
end
section
variable {w : World} {K : Frg} {mg : Str → Option Value} {base : Heap}
def sp_lbegun (K : Frg) : Sp := fun vs H Q _ => ∃ (S : Addr) (ns : List Int), vs = [.ref S] ∧ SqL K H S (ns.map V.int) ∧ ns.length ≤ 63 ∧ ∀ H' D G, Ex H H' → DrS D G 0 H' → Q (.ref D) H'
theorem ok_l_begun (T : Tx w K mg) : FOk PW w K mg base 1 (f_l_begun K) ["_law_script"] [] (sp_lbegun K) := by
  obtain ⟨fd, F⟩ := T.d_l_begun
  refine ⟨⟨fd, [], F.ok sc_l_begun (fun vs H Q E h => ?_) (fun cdv A outer s H vs Q E hr h => ?_), F.bindsN fun _ _ _ _ _ _ us hl => match us, hl with | [_], _ => rfl, .nil⟩, F.kp⟩
  · obtain ⟨S, ns, rfl, _⟩ := h
    rfl
  · obtain ⟨S, ns, rfl, hS, hn, k⟩ := h
    refine ⟨_, (PSs.nox (pss_cons (ps_set (i := 1) sc_l_begun.nd rfl (Or.inl rfl) (pe_op op_add pe_int (pe_op op_mul pe_int (pe_callB call_len rfl T.z_len boot_len (pa_cons (pv 0) pa_nil))))) (pss_cons (ps_for PassesOwn.never rfl (pi_enum rfl T.z_enumerate (pa_cons (pv 0) pa_nil)) (pg_tup rfl (pgs_cons (pg_name (i := 2) sc_l_begun.nd rfl (Or.inl rfl)) (pgs_cons (pg_name (i := 3) sc_l_begun.nd rfl (Or.inl rfl)) pgs_nil))) (pss_one (ps_set (i := 1) sc_l_begun.nd rfl (Or.inl rfl) (pe_op op_mod (pe_op op_add (pe_op op_add (pe_op op_mul (pv 1) pe_int) (pv 3)) (pe_op op_mul pe_int (pv 2))) pe_int)))) (pss_one (ps_ret (pe_disp (pps_cons pe_str (pv 1) (pps_cons pe_str (pe_lc (own := [("_law_cell", 3)]) (g := gName 3) rfl sc_l_begun.nd (pi_list (pv 0)) (blkOk_by (own := [("_law_cell", 3)]) (N := ["_law_script", "_law_mixed", "_law_k", "_law_cell"]) (sc := (defScope s_l_begun)) (by decide +kernel)) (fun _ _ _ _ _ => pg_name (i := 3) sc_l_begun.nd rfl (Or.inl rfl)) (fun _ _ _ _ _ => pts_one (pt_cmpR op_ge (pv 3) (pe_op op_pow pe_int pe_int) (nomark _))) (fun _ _ _ _ _ => (pv 3))) (pps_cons pe_str pe_int pps_nil))) rfl rfl (List.cons_ne_nil _ _) (by decide))))))), ?_⟩
    refine q_asg (v := .int (32452843 + 41 * (ns.length : Int))) (ev_op ev_c (ev_op ev_c (ev_cb (ea_cons (ev_var rfl) ea_nil) (rc_len fun H5 e5 => .inl ⟨_, ex_l e5 hS, by rw [List.length_map]⟩)) (EX.rv_I _ (.inl ⟨by omega, by omega⟩))) rv_I0) fun H1 e1 => ?_
    refine q_forEnL (a := S) (xs := ns.map V.int) (ea_cons (ev_var rfl) ea_nil) (ex_l e1 hS) (fun i σ' H' => ∃ mx o2 o3, σ' = [some (.ref S), some (.int mx), o2, o3] ∧ Ex H H' ∧ 0 ≤ mx ∧ mx < 2305843009213693951)
      (fun H2 e2 => ⟨_, none, none, rfl, e1.trans e2, by omega, by omega⟩) (fun i σ' H' _ ⟨_, _, _, _, e, _⟩ => ex_l e hS) (fun n x σ' H' H2 hx pv e2 => ?_) fun σ' H' pv => ?_
    · obtain ⟨mx, o2, o3, rfl, e3, h0, h1⟩ := pv
      have hnl : n < ns.length := by have := (List.getElem?_eq_some_iff.mp hx).1; rw [List.length_map] at this; exact this
      obtain ⟨c, rfl⟩ : ∃ c, x = .int c := by
        rw [List.getElem?_map] at hx
        obtain ⟨c, _, e⟩ := Option.map_eq_some_iff.mp hx
        exact ⟨c, e.symm⟩
      refine s_asg (v := .int ((mx * 998244353 + c + 104723 * (n : Int)) % 2305843009213693951)) (ev_op (ev_op (ev_op (ev_op (ev_var rfl) ev_c (EX.rv_I _ (.inl ⟨by omega, by omega⟩))) (ev_var rfl) rv_I0) (ev_op ev_c (ev_var rfl) (EX.rv_I _ (.inl ⟨by omega, by omega⟩))) rv_I0) ev_c (EX.rv_I _ (by omega))) fun H4 e4 => ?_
      exact ⟨_, _, _, rfl, (e3.trans e2).trans e4, Int.emod_nonneg _ (by omega), Int.emod_lt_of_pos _ (by omega)⟩
    · obtain ⟨mx, o2, o3, rfl, e3, h0, h1⟩ := pv
      refine s_retX (D := { nx := fun _ H' => Q .non H', rt := Q }) fun p hp => pr_c (ev_var (v := .int mx) rfl _ (Ex.refl _) _ fun H5 e5 => pr_c ?_)
      have ep := (Ex.new (o := .dK []) hp).trans e5
      have e6 := e3.trans ep
      have big : (10 : Int) ^ (18 : Int).toNat = 1000000000000000000 := by decide
      refine el_lcL (xs := ns.map V.int) (fun i => decide (1000000000000000000 ≤ ns.getD i 0)) (fun i => V.int (ns.getD i 0)) (ev_var rfl) (ex_l e6 hS) (by rw [List.length_map]; omega) (fun y => rfl) (fun i x H7 e7 hx => ?_) (fun i x H7 e7 hx _ => ?_) H5 (Ex.refl _) _ fun G H8 hG e8 h8 => pr_c (ev_c H8 (Ex.refl _) _ fun H9 e9 => ?_)
      · have ex0 : x = .int (ns.getD i 0) := by
          rw [List.getElem?_map] at hx
          obtain ⟨c, hc, e⟩ := Option.map_eq_some_iff.mp hx
          rw [← e, List.getD_eq_getElem?_getD, hc]
          rfl
        subst ex0
        exact et_test (ev_is (ev_op (ev_var rfl) (ev_op ev_c ev_c (EX.rv_I _ ⟨by decide, by decide, by decide⟩)) rv_I0) (by rw [big]))
      · have ex0 : x = .int (ns.getD i 0) := by
          rw [List.getElem?_map] at hx
          obtain ⟨c, hc, e⟩ := Option.map_eq_some_iff.mp hx
          rw [← e, List.getD_eq_getElem?_getD, hc]
          rfl
        subst ex0
        exact ev_var rfl
      · have hpD : H9 p = some (.dK []) := e9 _ _ (e8 _ _ (e5 _ _ upd_same))
        have hGp : G ≠ p := fun z => ne_of_none (e5 _ _ upd_same) hG z.symm
        refine ⟨hpD, [(Sum.inr "mixed", .int mx), (Sum.inr "great", .ref G), (Sum.inr "turn", .int 0)], rfl, (show 3 ≤ 15 by decide), ?_⟩
        have eL : given (ns.map V.int).length (fun i => decide (1000000000000000000 ≤ ns.getD i 0)) (fun i => V.int (ns.getD i 0)) = ((((List.range (ns.map V.int).length).filter fun i => decide (1000000000000000000 ≤ ns.getD i 0)).map fun i => ns.getD i 0)).map V.int := by
          unfold given
          rw [List.map_map]
          rfl
        have gl := given_len (ns.map V.int).length (fun i => decide (1000000000000000000 ≤ ns.getD i 0)) (fun i => V.int (ns.getD i 0))
        rw [eL] at h8 gl
        generalize (((List.range (ns.map V.int).length).filter fun i => decide (1000000000000000000 ≤ ns.getD i 0)).map fun i => ns.getD i 0) = gs at h8 gl
        rw [List.length_map, List.length_map] at gl
        refine k _ p G (Ex.mut (e6.trans (e8.trans e9)) (fresh_back e3 hp)) ⟨mx, gs, hGp.symm, upd_same, ?_, h0, h1, by omega, by omega, by omega⟩
        rw [upd_ne hGp]
        exact e9 _ _ h8
end
end L2.EX
namespace L2.EX
set_option maxHeartbeats 400000
open PySem PySem.Spec PyProof.Rows Evl
/-! What is shown of a run stays small. -/
def StrS (x : Str) : Prop := x.cps.size ≤ 40 ∧ ∀ c ∈ x.cps.toList, c < 16 ^ 8
theorem StrS.lab {x : Str} (h : isLabelP x) : StrS x := by
  refine ⟨h.1, fun c hc => ?_⟩
  have h1 := List.all_eq_true.mp h.2 c hc
  unfold labC at h1
  have h2 := (Bool.and_eq_true_iff.mp (Bool.and_eq_true_iff.mp h1).1).2
  have h3 : (c : Int) ≤ 126 := of_decide_eq_true h2
  omega
theorem StrS.known {x : Str} (h : knownK x) : StrS x := by
  unfold knownK at h
  cases e : valV kindsK (Sum.inr x) with
  | none => rw [e] at h; cases h
  | some v =>
    have m := valV_in e
    have m : (Sum.inr x : Key) ∈ ([Sum.inr "Base", Sum.inr "Exit", Sum.inr "Error", Sum.inr "Stop", Sum.inr "Name", Sum.inr "State", Sum.inr "Key", Sum.inr "Near"] : List Key) := m
    have m : x = "Base" ∨ x = "Exit" ∨ x = "Error" ∨ x = "Stop" ∨ x = "Name" ∨ x = "State" ∨ x = "Key" ∨ x = "Near" := by simpa using m
    unfold StrS
    rcases m with rfl | rfl | rfl | rfl | rfl | rfl | rfl | rfl <;> exact ⟨by decide +kernel, by decide +kernel⟩
def EvOk (n : Nat) : Evt → Prop
  | .fault i k l => i < n ∧ knownK k ∧ isLabelP l
  | .note i => 0 ≤ i ∧ i ≤ 1000
theorem EvOk.mono {n m : Nat} {e : Evt} (h : EvOk n e) (hm : n ≤ m) : EvOk m e := by
  cases e with
  | fault i k l => exact ⟨Nat.lt_of_lt_of_le h.1 hm, h.2⟩
  | note i => exact h
structure SzR (s : PS) : Prop where
  row : ∀ r ∈ s.rows, knownK r.kind ∧ isLabelP r.label
  log : ∀ e ∈ s.log, EvOk s.rows.length e
theorem modify_lab {rows : List FR} {i : Nat} {g : FR → FR} (hg : ∀ r, (g r).kind = r.kind ∧ (g r).label = r.label) : ∀ r ∈ rows.modify i g, ∃ r' ∈ rows, r'.kind = r.kind ∧ r'.label = r.label := fun r hr => by
  obtain ⟨j, hj⟩ := List.getElem?_of_mem hr
  rw [List.getElem?_modify] at hj
  cases q : rows[j]? with
  | none => rw [q] at hj; cases hj
  | some r' =>
    rw [q] at hj
    refine ⟨r', List.mem_of_getElem? q, ?_⟩
    by_cases e : i = j
    · simp [e] at hj; rw [← hj]; exact ⟨(hg r').1.symm, (hg r').2.symm⟩
    · simp [e] at hj; rw [← hj]; exact ⟨rfl, rfl⟩
theorem SzR.sub {s : PS} {rows : List FR} (h : SzR s) (hl : rows.length = s.rows.length) (e : ∀ r ∈ rows, ∃ r' ∈ s.rows, r'.kind = r.kind ∧ r'.label = r.label) : SzR { s with rows := rows } := by
  refine ⟨fun r hr => ?_, fun v hv => ?_⟩
  · obtain ⟨r', h1, h2, h3⟩ := e r hr
    rw [← h2, ← h3]
    exact h.row r' h1
  · show EvOk rows.length v
    rw [hl]
    exact h.log v hv
theorem SzR.raised {s : PS} (h : SzR s) (f : Nat) : SzR (raised s f) := by
  rw [raised_under]
  unfold under
  cases s.hand.getLast? with
  | none => exact h
  | some g =>
    show SzR { s with rows := if g = f then s.rows else setCtx (setCtx s.rows (endp s.rows f g) none) f (some g) }
    by_cases e : g = f
    · rw [if_pos e]; exact h
    · rw [if_neg e]
      refine h.sub (by rw [len_setCtx, len_setCtx]) fun r hr => ?_
      obtain ⟨r1, h1, e1, e1'⟩ := modify_lab (rows := setCtx s.rows (endp s.rows f g) none) (i := f) (g := fun r => { r with ctx := some g }) (fun _ => ⟨rfl, rfl⟩) r hr
      obtain ⟨r2, h2, e2, e2'⟩ := modify_lab (rows := s.rows) (i := endp s.rows f g) (g := fun r => { r with ctx := none }) (fun _ => ⟨rfl, rfl⟩) r1 h1
      exact ⟨r2, h2, e2.trans e1, e2'.trans e1'⟩
theorem SzR.made {s : PS} (h : SzR s) {k l : Str} (hk : knownK k) (hl : isLabelP l) : SzR (made s k l) := by
  refine ⟨fun r hr => ?_, fun e he => ?_⟩
  · rcases List.mem_append.mp (show r ∈ s.rows ++ [(⟨k, l, none, none, false⟩ : FR)] from hr) with m | m
    · exact h.row r m
    · rw [List.mem_singleton.mp m]; exact ⟨hk, hl⟩
  · rw [made_len]
    rcases List.mem_append.mp (show e ∈ s.log ++ [Evt.fault s.rows.length k l] from he) with m | m
    · exact (h.log e m).mono (Nat.le_succ _)
    · rw [List.mem_singleton.mp m]; exact ⟨Nat.lt_succ_self _, hk, hl⟩
theorem SzR.fail {s : PS} (h : SzR s) {k l : Str} (hk : knownK k) (hl : isLabelP l) : SzR (fail s k l).2 := (h.made hk hl).raised _
theorem SzR.finR {s : PS} (h : SzR s) (f : Nat) (src : Option (Option Str)) : SzR (finR s f src).2 := by
  cases src with
  | none => exact h.raised f
  | some o => exact SzR.raised (s := { s with rows := setCause s.rows f (o.bind (bget s.board)) }) (h.sub (len_setCause ..) (modify_lab fun _ => ⟨rfl, rfl⟩)) f
theorem missing_lab {b : List (Str × Nat)} {src : Option (Option Str)} {n : Str} (ok : srcOk src) (h : missing b src = some n) : isLabelP n := by
  cases src with
  | none => cases h
  | some o =>
    cases o with
    | none => cases h
    | some m =>
      have h : (if (bget b m).isSome = true then none else some m) = some n := h
      split at h
      · cases h
      · have e := Option.some.inj h
        rw [← e]
        exact (ok m rfl).2
theorem SzR.execS {s : PS} (h : SzR s) {x : Sim} (ok : x.Ok) : SzR (execS x s).2 := by
  cases x with
  | note i =>
    refine ⟨h.row, fun e he => ?_⟩
    rcases List.mem_append.mp (show e ∈ s.log ++ [Evt.note i] from he) with m | m
    · exact h.log e m
    · rw [List.mem_singleton.mp m]; exact ok
  | again =>
    show SzR (match s.hand.getLast? with | some h => (some h, s) | none => EX.fail s "State" "nothing handled").2
    cases s.hand.getLast? with
    | some g => exact h
    | none => exact h.fail known_State isLabel_nothing
  | raise a l src =>
    show SzR (match missing s.board src with | some n => EX.fail s "Name" n | none => EX.finR (EX.made s a l) s.rows.length src).2
    cases q : missing s.board src with
    | some n => exact h.fail known_Name (missing_lab ok.2.2 q)
    | none => exact (h.made ok.1.2 ok.2.1).finR _ src
  | throw n src =>
    show SzR (match bget s.board n with | none => EX.fail s "Name" n | some f => (match missing s.board src with | some m => EX.fail s "Name" m | none => EX.finR s f src)).2
    cases bget s.board n with
    | none => exact h.fail known_Name ok.2.1
    | some f =>
      show SzR (match missing s.board src with | some m => EX.fail s "Name" m | none => EX.finR s f src).2
      cases q : missing s.board src with
      | some n => exact h.fail known_Name (missing_lab ok.2.2 q)
      | none => exact h.finR f src
def Bdy.Ok : Bdy → Prop
  | .nil => True
  | .sim x r => x.Ok ∧ r.Ok
  | .tri x _ h r => x.Ok ∧ h.Ok ∧ r.Ok
theorem BdyT.ok {H : Hp} {us : List V} {b : Bdy} (h : BdyT H us b) : b.Ok := by
  induction h with
  | nil => exact trivial
  | sim _ ok _ ih => exact ⟨ok, ih⟩
  | tri _ _ _ ok _ _ _ _ _ _ _ _ ih1 ih2 => exact ⟨ok, ih1, ih2⟩
theorem SzR.exec : ∀ (b : Bdy) (s : PS), b.hot = true → b.Ok → SzR s → SzR (exec b s).2
  | .nil, s, _, _, h => h
  | .sim x r, s, hb, ok, h => by
    rw [exec_sim]
    have h1 : SzR (EX.execS x (tick s)).2 := SzR.execS (s := tick s) ⟨h.row, h.log⟩ ok.1
    cases e : EX.execS x (tick s) with
    | mk o s1 =>
      rw [e] at h1
      cases o with
      | none => exact SzR.exec r s1 hb ok.2 h1
      | some f => exact h1
  | .tri x nm hh r, s, hb, ok, h => by
    have hb1 : x.hot = true ∧ (hh.hot && r.hot) = true := Bool.and_eq_true_iff.mp hb
    have hb2 := Bool.and_eq_true_iff.mp hb1.2
    rw [exec_tri hb1.1]
    obtain ⟨f, s1, e⟩ := execS_hot hb1.1 (tick (tick s))
    have h1 : SzR (EX.execS x (tick (tick s))).2 := SzR.execS (s := tick (tick s)) ⟨h.row, h.log⟩ ok.1
    rw [e] at h1
    have h2 := SzR.exec hh (pushB nm f s1) hb2.1 ok.2.1 ⟨h1.row, h1.log⟩
    have h3 : SzR (popB nm (EX.exec hh (pushB nm f s1)).2) := ⟨h2.row, h2.log⟩
    rw [triX_eq e]
    cases (EX.exec hh (pushB nm f s1)).1 with
    | none => exact SzR.exec r _ hb2.2 ok.2.2 h3
    | some g => exact h3
/-! ### as data -/
structure GoodD (d : PyData) (m k : Nat) : Prop where
  sh : d.showable = true
  hd : d.hasDict = false
  ls : d.leavesShort 13 = true
  wt : d.weight ≤ m
  dp : d.depth ≤ k
structure GoodL (ds : List PyData) (m k : Nat) : Prop where
  sh : PyData.showableAll ds = true
  hd : PyData.hasDictAll ds = false
  ls : PyData.leavesShortAll 13 ds = true
  wt : PyData.weightAll ds ≤ ds.length * (m + 1)
  dp : PyData.depthAll ds ≤ k
theorem GoodL.of {m k : Nat} : ∀ {ds : List PyData}, (∀ d ∈ ds, GoodD d m k) → GoodL ds m k
  | [], _ => ⟨rfl, rfl, rfl, Nat.zero_le _, Nat.zero_le _⟩
  | d :: ds, h => by
    have h1 := h d (List.mem_cons_self ..)
    have h2 := GoodL.of (ds := ds) fun e he => h e (List.mem_cons_of_mem _ he)
    refine ⟨?_, ?_, ?_, ?_, ?_⟩
    · show (d.showable && PyData.showableAll ds) = true
      rw [h1.sh, h2.sh]; rfl
    · show (d.hasDict || PyData.hasDictAll ds) = false
      rw [h1.hd, h2.hd]; rfl
    · show (d.leavesShort 13 && PyData.leavesShortAll 13 ds) = true
      rw [h1.ls, h2.ls]; rfl
    · show d.weight + 1 + PyData.weightAll ds ≤ (ds.length + 1) * (m + 1)
      have := h1.wt
      have := h2.wt
      rw [Nat.add_mul]
      omega
    · show max d.depth (PyData.depthAll ds) ≤ k
      have := h1.dp
      have := h2.dp
      omega
theorem GoodL.lst {ds : List PyData} {m k n : Nat} (h : GoodL ds m k) (hn : ds.length * (m + 1) ≤ n) : GoodD (.list ds) n (k + 1) := ⟨h.sh, h.hd, h.ls, Nat.le_trans h.wt hn, Nat.succ_le_succ h.dp⟩
theorem GoodL.tup {ds : List PyData} {m k n : Nat} (h : GoodL ds m k) (hn : ds.length * (m + 1) ≤ n) : GoodD (.tuple ds) n (k + 1) := ⟨h.sh, h.hd, h.ls, Nat.le_trans h.wt hn, Nat.succ_le_succ h.dp⟩
theorem good_str {x : Str} (h : StrS x) : GoodD (.str x) 40 0 := ⟨rfl, rfl, List.all_eq_true.mpr fun c hc => decide_eq_true (h.2 c hc), h.1, Nat.le_refl _⟩
theorem good_none : GoodD .none 40 0 := ⟨rfl, rfl, rfl, Nat.zero_le _, Nat.le_refl _⟩
theorem good_bool {b : Bool} : GoodD (.bool b) 40 0 := ⟨rfl, rfl, rfl, Nat.zero_le _, Nat.le_refl _⟩
theorem good_int {i : Int} (h : 0 ≤ i ∧ i ≤ 100000) : GoodD (.int i) 40 0 := by
  have hl : i.natAbs.log2 < 20 := PySem.Flt.log2_lt_of (by decide) (by omega)
  refine ⟨decide_eq_true (by omega), rfl, decide_eq_true (PyData.shown_int_le (by omega)), ?_, Nat.le_refl _⟩
  show (if i == 0 then 0 else i.natAbs.log2 + 1) ≤ 40
  split <;> omega
def oD : Option Nat → PyData
  | none => .none
  | some n => .int (n : Int)
theorem good_oD {o : Option Nat} (h : ∀ n, o = some n → n ≤ 100000) : GoodD (oD o) 40 0 := by
  cases o with
  | none => exact good_none
  | some n => have := h n rfl; exact good_int ⟨by omega, by omega⟩
def rowD (r : FR) : PyData := .list [.str r.kind, .str r.label, oD r.ctx, oD r.cause, .bool r.hides]
def evD : Evt → PyData
  | .fault n k l => .tuple [.str "fault", .int (n : Int), .str k, .str l]
  | .note i => .tuple [.str "note", .int i]
theorem good_row {r : FR} (h1 : StrS r.kind) (h2 : StrS r.label) (h3 : ∀ n, r.ctx = some n → n ≤ 100000) (h4 : ∀ n, r.cause = some n → n ≤ 100000) : GoodD (rowD r) 205 1 := by
  refine (GoodL.of (m := 40) (k := 0) fun d hd => ?_).lst (Nat.le_refl _)
  simp only [List.mem_cons, List.not_mem_nil, or_false] at hd
  rcases hd with rfl | rfl | rfl | rfl | rfl
  · exact good_str h1
  · exact good_str h2
  · exact good_oD h3
  · exact good_oD h4
  · exact good_bool
theorem strS_fault : StrS "fault" := ⟨by decide +kernel, by decide +kernel⟩
theorem strS_note : StrS "note" := ⟨by decide +kernel, by decide +kernel⟩
theorem strS_end : StrS "end" := ⟨by decide +kernel, by decide +kernel⟩
theorem good_ev {n : Nat} {e : Evt} (h : EvOk n e) (hn : n ≤ 100000) : GoodD (evD e) 205 1 := by
  cases e with
  | fault i k l =>
    refine (GoodL.of (m := 40) (k := 0) fun d hd => ?_).tup (show 4 * 41 ≤ 205 by decide)
    simp only [List.mem_cons, List.not_mem_nil, or_false] at hd
    rcases hd with rfl | rfl | rfl | rfl
    · exact good_str strS_fault
    · have := h.1; exact good_int ⟨by omega, by omega⟩
    · exact good_str (.known h.2.1)
    · exact good_str (.lab h.2.2)
  | note i =>
    refine (GoodL.of (m := 40) (k := 0) fun d hd => ?_).tup (show 2 * 41 ≤ 205 by decide)
    simp only [List.mem_cons, List.not_mem_nil, or_false] at hd
    rcases hd with rfl | rfl
    · exact good_str strS_note
    · exact good_int ⟨h.1, by have := h.2; omega⟩
theorem good_map {α : Type} {f : α → PyData} {l : List α} {m k : Nat} (h : ∀ a ∈ l, GoodD (f a) m k) : GoodL (l.map f) m k := GoodL.of fun d hd => by
  obtain ⟨a, ha, rfl⟩ := List.mem_map.mp hd
  exact h a ha
theorem GoodD.fits {d : PyData} {m k : Nat} (h : GoodD d m k) (hm : m ≤ 1000000) : d.shown.length ≤ sizeLine := PyData.shown_fits (B := 13) (by decide) (by decide) h.ls (Nat.le_trans h.wt (Nat.le_trans hm (by decide)))
end L2.EX
namespace L2.EX
set_option maxHeartbeats 400000
open PySem PySem.Spec PyProof.Rows Evl
/-! The two runs are compared. -/
section
variable {K : Frg} {σ : L2.St} {H H' : Hp} {te td ta : TE} {d : PyData} {v : V} {vs : List V} {ds : List PyData} {m k : Nat}
mutual
theorem Dp.ex (e : Ex H H') {v : V} {d : PyData} : Dp K H v d → Dp K H' v d
  | .non => .non
  | .bl b => .bl b
  | .int i => .int i
  | .str x => .str x
  | .lst h t => .lst (ex_l e h) (DpAll.ex e t)
  | .tup h t => .tup (ex_t e h) (DpAll.ex e t)
theorem DpAll.ex (e : Ex H H') {vs : List V} {ds : List PyData} : DpAll K H vs ds → DpAll K H' vs ds
  | .nil => .nil
  | .cons h t => .cons (Dp.ex e h) (DpAll.ex e t)
end
def EvD (K : Frg) (te : TE) (σ : L2.St) (H : Hp) (d : PyData) : Prop := ∀ H1, Ex H H1 → ∀ Q : VK, (∀ p H2, Ex H1 H2 → Dp K H2 (.ref p) d → Q (.ref p) H2) → te σ H1 Q
theorem ed_lst (h : EvL te σ H vs) (hd : DpAll K H vs ds) : EvD K te σ H (.list ds) := fun H1 e Q q => h H1 e Q fun p H2 _ e2 h2 => q p H2 e2 (.lst (sq_of h2) (DpAll.ex (e.trans e2) hd))
theorem ed_ev {a : Addr} (h : Evl.Ev te σ H (.ref a)) (hd : Dp K H (.ref a) d) : EvD K te σ H d := fun H1 e Q q => h H1 e Q fun H2 e2 => q a H2 e2 (Dp.ex (e.trans e2) hd)
theorem ev_repr (h : EvD K te σ H d) (g : GoodD d m k) (hm : m ≤ 1000000) (hk : k ≤ 20) : Evl.Ev (tCB (rRepr K) (tCons te tNil)) σ H (.str d.shown) := fun H1 e Q q => l_cons (h H1 e _ fun p H2 e2 hp => l_nil ⟨p, d, rfl, hp, g.sh, g.hd, Nat.le_trans g.dp hk, g.fits hm, q H2 e2⟩)
theorem ev_neS {x : Str} (h1 : Evl.Ev te σ H (.str x)) (h2 : Evl.Ev ta σ H (.str x)) : EvT (tTest (tOp rNe te ta)) σ H false := et_test (ev_is (ev_op h1 h2 (rv_ne rfl)) (by simp))
theorem el_sorted0 (h : EvL te σ H []) : EvL (tCB (rSortedS K) (tCons te tNil)) σ H [] := fun H1 e Q q => l_cons (h H1 e _ fun p H2 hp e2 h2 => l_nil ⟨p, [], rfl, sq_of h2, by decide, fun ys p2 hys _ hp2 => by
  obtain rfl : ys = [] := List.perm_nil.mp hys
  exact q p2 _ (fresh_back e2 hp2) (e2.trans (Ex.new hp2)) upd_same⟩)
/-- a comprehension over nothing -/
theorem el_lc0 {tt : TT} {te2 : TE} {j : Nat} {ws : List Nat} (h : EvW te σ H []) : EvL (tLc (iTup K te) (gName j) tt te2 ws) σ H [] := fun H1 e Q q => h H1 e _ fun p H2 e2 h2 => ⟨p, rfl, ⟨[], st_of h2⟩, fun Dl hD =>
  lc_tup (xs := []) (fun _ H' => H' = upd H2 Dl (.lst [])) rfl (fun i H' _ hh => by rw [hh]; exact st_of ((Ex.new hD) _ _ h2)) (fun i x H' hi => by cases hi) fun H' hh => by
    rw [hh]
    exact q Dl _ (fresh_back e2 hD) (e2.trans (Ex.new hD)) upd_same⟩
/-- .. over an empty dict, locked for the walk -/
theorem el_lcK0 {tt : TT} {te2 : TE} {j : Nat} {ws : List Nat} {b : Addr} (hb : H b = some (.dK [])) (h : ∀ H1 od, Ex H H1 → Evl.Ev td σ (upd H1 b (.frz od (.dK []))) (.ref b)) : EvL (tLockE (tLc (iKeys td) (gName j) tt te2 ws)) σ H [] := fun H1 e Q q => by
  have hb1 := e _ _ hb
  refine ⟨b, .dK [], hb1, trivial, fun od => ?_⟩
  refine h H1 od e _ (Ex.refl _) _ fun H2 e2 => ?_
  have hb2 : H2 b = some (.frz od (.dK [])) := e2 _ _ upd_same
  refine ⟨b, od, rfl, .inl ⟨[], hb2, fun Dl hD => ?_⟩⟩
  have nD : Dl ≠ b := fun z => ne_of_none hb2 hD z.symm
  have hb3 : upd H2 Dl (.lst []) b = some (.frz od (.dK [])) := (Ex.new hD) _ _ hb2
  refine lc_by (J := Itk b od []) 0 (fun _ H' => H' = upd H2 Dl (.lst [])) rfl (fun i H' hi => absurd hi (Nat.not_lt_zero _)) (fun H' hh => ?_) (fun i x H3 H' hi => absurd hi (Nat.not_lt_zero _)) fun H' hh => ?_
  · rw [hh]
    exact ⟨hb3, Nat.le_refl _⟩
  · rw [hh]
    refine ⟨hb3, q Dl _ ?_ (fun x o hx => ?_) ?_⟩
    · have z := fresh_back e2 hD
      rw [upd_ne nD] at z
      exact z
    · by_cases c : x = b
      · subst c
        rw [hb1] at hx
        rw [upd_same]
        exact hx
      · rw [upd_ne c]
        have h3 : H2 x = some o := e2 _ _ (by rw [upd_ne c]; exact hx)
        exact (Ex.new hD) _ _ h3
    · rw [upd_ne nD, upd_same]
theorem dp_oN (o : Option Nat) : Dp K H (oN o) (oD o) := by
  cases o with
  | none => exact .non
  | some n => exact .int _
theorem dp_row {p : Addr} {r : FR} (h : H p = some (.lst (lrow r))) : Dp K H (.ref p) (rowD r) := .lst (sq_of h) (.cons (.str _) (.cons (.str _) (.cons (dp_oN _) (.cons (dp_oN _) (.cons (.bl _) .nil)))))
theorem dp_rows : ∀ {bs : List Addr} {rows : List FR}, bs.length = rows.length → (∀ (i : Nat) (r : FR), rows[i]? = some r → H (bs.getD i 0) = some (.lst (lrow r))) → DpAll K H (bs.map V.ref) (rows.map rowD)
  | [], [], _, _ => .nil
  | b :: bs, r :: rows, hl, h => .cons (dp_row (h 0 r rfl)) (dp_rows (Nat.succ.inj hl) fun i r' hr => h (i + 1) r' hr)
theorem dp_log {lg : List V} {es : List Evt} (h : LogOk H lg es) : DpAll K H lg (es.map evD) := by
  induction h with
  | nil => exact .nil
  | @cons p e vs es hp _ ih =>
    refine .cons ?_ ih
    cases e with
    | fault n kd lb => exact .tup (st_of hp) (.cons (.str _) (.cons (.int _) (.cons (.str _) (.cons (.str _) .nil))))
    | note i => exact .tup (st_of hp) (.cons (.str _) (.cons (.int _) .nil))
end
/-- a def's promise where nothing is being shown, bound -/
structure FGk (P : Program) (w : World) (K : Frg) (mg : Str → Option Value) (base : Heap) (k : Nat) (f : Addr) (ps : List Str) (sp : Sp) : Prop where
  ex : ∃ fd, FnG P w K mg base C8.CX0 k f fd ps sp ∧ Binds K fd ps []
  kp : PySem.W.keepIn K (.ref f) = true
section
variable {w : World} {K : Frg} {mg : Str → Option Value} {base : Heap}
structure SameAt (K : Frg) (H : Hp) (a : RA) (la : LA) (s : PS) (fa : List (Addr × Addr)) (lg lg2 : List V) (ra : List Addr) (o d : Addr) (v ve : V) (fo : Option Nat) : Prop where
  run : H a.R = some (.ins (a_Runner K) a.dR (rFs a.T a.B a.L a.F s.steps a.A))
  brd : H a.B = some (.dK [])
  log : H a.L = some (.lst lg)
  fau : H a.F = some (.lst (flV fa s.rows.length))
  out : H o = some (.ins (a_Outcome K) d (oFs (wayS fo) (refO fa fo) v))
  flt : FtA K H fa s.rows
  lgo : LogOk H lg s.log
  md : H la.M = some (.dK (mK la s.steps))
  mb : H la.LB = some (.dK [])
  ml : H la.LL = some (.lst lg2)
  mr : H la.LR = some (.lst (ra.map V.ref))
  rw_ : ∀ (i : Nat) (r : FR), s.rows[i]? = some r → H (ra.getD i 0) = some (.lst (lrow r))
  rl : ra.length = s.rows.length
  lg2o : LogOk H lg2 s.log
  en : LEnd H ve fo
  lk : Lnk s.rows
  sz : SzR s
  nr : s.rows.length ≤ 400
  nl : s.log.length ≤ 400
  fl : ∀ f, fo = some f → f < s.rows.length
  nM : la.M ≠ la.LB
theorem SameAt.ex {H H' : Hp} {a : RA} {la : LA} {s : PS} {fa : List (Addr × Addr)} {lg lg2 : List V} {ra : List Addr} {o d : Addr} {v ve : V} {fo : Option Nat} (e : Ex H H') (h : SameAt K H a la s fa lg lg2 ra o d v ve fo) : SameAt K H' a la s fa lg lg2 ra o d v ve fo :=
  ⟨e _ _ h.run, e _ _ h.brd, e _ _ h.log, e _ _ h.fau, e _ _ h.out, h.flt.ex e, h.lgo.tp (ex_tp e), e _ _ h.md, e _ _ h.mb, e _ _ h.ml, e _ _ h.mr, fun i r q => e _ _ (h.rw_ i r q), h.rl, h.lg2o.tp (ex_tp e), h.en.tp (ex_tp e), h.lk, h.sz, h.nr, h.nl, h.fl, h.nM⟩
def sp_lsame (K : Frg) : Sp := fun vs H Q _ => ∃ (a : RA) (la : LA) (s : PS) (fa : List (Addr × Addr)) (lg lg2 : List V) (ra : List Addr) (o d : Addr) (v ve : V) (fo : Option Nat), vs = [.ref a.R, .ref o, .ref la.M, ve] ∧ SameAt K H a la s fa lg lg2 ra o d v ve fo ∧ ∀ H', Ex H H' → Q (.bl true) H'
theorem ok_l_same (T : Tx w K mg) (F_l_number : FOk PW w K mg base 3 (f_l_number K) ["_law_f"] [] (sp_lnum K)) (F_l_rows : FOk PW w K mg base 4 (f_l_rows K) ["_law_some"] [] (sp_lrows K)) (F_Runner_faults : FOk PW w K mg base 1 (f_Runner_faults K) ["self"] [] (sp_lst K "s3_faults"))
    (F_Runner_log : FOk PW w K mg base 1 (f_Runner_log K) ["self"] [] (sp_lst K "s3_log")) (F_Runner_names : FOk PW w K mg base 1 (f_Runner_names K) ["self"] [] (sp_names K)) (F_Outcome_way : FOk PW w K mg base 1 (f_Outcome_way K) ["self"] [] (sp_get (a_Outcome K) "s3_way"))
    (F_Outcome_returned : FOk PW w K mg base 1 (f_Outcome_returned K) ["self"] [] (sp_get (a_Outcome K) "s3_value")) (F_Outcome_fault : FOk PW w K mg base 1 (f_Outcome_fault K) ["self"] [] (sp_get (a_Outcome K) "s3_fault")) : FGk PW w K mg base 5 (f_l_same K) ["_law_box", "_law_told", "_law_m", "_law_ending"] (sp_lsame K) := by
  obtain ⟨fd, F⟩ := T.d_l_same
  have hbn : Binds K fd ["_law_box", "_law_told", "_law_m", "_law_ending"] [] := F.bindsN fun _ _ _ _ _ _ us hl => match us, hl with | [_, _, _, _], _ => rfl
  have hkp := F.kp
  obtain ⟨oc, od, dV, kV, doc, pm, an, cdv, ct, osl, rfl, lk, hcd, hD, hK⟩ := F.ex
  refine ⟨⟨_, fn_ofG (k := 4) lk hcd sc_l_same (fun vs H Q E h => ?_) (fun A outer s H vs Q E hG hr h => ?_), hbn⟩, hkp⟩
  · obtain ⟨a, la, s, fa, lg, lg2, ra, o, d, v, ve, fo, rfl, _⟩ := h
    rfl
  · obtain ⟨a, la, s, fa, lg, lg2, ra, o, d, v, ve, fo, rfl, S, k⟩ := h
    refine ⟨_, (PSs.nox (pss_cons (ps_set (i := 4) sc_l_same.nd rfl (Or.inl rfl) (pe_lst (pa_cons (pe_ix ix_tup (pv 3) pe_int (fun _ _ => rfl)) (pa_cons (pe_ifExp (pt_cmpR op_eq (pe_ix ix_tup (pv 3) pe_int (fun _ _ => rfl)) pe_str (nomark _)) (pe_ix ix_tup (pv 3) pe_int (fun _ _ => rfl)) pe_non) (pa_cons (pe_ifExp (pt_cmpR op_eq (pe_ix ix_tup (pv 3) pe_int (fun _ _ => rfl)) pe_str (nomark _)) (pe_ix ix_tup (pv 3) pe_int (fun _ _ => rfl)) pe_non) pa_nil))))) (pss_cons (ps_if (pt_cmpR op_ne (pe_callB (call_repr hG hr.units) rfl T.z_repr boot_repr (pa_cons (pe_lst (pa_cons (pk_prop (pv 1) T.c_Outcome T.p_Outcome_way F_Outcome_way hr) (pa_cons (pk_prop (pv 1) T.c_Outcome T.p_Outcome_returned F_Outcome_returned hr) (pa_cons (pk_call F_l_number hr rfl T.g_l_number (pa_cons (pk_prop (pv 1) T.c_Outcome T.p_Outcome_fault F_Outcome_fault hr) pa_nil)) pa_nil)))) pa_nil)) (pe_callB (call_repr hG hr.units) rfl T.z_repr boot_repr (pa_cons (pv 4) pa_nil)) (nomark _)) (pss_one (ps_ret pe_bl)) pss_nil) (pss_cons (ps_if (PW.pt (pw_or (pt_cmpR op_ne (pe_callB (call_repr hG hr.units) rfl T.z_repr boot_repr (pa_cons (pk_call F_l_rows hr rfl T.g_l_rows (pa_cons (pk_prop (pv 0) T.c_Runner T.p_Runner_faults F_Runner_faults hr) pa_nil)) pa_nil)) (pe_callB (call_repr hG hr.units) rfl T.z_repr boot_repr (pa_cons (pe_dget (hu_of hr) (pv 2) pe_str (fun _ _ => rfl)) pa_nil)) (nomark _)) (pw_or1 (pt_cmpR op_ne (pe_callB (call_repr hG hr.units) rfl T.z_repr boot_repr (pa_cons (pk_prop (pv 0) T.c_Runner T.p_Runner_log F_Runner_log hr) pa_nil)) (pe_callB (call_repr hG hr.units) rfl T.z_repr boot_repr (pa_cons (pe_callTy call_tuple_of rfl T.z_tuple boot_tuple (pa_cons (pe_dget (hu_of hr) (pv 2) pe_str (fun _ _ => rfl)) pa_nil)) pa_nil)) (nomark _))))) (pss_one (ps_ret pe_bl)) pss_nil) (pss_one (ps_ret (pe_cmpR (op_eqLE hr.units0) (pe_callB cr_sortedS rfl T.z_sorted boot_sorted (pa_cons (pe_lc (own := [("_law_name", 5)]) (g := gName 5) rfl sc_l_same.nd (pi_tup (pk_prop (pv 0) T.c_Runner T.p_Runner_names F_Runner_names hr)) (blkOk_by (own := [("_law_name", 5)]) (N := ["_law_box", "_law_told", "_law_m", "_law_ending", "_law_due", "_law_name"]) (sc := (defScope s_l_same)) (by decide +kernel)) (fun _ _ _ _ _ => pg_name (i := 5) sc_l_same.nd rfl (Or.inl rfl)) (fun _ _ _ _ _ => pts_nil) (fun _ _ _ _ _ => pe_no)) pa_nil)) (pe_callB cr_sortedS rfl T.z_sorted boot_sorted (pa_cons (pe_lock (pe_lc (own := [("_law_name", 5)]) (g := gName 5) rfl sc_l_same.nd (pi_keys (pe_dget (hu_of hr) (pv 2) pe_str (fun _ _ => rfl))) (blkOk_by (own := [("_law_name", 5)]) (N := ["_law_box", "_law_told", "_law_m", "_law_ending", "_law_due", "_law_name"]) (sc := (defScope s_l_same)) (by decide +kernel)) (fun _ _ _ _ _ => pg_name (i := 5) sc_l_same.nd rfl (Or.inl rfl)) (fun _ _ _ _ _ => pts_nil) (fun _ _ _ _ _ => pe_no))) pa_nil)) (nomark _)))))))), ?_⟩
    obtain ⟨q, ee, u, rfl, hq, hdf, _, _, hu⟩ := S.en.shape
    have hway : ee = wayS fo := by
      obtain ⟨q', e1, e2⟩ | ⟨q', e1, e2⟩ : (∃ q', V.ref q = .ref q' ∧ H q' = some (.tup [.str (wayS fo), .non])) ∨ (∃ q', V.ref q = .ref q' ∧ H q' = some (.tup [.str (wayS fo), oN fo])) := by
        cases fo with
        | none => exact .inl S.en
        | some f => exact .inr S.en
      all_goals
        cases e1
        rw [hq] at e2
        have z := HO.tup.inj (Option.some.inj e2)
        injection z with z1 z2
        exact V.str.inj z1
    have e0 : ∀ {H1 : Hp} {σ' : L2.St}, Ex H H1 → σ'[3]? = some (some (.ref q)) → Evl.Ev (tOp (rIxT K) (tVar 3) (tC (.int 0))) σ' H1 (.str ee) := fun e h => ev_op (ev_var h) ev_c (rv_ixT (st_of (e _ _ hq)) (atI_nat (j := 0) rfl))
    have due : EvL (tLst (tCons (tOp (rIxT K) (tVar 3) (tC (.int 0))) (tCons (tIf (tTest (tOp rEq (tOp (rIxT K) (tVar 3) (tC (.int 0))) (tC (.str "return")))) (tOp (rIxT K) (tVar 3) (tC (.int 1))) (tC .non)) (tCons (tIf (tTest (tOp rEq (tOp (rIxT K) (tVar 3) (tC (.int 0))) (tC (.str "fault")))) (tOp (rIxT K) (tVar 3) (tC (.int 1))) (tC .non)) tNil)))) [some (.ref a.R), some (.ref o), some (.ref la.M), some (.ref q), none, none] H [.str (wayS fo), .non, oN fo] := by
      refine el_lst (ea_cons (ev_is (e0 (Ex.refl _) rfl) (congrArg V.str hway)) (ea_cons (ev_if (b := false) (et_is (et_test (ev_op (e0 (Ex.refl _) rfl) ev_c (rv_eq rfl))) ?_) (fun q => Bool.noConfusion q) fun _ => ev_c) (ea_cons (ev_if (b := fo.isSome) (et_is (et_test (ev_op (e0 (Ex.refl _) rfl) ev_c (rv_eq rfl))) hdf) (fun z => ?_) fun z => ?_) ea_nil))) (show 3 ≤ 100000 by decide)
      · rw [hway]
        cases fo <;> rfl
      · cases fo with
        | none => exact Bool.noConfusion z
        | some f => exact ev_op (ev_var rfl) ev_c (rv_ixT (st_of hq) (atI_nat (j := 1) (by rw [hu f rfl]; rfl)))
      · cases fo with
        | some f => exact Bool.noConfusion z
        | none => exact ev_c
    have gD : GoodD (.list [.str (wayS fo), .none, oD fo]) 205 1 := (GoodL.of (m := 40) (k := 0) fun e he => by
      simp only [List.mem_cons, List.not_mem_nil, or_false] at he
      rcases he with rfl | rfl | rfl
      · cases fo with
        | none => exact good_str strS_end
        | some f => exact good_str strS_fault
      · exact good_none
      · exact good_oD fun n hn => by have := S.fl n hn; have := S.nr; omega).lst (show 3 * 41 ≤ 205 by decide)
    have dD : ∀ {H1 : Hp}, DpAll K H1 [.str (wayS fo), .non, oN fo] [.str (wayS fo), .none, oD fo] := .cons (.str _) (.cons .non (.cons (dp_oN fo) .nil))
    refine q_asgL due fun dl H1 _ e1 h1 => ?_
    have S1 := S.ex e1
    refine q_when (b := false) (ev_neS (ev_repr (ed_lst (el_lst (ea_cons (ev_prop (ev_var rfl) S1.out (get_v S1.out rfl)) (ea_cons (ev_prop (ev_var rfl) S1.out (get_v S1.out rfl)) (ea_cons (ev_call (ea_cons (ev_prop (ev_var rfl) S1.out (get_v S1.out rfl)) ea_nil) (num_v S1.flt S1.fl)) ea_nil))) (show 3 ≤ 100000 by decide)) dD) gD (by decide) (by decide))
      (ev_repr (ed_ev (ev_var rfl) (.lst (sq_of h1) dD)) gD (by decide) (by decide))) (fun q => Bool.noConfusion q) fun _ H2 e2 => ?_
    have S2 := S1.ex e2
    have gR : GoodD (.list (s.rows.map rowD)) 100000 2 := (good_map fun r hr => by
      obtain ⟨i, hi⟩ := List.getElem?_of_mem hr
      exact good_row (.known (S.sz.row r hr).1) (.lab (S.sz.row r hr).2) (fun n hn => by have := S.lk.ctx i n (by unfold ctxOf; rw [hi]; exact hn); have := S.nr; omega) fun n hn => by have := S.lk.cau i r n hi hn; have := S.nr; omega).lst (by rw [List.length_map]; have := S.nr; omega)
    have gL : GoodD (.tuple (s.log.map evD)) 100000 2 := (good_map fun e he => good_ev (S.sz.log e he) (by have := S.nr; omega)).tup (by rw [List.length_map]; have := S.nl; omega)
    have prop : ∀ {H3 : Hp} {σ' : L2.St} {f : Str} {l : Addr} {xs : List V}, Ex H2 H3 → σ'[0]? = some (some (.ref a.R)) → (rFs a.T a.B a.L a.F s.steps a.A).lookup f = some (.ref l) → H2 l = some (.lst xs) → ∀ Q' : VK, (∀ p H4, Ex H3 H4 → H4 p = some (.tup xs) → Q' (.ref p) H4) → tProp (a_Runner K) (free (sp_lst K f)) [] E0 (tVar 0) σ' H3 Q' := fun {H3 σ' f l xs} e3 h0 hf hl Q' kk =>
      ev_var (v := .ref a.R) h0 H3 (Ex.refl _) _ fun H4 e4 => ⟨a.R, _, _, rfl, (e3.trans e4) _ _ S2.run, a.R, _, l, _, xs, rfl, (e3.trans e4) _ _ S2.run, hf, (e3.trans e4) _ _ hl, fun p H5 e5 hp _ => kk p H5 (e4.trans e5) hp⟩
    refine q_when (b := false) (et_or (a := false) (b := false) (ev_neS (ev_repr (K := K) (d := .list (s.rows.map rowD)) ?_ gR (by decide) (by decide)) (ev_repr (ed_ev (ev_dix (k := Sum.inr "rows") (ev_var rfl) S2.md ev_c rfl) (.lst (sq_of S2.mr) (dp_rows S2.rl S2.rw_))) gR (by decide) (by decide))) fun _ =>
      ev_neS (ev_repr (K := K) (d := .tuple (s.log.map evD)) ?_ gL (by decide) (by decide)) (ev_repr (K := K) (d := .tuple (s.log.map evD)) ?_ gL (by decide) (by decide))) (fun q => Bool.noConfusion q) fun _ H3 e3 => ?_
    · intro H3 e3 Q' kk
      refine l_cons (prop e3 rfl rfl S2.fau _ fun p H4 e4 hp => l_nil ?_)
      exact ⟨p, fa, s.rows, rfl, hp, (S2.flt.ex e3).ex e4, S.lk, by have := S.nr; omega, fun qq H5 bs e5 h5 hl5 hb5 _ => kk qq H5 (e4.trans e5) (.lst (sq_of h5) (dp_rows hl5 hb5))⟩
    · intro H3 e3 Q' kk
      exact prop e3 rfl rfl S2.log _ fun p H4 e4 hp => kk p H4 e4 (.tup (st_of hp) (dp_log ((S2.lgo.tp (ex_tp e3)).tp (ex_tp e4))))
    · intro H3 e3 Q' kk
      refine l_cons (ev_dix (k := Sum.inr "log") (ev_var rfl) S2.md ev_c rfl H3 e3 _ fun H4 e4 => l_nil ⟨la.LL, lg2, rfl, .inl ⟨sq_of ((e3.trans e4) _ _ S2.ml), fun p hp => ?_⟩⟩)
      exact kk p _ (e4.trans (Ex.new hp)) (.tup (st_of upd_same) (dp_log ((S2.lg2o.tp (ex_tp (e3.trans e4))).tp (ex_tp (Ex.new hp)))))
    · have S3 := S2.ex e3
      refine s_ret (D := { nx := fun _ H' => Q .non H', rt := Q }) (v := .bl true) (ev_is (ev_opLL (el_sorted0 (el_lc0 ?_)) (el_sorted0 (el_lcK0 S3.mb ?_)) fun p p' H4 h4 h4' _ => rv_eqL (sq_of h4) (sq_of h4')) rfl) fun H4 e4 => k H4 (((e1.trans e2).trans e3).trans e4)
      · intro H4 e4 Q' kk
        exact ev_var (v := .ref a.R) rfl H4 (Ex.refl _) _ fun H5 e5 => ⟨a.R, _, _, rfl, (e4.trans e5) _ _ S3.run, a.R, _, a.B, _, rfl, (e4.trans e5) _ _ S3.run, rfl, (e4.trans e5) _ _ S3.brd, fun p H6 e6 hp _ => kk p H6 (e5.trans e6) hp⟩
      · intro H4 odd e4
        exact ev_dix (k := Sum.inr "board") (ev_var rfl) (by rw [upd_ne S.nM]; exact e4 _ _ S3.md) ev_c rfl
end
end L2.EX
namespace L2.EX
set_option maxHeartbeats 400000
open PySem PySem.Spec PyProof.Rows Evl
/-! The law. -/
section
variable {X : Cx} {j k : Nat} {f : Addr} {ps : List Str} {sp : Sp} {x : Str} {p pos : Pos} {e : Expr} {es : List Expr} {t : TA}
theorem pk_callG (hG : X.A.guards = some []) (F : FGk X.prog X.w X.K X.mg X.base j f ps sp) (hr : Room k X.A) (hg : Gl X x) (hm : X.mg x = some (.ref f)) (ha : PA X (e :: es) t) (hj : j ≤ k := by first | decide | omega) (hdb : (x == ("__debug__" : Str)) = false := by decide)
    (he : starEach (e :: es) X.env = (false, eval e X.env) :: starEach es X.env := by rfl) (hpl : (backTo pos (starEach es X.env)).any (·.1) = false := by rfl) : PE X (.Call (.Name x p) (e :: es) [] pos) (tCall sp [] E0 t) := by
  obtain ⟨⟨fd, F1, F2⟩, kp⟩ := F
  exact pe_callG hG F1 (hr.mono hj) hg hm kp F2 .nil pass0 ha hdb he hpl
end
section
variable {K : Frg} {σ : L2.St} {H H0 H1 H2 H' : Hp} {te tl : TE} {tu tz : TS} {D : Ends} {A B : List (Addr × HO)}
theorem q_ifNotB (h : te σ H fun x H1 => ∃ c, x = .bl c ∧ (if (!c) = true then tu { D with nx := tz D } σ H1 else tz D σ H1)) : tSeq (tIfS (tNot (tB te)) tu tNext) tz D σ H := h
theorem Own.comp (a : Own H0 H1 A) (b : Own H1 H2 B) : Own H0 H2 (A ++ B) := by
  refine ⟨fun x o h => b.same x o (a.same x o h), fun c hc => ?_, ?_, fun c hc => ?_⟩
  · rcases List.mem_append.mp hc with m | m
    · exact a.out c m
    · cases q : H0 c.1 with
      | none => rfl
      | some o =>
        have z := a.same _ _ q
        rw [b.out c m] at z
        cases z
  · rw [List.map_append]
    refine List.nodup_append.mpr ⟨a.nd, b.nd, fun x hx y hy e => ?_⟩
    subst e
    obtain ⟨c, hc, ec⟩ := List.mem_map.mp hx
    obtain ⟨d, hd, ed⟩ := List.mem_map.mp hy
    have z1 := a.at_ c hc
    have z2 := b.out d hd
    rw [ec] at z1
    rw [ed, z1] at z2
    cases z2
  · rcases List.mem_append.mp hc with m | m
    · exact b.same _ _ (a.at_ c m)
    · exact b.at_ c m
theorem Own.bare (w : Own H0 H A) (h : ∀ c ∈ A, H' c.1 = some c.2) : Own (fun _ => none) H' A := ⟨(fun _ _ z => by cases z), (fun _ _ => rfl), w.nd, h⟩
theorem Lw.own0 {a : LA} {s : PS} {lg : List V} {ra : List Addr} (m : Lw H0 H a s lg ra) : Lw (cut H (lbase a s.steps (lbK s.board) lg (ra.map V.ref) (lhV s.hand) ++ lcells ra s.rows)) H a s lg ra := ⟨m.own.all, m.log, m.len⟩
theorem el_lcF {xs : List V} {tt : TT} {te2 : TE} {j : Nat} {ws : List Nat} (h : EvW tl σ H xs) (hl : xs.length ≤ 40000) (hw : ∀ x, wipe ((wipe σ ws).set j (some x)) ws = wipe σ ws) (ht : ∀ (i : Nat) (x : V) H1, Ex H H1 → xs[i]? = some x → EvT tt ((wipe σ ws).set j (some x)) H1 false) :
    EvL (tLc (iTup K tl) (gName j) tt te2 ws) σ H [] := fun H1 e Q q => h H1 e _ fun p H2 e2 h2 => ⟨p, rfl, ⟨xs, st_of h2⟩, fun Dl hD =>
  lc_tup (xs := xs) (fun _ H' => Ex H2 H' ∧ H' Dl = some (.lst [])) ⟨Ex.new hD, upd_same⟩ (fun i H' _ pv => st_of (pv.1 _ _ h2)) (fun i x H' hi pv => ⟨hw x, ht i x H' ((e.trans e2).trans pv.1) hi H' (Ex.refl _) _ fun H3 e3 => iteF ⟨pv.1.trans e3, e3 _ _ pv.2⟩⟩) fun H' pv => q Dl H' (fresh_back e2 hD) (e2.trans pv.1) pv.2⟩
end
section
variable {w : World} {K : Frg} {mg : Str → Option Value}
def sp_law (K : Frg) : Sp := fun vs H Q _ => ∃ (S : Addr) (ns : List Int), vs = [.ref S] ∧ SqL K H S (ns.map V.int) ∧ ns.length ≤ 63 ∧ ∀ H', Q (.bl true) H'
theorem ok_law (T : Tx w K mg) : ∃ fd, (∀ (s : Shared) (v : Value), BindsTo s fd ⟨[v], []⟩ [(("_law_script" : Str), v)]) ∧ ∀ {base : Heap} (F_l_begun : FOk PW w K mg base 1 (f_l_begun K) ["_law_script"] [] (sp_lbegun K)) (F_l_nest : FOk PW w K mg base 8 (f_l_nest K) ["_law_draw", "_law_known", "_law_deep"] [] (sp_nest 4)) (F_l_fresh : FOk PW w K mg base 1 (f_l_fresh K) ["_law_most"] [] sp_lfresh)
    (F_Runner_init : FOk PW w K mg base 4 (f_Runner_init K) ["self", "tree", "limit"] [.int 2000] (sp_runit K)) (F_l_tree : FOk PW w K mg base 5 (f_l_tree K) [] [] (sp_ltree K)) (F_Runner_run : FOk PW w K mg base 54 (f_Runner_run K) ["self", "program"] [] (sp_run K))
    (F_l_same : FGk PW w K mg base 5 (f_l_same K) ["_law_box", "_law_told", "_law_m", "_law_ending"] (sp_lsame K)) (F_l_body : FOk PW w K mg base 23 (f_l_body K) ["_law_m", "_law_body_here"] [] (sp_lbody 6)) (F_Runner_faults : FOk PW w K mg base 1 (f_Runner_faults K) ["self"] [] (sp_lst K "s3_faults")) (F_l_turns : FOk PW w K mg base 3 (f_l_turns K) ["_law_f"] [] (sp_lturns K)),
    FnG PW w K mg base C8.CX0 55 (f_law K) fd ["_law_script"] (sp_law K) := by
  obtain ⟨fd, F⟩ := T.d_law
  have hbn := FunD.bindsA (ps := ["_law_script"]) F fun _ _ _ _ _ _ us hl => match us, hl with | [_], _ => rfl
  refine ⟨fd, fun s v => hbn s [v] rfl, fun {base} F_l_begun F_l_nest F_l_fresh F_Runner_init F_l_tree F_Runner_run F_l_same F_l_body F_Runner_faults F_l_turns => ?_⟩
  obtain ⟨oc, od, dV, kV, doc, pm, an, cdv, ct, osl, rfl, lk, hcd, hD, hK⟩ := F.ex
  refine fn_ofG (k := 54) lk hcd sc_law (fun vs H Q E h => ?_) (fun A outer s H vs Q E hG hr h => ?_)
  · obtain ⟨S, ns, rfl, _⟩ := h
    rfl
  · obtain ⟨S, ns, rfl, hS, hn, k⟩ := h
    refine ⟨_, (PSs.nox (pss_cons (ps_set (i := 1) sc_law.nd rfl (Or.inl rfl) (pk_call F_l_begun hr rfl T.g_l_begun (pa_cons (pv 0) pa_nil))) (pss_cons (ps_for PassesOwn.never rfl (pi_range1 rfl T.z_range (pa_cons (pe_op op_add pe_int (pe_op op_mul pe_int (pe_callB (call_min2 (by rfl)) rfl T.z_min boot_min (pa_cons pe_int (pa_cons (pe_callB call_len rfl T.z_len boot_len (pa_cons (pv 0) pa_nil)) pa_nil))))) pa_nil)) (pg_name (i := 2) sc_law.nd rfl (Or.inl rfl)) (pss_cons (ps_par (i := 3) (j := 4) rfl sc_law.nd rfl rfl (by decide) rfl rfl (pa_cons (pe_tup (pa_cons (pk_call F_l_nest hr rfl T.g_l_nest (pa_cons (pv 1) (pa_cons (pe_lst pa_nil) (pa_cons pe_int pa_nil)))) pa_nil)) (pa_cons (pk_call F_l_fresh hr rfl T.g_l_fresh (pa_cons pe_int pa_nil)) pa_nil)) rfl) (pss_cons (ps_set (i := 5) sc_law.nd rfl (Or.inl rfl) (pk_make T.k_Runner F_Runner_init hr rfl T.g_Runner (pa_cons (pk_call0 F_l_tree hr rfl T.g_l_tree) pa_nil))) (pss_cons (ps_set (i := 6) sc_law.nd rfl (Or.inl rfl) (pk_meth (pv 5) T.c_Runner T.m_Runner_run F_Runner_run hr (pa_cons (pv 3) pa_nil))) (pss_cons (ps_if (pt_not (pt_val (pk_callG hG F_l_same hr rfl T.g_l_same (pa_cons (pv 5) (pa_cons (pv 6) (pa_cons (pv 4) (pa_cons (pk_call F_l_body hr rfl T.g_l_body (pa_cons (pv 4) (pa_cons (pv 3) pa_nil))) pa_nil))))))) (pss_one (ps_ret pe_bl)) pss_nil) (pss_one (ps_if (pt_cmpR (op_neLE hr.units0) (pe_lc (own := [("_law_f", 7)]) (g := gName 7) rfl sc_law.nd (pi_tup (pk_prop (pv 5) T.c_Runner T.p_Runner_faults F_Runner_faults hr)) (blkOk_by (own := [("_law_f", 7)]) (N := ["_law_script", "_law_draw", "_law_turn", "_law_program_so", "_law_m", "_law_box", "_law_told", "_law_f"]) (sc := (defScope s_law)) (by decide +kernel)) (fun _ _ _ _ _ => pg_name (i := 7) sc_law.nd rfl (Or.inl rfl)) (fun _ _ _ _ _ => pts_one (pt_val (pk_call F_l_turns hr rfl T.g_l_turns (pa_cons (pv 7) pa_nil)))) (fun _ _ _ _ _ => (pv 7))) (pe_lst pa_nil) (nomark _)) (pss_one (ps_ret pe_bl)) pss_nil))))))) (pss_one (ps_ret pe_bl))))), ?_⟩
    refine q_asgX (x_call (ea_cons (ev_var rfl) ea_nil) fun H1 e1 => ⟨S, ns, rfl, ex_l e1 hS, hn, fun H2 D G e2 d2 _ => ?_⟩)
    have e12 := e1.trans e2
    refine q_forR1 (n := 2 + 2 * (if (ns.length : Int) < 3 then (ns.length : Int) else 3)) (ea_cons (ev_op ev_c (ev_op ev_c (ev_cb (ea_cons ev_c (ea_cons (ev_cb (ea_cons (ev_var rfl) ea_nil) (rc_len fun H5 e5 => .inl ⟨_, ex_l (e12.trans e5) hS, by rw [List.length_map]⟩)) ea_nil)) fun H3 _ Q3 q3 => ⟨_, _, rfl, q3 H3 (Ex.refl _)⟩) (EX.rv_I _ (.inl ⟨by omega, by omega⟩))) rv_I0) ea_nil) ⟨by split <;> omega, by split <;> omega⟩
      (fun i σ' H' => ∃ o2 o3 o4 o5 o6 o7 t, σ' = [some (.ref S), some (.ref D), o2, o3, o4, o5, o6, o7] ∧ DrS D G t H' ∧ t ≤ 155 * i) (fun H3 e3 => ⟨none, none, none, none, none, none, 0, rfl, d2.ex e3, by omega⟩) (fun i σ' H' hi pv => ?_) fun σ' H' pv => ?_
    · obtain ⟨o2, o3, o4, o5, o6, o7, t, rfl, d3, ht⟩ := pv
      have hi8 : i < 8 := by split at hi <;> omega
      show tSeq _ _ _ [some (.ref S), some (.ref D), some (.int (i : Int)), o3, o4, o5, o6, o7] H'
      refine q_parX (l_cons (t_tup (l_cons (ax_cons (v := .ref D) (ev_var rfl) fun H4 e4 => l_cons (el_lst ea_nil (Nat.zero_le _) H4 (Ex.refl _) _ fun L H5 hL e5 h5 => ax_cons ev_c fun H6 e6 => l_nil ⟨D, G, L, t, [], 0, rfl, rfl, ((d3.ex e4).ex e5).ex e6, by omega, e6 _ _ h5, ((d3.ex e4).ne hL).2, Nat.zero_le _, (fun n hn => absurd hn List.not_mem_nil), fun H7 t1 p x n hh d7 ht7 kp7 bt7 hx nm7 ok7 tp7 => l_nil ⟨sz_le (show 1 ≤ 100000 by decide), fun pp hpp => ?_⟩⟩)))))
      have ep := Ex.new (o := .tup [.ref p]) hpp
      have bt8 : BdyT (upd H7 pp (.tup [.ref p])) [.ref p] (.tri x (some n) hh .nil) := (bt7 .nil).tp (ex_tp ep)
      have hot : (Bdy.tri x (some n) hh .nil).hot = true := by show (x.hot && (hh.hot && true)) = true; rw [hx, ok7.hot]; rfl
      have hck : (Bdy.tri x (some n) hh .nil).ck 1 := ⟨by decide, nm7, by have := ok7.len; omega, ok7.ck 2 (by omega), trivial⟩
      have hsz : (Bdy.tri x (some n) hh .nil).size ≤ 69 := by have := ok7.size; show hh.size + 0 + 2 ≤ 69; omega
      have hdep : (Bdy.tri x (some n) hh .nil).dep ≤ 6 := by have := ok7.dep; show max (hh.dep + 1) 0 ≤ 6; omega
      have bok := bt8.ok
      generalize Bdy.tri x (some n) hh .nil = b at bt8 hot hck hsz hdep bok
      refine l_cons (x_call (vs := [.int 2000]) (ea_cons ev_c ea_nil) fun H9 e9 => ⟨rfl, fun H10 la m10 tp10 => l_nil ⟨_, _, rfl, ?_⟩⟩)
      have x10 : Ex H9 H10 := m10.own.same
      have d10 := (((d7.ex ep).ex e9).ex x10)
      have hp10 := x10 _ _ (e9 _ _ (upd_same (H := H7) (a := pp) (o := HO.tup [.ref p])))
      have bt10 := bt8.tp (ex_tp (e9.trans x10))
      -- the runner
      refine q_asgX (l_cons (l_nil ⟨rfl, fun H11 TT dT PD w11 tp11 => l_nil fun R dR hR hdR nR => ?_⟩))
      have w12 : Own H11 (upd (upd H11 dR (.own R)) R (.ins (a_Runner K) dR [])) ([] ++ [(R, .ins (a_Runner K) dR [])]) := (Own.refl (H := H11)).made2 (C := a_Runner K) (fs := []) hR hdR nR
      refine ⟨H11, R, dR, TT, dT, PD, rfl, w12, (ex_made (o := .own R) (u := .ins (a_Runner K) dR []) hR hdR nR) _ _ (w11.get 0 rfl), fun H13 B L2 F A w13 _ => ⟨rfl, ?_⟩⟩
      have w14 := w11.comp w13
      have w15 : Own H10 H13 (run7 K ⟨R, dR, TT, dT, PD, B, L2, F, A, 0, 0, 0, 0⟩) := w14.perm (by
        show List.Perm ([(R, HO.ins (a_Runner K) dR (rFs TT B L2 F 0 A)), (B, .dK []), (L2, .lst []), (F, .lst [])] ++ ([(TT, .ins (a_KindTree K) dT [("s1_parents", .ref PD)]), (PD, .dK kindsK)] ++ [(A, .lst [])])) ([(TT, .ins (a_KindTree K) dT [("s1_parents", .ref PD)]), (PD, .dK kindsK)] ++ ([(R, HO.ins (a_Runner K) dR (rFs TT B L2 F 0 A)), (B, .dK []), (L2, .lst []), (F, .lst [])] ++ [(A, .lst [])]))
        rw [← List.append_assoc, ← List.append_assoc]
        exact List.Perm.append_right _ List.perm_append_comm)
      have x13 : Ex H10 H13 := w15.same
      refine q_asgX (x_meth (ev_var rfl) (w15.get 0 rfl) rfl (ea_cons (ev_var rfl) ea_nil) fun H16 e16 => ?_)
      have x16 := x13.trans e16
      refine ⟨H10, ⟨R, dR, TT, dT, PD, B, L2, F, A, 0, 0, 0, 0⟩, pp, [.ref p], b, rfl, w15.grow e16, x16 _ _ hp10, bt10.tp (ex_tp x16), (show 1 ≤ 12 by decide), hck, by omega, hot, fun H17 B' L' F' A' fa lg o d v w17 lo17 hl17 tp17 => ?_⟩
      have x17 : Ex H10 H17 := w17.same
      have m17 := m10.grow x17
      -- the law's own run
      refine q_ifNotB (ax_cons (v := .ref R) (ev_var rfl) fun H18 e18 => ax_cons (v := .ref o) (ev_var rfl) fun H19 e19 => ax_cons (v := .ref la.M) (ev_var rfl) fun H20 e20 => l_cons (x_call (vs := [.ref la.M, .ref pp]) (ea_cons (ev_var rfl) (ea_cons (ev_var rfl) ea_nil)) fun H21 e21 => ?_))
      have g := e18.trans (e19.trans (e20.trans e21))
      have x21 := x17.trans g
      have m21 := (m10.grow x21).own0
      refine ⟨_, la, ps0, [], [], pp, [.ref p], b, rfl, m21, x21 _ _ hp10, (show 1 ≤ 1000 by decide), bt10.tp (ex_tp x21), hot, hdep, wf0, (by show 0 + b.size ≤ 400; omega), (by show 0 + b.dep ≤ 100; omega), fun H22 lg2 ra ve m22 le22 tp22 => l_nil ?_⟩
      have w21 := w17.grow g
      have keep : ∀ y oy, H21 y = some oy → y ∉ [la.M, la.LB, la.LL, la.LR, la.LH] → H22 y = some oy := fun y oy hy ny => m22.own.same y oy (by
        unfold EX.cut
        exact (if_neg ny).trans hy)
      have not7 : ∀ y, H10 y = none → y ∉ [la.M, la.LB, la.LL, la.LR, la.LH] := fun y hy my => by
        simp only [List.mem_cons, List.not_mem_nil, or_false] at my
        rcases my with rfl | rfl | rfl | rfl | rfl
        · rw [m10.dict] at hy; cases hy
        · rw [m10.board] at hy; cases hy
        · rw [m10.logl] at hy; cases hy
        · rw [m10.rowl] at hy; cases hy
        · rw [m10.hand] at hy; cases hy
      have not9 : ∀ y oy, H9 y = some oy → y ∉ [la.M, la.LB, la.LL, la.LR, la.LH] := fun y oy hy my => by
        obtain ⟨c, hc, ec⟩ : ∃ c ∈ lbase la (ps0).steps (lbK (ps0).board) [] (([] : List Addr).map V.ref) (lhV (ps0).hand) ++ lcells [] (ps0).rows, c.1 = y := List.mem_map.mp my
        have z := m10.own.out c hc
        rw [ec, hy] at z
        cases z
      have w22 := w21.bare fun c hc => keep c.1 c.2 (w21.at_ c hc) (not7 _ (w17.out c hc))
      have tp1722 := (ex_tp g).trans tp22
      obtain ⟨wfe, hfl⟩ := WF.exec b ps0 hot wf0
      have hst := exec_steps b ps0
      have hbd := exec_board b ps0 hot
      have hszr := SzR.exec b ps0 hot bok ⟨fun r hr => absurd hr List.not_mem_nil, fun e he => absurd he List.not_mem_nil⟩
      have hd22 : DrS D G t1 H22 := by
        obtain ⟨m', gs, nDG, q1, q2, okd⟩ := (d7.ex ep).ex e9
        exact ⟨m', gs, nDG, keep _ _ ((x10.trans x21) _ _ q1) (not9 _ _ q1), keep _ _ ((x10.trans x21) _ _ q2) (not9 _ _ q2), okd⟩
      obtain ⟨o3, s3, er⟩ : ∃ o3 s3, exec b ps0 = (o3, s3) := ⟨_, _, rfl⟩
      rw [er] at w22 lo17 hl17 m22 le22 wfe hfl hst hbd hszr
      have hb0 : s3.board = [] := by
        cases hq : s3.board with
        | nil => rfl
        | cons q r =>
          obtain ⟨q', hq', _⟩ := hbd q (by show q ∈ s3.board; rw [hq]; exact List.mem_cons_self ..)
          cases hq'
      have hst3 : s3.steps ≤ 0 + b.size := hst
      have hnr : s3.rows.length + 0 ≤ s3.steps := wfe.nr
      have hnl : s3.log.length + 0 ≤ s3.steps := wfe.nl
      have brd1 : H22 B' = some (.dK (bdK fa s3.board)) := w22.get 1 rfl
      have brd2 : H22 la.LB = some (.dK (lbK s3.board)) := m22.board
      rw [hb0] at brd1 brd2
      have S22 : SameAt K H22 ⟨R, dR, TT, dT, PD, B', L', F', A', 0, 0, 0, 0⟩ la s3 fa lg lg2 ra o d v ve o3 :=
        ⟨w22.get 0 rfl, brd1, w22.get 2 rfl, w22.get 3 rfl, w22.get 4 rfl, fun i r hr => fault_at (A := [_, _, _, _, _]) w22 hr, lo17.tp tp1722, m22.dict, brd2, m22.logl, m22.rowl, fun i r hr => m22.row hr, m22.len, m22.log, le22, ⟨wfe.ctx, wfe.cau, wfe.rnk⟩, hszr, by omega, by omega, hfl, fun z => (List.nodup_cons.mp m10.own.nd).1 (by rw [z]; exact List.mem_cons_self ..)⟩
      refine ⟨⟨R, dR, TT, dT, PD, B', L', F', A', 0, 0, 0, 0⟩, la, s3, fa, lg, lg2, ra, o, d, v, ve, o3, rfl, S22, fun H23 e23 => ⟨true, rfl, iteF ?_⟩⟩
      have S23 := S22.ex e23
      -- no fault's contexts come back
      refine s_when (b := false) (et_test (ev_is (ev_opLL (el_lcF (xs := flV fa s3.rows.length) ?_ (by unfold flV; rw [List.length_map, List.length_range]; omega) (fun y => rfl) fun j y H24 e24 hy => ?_) (el_lst ea_nil (Nat.zero_le _)) fun p q H4 h4 h4' _ => rv_neL (sq_of h4) (sq_of h4')) rfl)) (fun q => Bool.noConfusion q) fun _ H24 e24 => ⟨_, _, _, _, _, _, t1, rfl, (hd22.ex e23).ex e24, by omega⟩
      · intro H24 e24 Q' kk
        exact ev_var (v := .ref R) rfl H24 (Ex.refl _) _ fun H25 e25 => ⟨R, _, _, rfl, (e24.trans e25) _ _ S23.run, R, _, F', _, _, rfl, (e24.trans e25) _ _ S23.run, rfl, (e24.trans e25) _ _ S23.fau, fun p H26 e26 hp _ => kk p H26 (e25.trans e26) hp⟩
      · have hjl : j < s3.rows.length := by
          have := (List.getElem?_eq_some_iff.mp hy).1
          unfold flV at this
          simpa using this
        have ey : y = refF fa j := by
          unfold flV at hy
          rw [List.getElem?_map, List.getElem?_range hjl] at hy
          exact (Option.some.inj hy).symm
        subst ey
        exact et_B (ev_call (ea_cons (ev_var rfl) ea_nil) fun H25 e25 Q' kk E' => ⟨fa, s3.rows, j, rfl, hjl, (S23.flt.ex e24).ex e25, S23.lk, by omega, fun H26 e26 _ => kk H26 e26⟩)
    · obtain ⟨o2, o3, o4, o5, o6, o7, t, rfl, d3, ht⟩ := pv
      exact s_ret (D := { nx := fun _ H' => Q .non H', rt := Q }) ev_c fun H4 e4 => k H4
end
end L2.EX
namespace L2.EX
set_option maxHeartbeats 400000
open PySem PySem.Spec PyProof.Rows Evl
/-! A law whose promise asks that nothing is being shown: called by the claim. -/
/-- the heap of things in which the script alone is known, if it is none of the written part -/
def Hs (K : Frg) (a : Addr) (ob : Obj) (xs : List V) : Hp := fun b => if b = a ∧ K.lookup a = none then some (.frz ob (.lst xs)) else none
theorem Hs.only {K : Frg} {a b : Addr} {ob : Obj} {xs : List V} {u : HO} (h : Hs K a ob xs b = some u) : b = a ∧ K.lookup a = none ∧ u = .frz ob (.lst xs) := by
  unfold Hs at h
  by_cases c : b = a ∧ K.lookup a = none
  · rw [if_pos c] at h
    exact ⟨c.1, c.2, (Option.some.inj h).symm⟩
  · rw [if_neg c] at h
    cases h
theorem Hs.off {K : Frg} {a b : Addr} {ob : Obj} {xs : List V} (h : b = a → (K.lookup a).isSome = true) : Hs K a ob xs b = none := by
  cases q : Hs K a ob xs b with
  | none => rfl
  | some u =>
    obtain ⟨c1, c2, _⟩ := Hs.only q
    have z := h c1
    rw [c2] at z
    cases z
section
variable {P : Program} {w : World} {K : Frg} {mg mb : Str → Option Value} {k : Nat} {fl a : Addr} {fd : FuncData} {x : Str} {sp : Sp} {st : Shared} {vs : List Value} {ns : List Int}
theorem ran_lawG (hK : K.In st.heap) (hmg : st.heap.Ns mainGlobals mg) (hmb : st.heap.Ns builtinsNs mb) (hboot : ∀ y : Str, y ≠ "__name__" → mb y = bootBuiltins y) (hno : st.heap.NoLimit) (hgen : st.gens = #[])
    (hat : st.heap.get? a = some { cls := .type "list", data := .seq vs.toArray }) (hints : IntsAre vs ns) (hsz : ns.length ≤ sizeLine) (hroom : Room k callerA)
    (hF : ∀ base : Heap, K.In base → base.Ns mainGlobals mg → FnG P w K mg base C8.CX0 k fl fd [x] sp) (hbinds : ∀ (s : Shared) (u : Value), BindsTo s fd ⟨[u], []⟩ [(x, u)])
    (hgoes : ∀ H : Hp, SqL K H a (ns.map V.int) → sp [.ref a] H (fun v _ => v = .bl true) fun _ _ _ => False) :
    codeAny (model P w) callerA (.call (.ref fl) ⟨[.ref a], []⟩) (fun r s' => r = .ok (.ret (.bool true)) ∧ OldK st.heap s'.heap ∧ s'.os = st.os ∧ AllBare s'.gens) st := by
  have rel := vals_ints hints
  have cnt := hints.length
  generalize hob : ({ cls := .type "list", data := .seq vs.toArray } : Obj) = ob at hat
  -- what is there in the heap of things
  have onA : ∀ {b : Addr} {u : HO}, Hs K a ob (ns.map V.int) b = some u → ∃ z : Hs K a ob (ns.map V.int) b = some (.frz ob (.lst (ns.map V.int))), st.heap.get? b = some ob ∧ u = .frz ob (.lst (ns.map V.int)) := fun {b u} hu => by
    obtain ⟨c1, _, c3⟩ := Hs.only hu
    subst c1 c3
    exact ⟨hu, hat, rfl⟩
  have fine : HOk P w (Hs K a ob (ns.map V.int)) st.heap := fun b u hu => by
    obtain ⟨_, h2, h3⟩ := onA hu
    subst h3
    exact ⟨h2, by rw [List.length_map]; exact hsz, vs, _, rel, by rw [h2, ← hob]⟩
  have here : SqL K (Hs K a ob (ns.map V.int)) a (ns.map V.int) := by
    cases hk : K.lookup a with
    | none => exact .inl (.inr ⟨ob, if_pos ⟨rfl, hk⟩⟩)
    | some o' =>
      have same := (hK _ _ hk).symm.trans hat
      have same := Option.some.inj same
      rw [← hob] at same
      subst same
      exact .inr ⟨_, vs.toArray, _, hk, rfl, rfl, rfl, by rw [List.size_toArray, cnt]; exact hsz, by simpa using rel⟩
  -- a dict is never the script
  have noDict : ∀ {b : Addr} {o : Obj} {es : Array DictEntry} {n : Nat}, st.heap.get? b = some o → o.data = .dict es n → Hs K a ob (ns.map V.int) b = none := fun {b o es n} h1 h2 => by
    cases q : Hs K a ob (ns.map V.int) b with
    | none => rfl
    | some u =>
      obtain ⟨_, h3, _⟩ := onA q
      rw [h1] at h3
      have h3 := Option.some.inj h3
      rw [h3, ← hob] at h2
      cases h2
  have keepNs : ∀ {b : Addr} {m : Str → Option Value}, st.heap.Ns b m → (hidT st.heap (Hs K a ob (ns.map V.int))).Ns b m := fun ⟨o, es, n, h1, h2, h3⟩ => ⟨o, es, n, hidT_get h1 (noDict h1 h2), h2, h3⟩
  have keepK : K.In (hidT st.heap (Hs K a ob (ns.map V.int))) := fun b o h => hidT_get (hK b o h) (Hs.off fun e => by rw [← e, h]; rfl)
  have md : Mod K mg (hidT st.heap (Hs K a ob (ns.map V.int))) := by
    obtain ⟨mc, n1, n2⟩ := hno
    exact ⟨keepK, keepNs hmg, ⟨mb, keepNs hmb, hboot⟩, mc, keepNs n1, n2⟩
  have none_in : ∀ {b : Addr} {C : Prop}, b ∈ frs ([] : List Env) → C := fun h => absurd (show _ ∈ ([] : List Addr) from h) List.not_mem_nil
  have env : Env0 P w K mg (hidT st.heap (Hs K a ob (ns.map V.int))) callerA [] st (Hs K a ob (ns.map V.int)) := ⟨rfl, md, fun _ _ h => of_hidT h, Nat.le_of_eq (hidT_size _ _), trivial, fun _ h => none_in h, fine, .of_eq hgen⟩
  refine codeAny_mono ((hF _ keepK (keepNs hmg)).run callerA [] st _ ⟨[.ref a], []⟩ [.ref a] [.ref a] _ _ rfl hroom env (hbinds st (.ref a)) (.cons rfl .nil) (hgoes _ here)) fun r s' res => ?_
  match r, res with
  | .error e, res => exact (show False from res).elim
  | .ok .next, res => exact (show False from res).elim
  | .ok .brk, res => exact (show False from res).elim
  | .ok .cont, res => exact (show False from res).elim
  | .ok (.ret u), res =>
    obtain ⟨v, H', r1, r2, r3, r4, r5, r6⟩ := res
    have r6 : v = .bl true := r6
    subst r6
    obtain rfl : u = Value.bool true := r5
    refine ⟨rfl, OldK.of_keep fun b o hb => ?_, r1, r2⟩
    cases q : Hs K a ob (ns.map V.int) b with
    | none => exact r3.keep b o hb q (fun z => none_in z) List.not_mem_nil
    | some t =>
      obtain ⟨h1, h2, _⟩ := onA q
      have h3 := (r4 b _ (r3.frzs b ob _ h1)).1
      rw [h2] at hb
      rw [h3, ← hb]
end
end L2.EX
namespace L2.EX
set_option maxHeartbeats 400000
open PySem PySem.Spec PyProof.Rows Evl
/-! All promises, from what the head tells; the claim. -/
theorem law_all {w : World} {K : Frg} {mg : Str → Option Value} (T : Tx w K mg) : ∃ fd, (∀ (s : Shared) (v : Value), BindsTo s fd ⟨[v], []⟩ [(("_law_script" : Str), v)]) ∧ ∀ base : Heap, FnG PW w K mg base C8.CX0 55 (f_law K) fd ["_law_script"] (sp_law K) := by
  obtain ⟨fd, hb, hF⟩ := ok_law T
  refine ⟨fd, hb, fun base => ?_⟩
  have F_need_fault := ok_need_fault (P := PW) (base := base) T
  have F_need_fault_or_none := ok_need_fault_or_none (P := PW) (base := base) T F_need_fault
  have F_raise_under := ok_raise_under (P := PW) (base := base) T F_need_fault F_need_fault_or_none
  have F_is_letter := ok_is_letter (P := PW) (base := base) T
  have F_is_kind := ok_is_kind (P := PW) (base := base) T F_is_letter
  have F_is_label := ok_is_label (P := PW) (base := base) T
  have F_is_name := ok_is_name (P := PW) (base := base) T
  have F_is_number := ok_is_number (P := PW) (base := base) T
  have F_is_plain := ok_is_plain (P := PW) (base := base) T F_is_number F_is_label
  have F_Fault_kind := ok_Fault_kind (P := PW) (base := base) T
  have F_Fault_label := ok_Fault_label (P := PW) (base := base) T
  have F_Fault_number := ok_Fault_number (P := PW) (base := base) T
  have F_Fault_context := ok_Fault_context (P := PW) (base := base) T
  have F_Fault_cause := ok_Fault_cause (P := PW) (base := base) T
  have F_Fault_hides := ok_Fault_hides (P := PW) (base := base) T
  have F_Outcome_way := ok_Outcome_way (P := PW) (base := base) T
  have F_Outcome_returned := ok_Outcome_returned (P := PW) (base := base) T
  have F_Outcome_fault := ok_Outcome_fault (P := PW) (base := base) T
  have F_with_cause := ok_with_cause (P := PW) (base := base) T F_need_fault F_need_fault_or_none
  have F_number_of := ok_number_of (P := PW) (base := base) T F_Fault_number
  have F_rows_of := ok_rows_of (P := PW) (base := base) T F_need_fault F_number_of F_Fault_number F_Fault_kind F_Fault_label F_Fault_context F_Fault_cause F_Fault_hides
  have F_Fault_init := ok_Fault_init (P := PW) (base := base) T F_is_kind F_is_label
  have F_BodyFrame_init := ok_BodyFrame_init (P := PW) (base := base) T
  have F_TryFrame_init := ok_TryFrame_init (P := PW) (base := base) T
  have F_Runner_s3_now := ok_Runner_s3_now (P := PW) (base := base) T
  have F_Runner_s3_made := ok_Runner_s3_made (P := PW) (base := base) T F_Fault_init F_Fault_number
  have F_Runner_s3_raised := ok_Runner_s3_raised (P := PW) (base := base) T F_raise_under F_Runner_s3_now
  have F_Runner_s3_fail := ok_Runner_s3_fail (P := PW) (base := base) T F_Runner_s3_made F_Runner_s3_raised
  have F_Runner_s3_fault_at := ok_Runner_s3_fault_at (P := PW) (base := base) T
  have F_Runner_s3_begin_statement := ok_Runner_s3_begin_statement (P := PW) (base := base) T
  have F_Runner_s3_raising := ok_Runner_s3_raising (P := PW) (base := base) T F_Runner_s3_now F_Runner_s3_fail F_Runner_s3_fault_at F_Runner_s3_made F_Runner_s3_raised F_with_cause
  have F_Core_s3_execute := ok_Core_s3_execute (base := base) T F_TryFrame_init F_Runner_s3_raising
  have F_WithCore_s3_execute := ok_WithCore_s3_execute (base := base) T F_Core_s3_execute
  have F_Runner_s3_execute := ok_Runner_s3_execute (base := base) T F_WithCore_s3_execute
  have F_BodyFrame_step := ok_BodyFrame_step (base := base) T F_Runner_s3_begin_statement F_Runner_s3_execute
  have F_KindTree_is_known := ok_KindTree_is_known (base := base) T
  have F_KindTree_s1_need := ok_KindTree_s1_need (base := base) T F_KindTree_is_known
  have F_KindTree_fits := ok_KindTree_fits (base := base) T F_KindTree_s1_need
  have F_BodyFrame_ended := ok_BodyFrame_ended (base := base) T
  have F_TryFrame_s3_begin := ok_TryFrame_s3_begin (base := base) T F_BodyFrame_init
  have F_TryFrame_step := ok_TryFrame_step (base := base) T F_TryFrame_s3_begin
  have F_TryFrame_s3_is_handled := ok_TryFrame_s3_is_handled (base := base) T F_KindTree_fits F_Fault_kind F_TryFrame_s3_begin
  have F_TryFrame_ended := ok_TryFrame_ended (base := base) T F_TryFrame_s3_begin F_TryFrame_s3_is_handled
  have F_Runner_s3_advance := ok_Runner_s3_advance (base := base) T F_BodyFrame_step F_TryFrame_step F_BodyFrame_ended F_TryFrame_ended
  have F_Activation_init := ok_Activation_init (base := base) T F_BodyFrame_init
  have F_Runner_s3_call := ok_Runner_s3_call (base := base) T F_Activation_init F_Runner_s3_advance
  have F_Core_s3_clear := ok_Core_s3_clear (base := base) T
  have F_Runner_s3_clear := ok_Runner_s3_clear (base := base) T F_Core_s3_clear
  have F_Outcome_init := ok_Outcome_init (base := base) T F_rows_of
  have F_Runner_s3_run := ok_Runner_s3_run (base := base) T F_Runner_s3_call F_Outcome_init
  have F_KindTree_init := ok_KindTree_init (base := base) T F_is_kind F_KindTree_is_known
  have F_Core_init := ok_Core_init (base := base) T F_Runner_s3_clear
  have F_Runner_init := ok_Runner_init (base := base) T F_Core_init
  have F_KindTree_kinds := ok_KindTree_kinds (base := base) T
  have F_Runner_log := ok_Runner_log (base := base) T
  have F_Runner_faults := ok_Runner_faults (base := base) T
  have F_Runner_names := ok_Runner_names (base := base) T
  have F_s2_parts := ok_s2_parts (base := base) T
  have F_S2Check_init := ok_S2Check_init (base := base) T
  have F_S2Check_s2_knows := ok_S2Check_s2_knows (base := base) T F_is_kind
  have F_S2Check_s2_item_fits := ok_S2Check_s2_item_fits (base := base) T F_is_plain F_is_name F_is_label F_is_number F_S2Check_s2_knows
  have F_S2Check_s2_wrong_body := ok_wb_all (base := base) T F_s2_parts F_S2Check_s2_item_fits 8
  have F_s2_wrong_place := ok_s2_wrong_place (base := base) T F_S2Check_init F_S2Check_s2_wrong_body
  have F_known_kinds := ok_known_kinds (base := base) T F_KindTree_kinds
  have F_check_program := ok_check_program (base := base) T F_s2_wrong_place F_known_kinds
  have F_Runner_s6_check := ok_Runner_s6_check (base := base) T F_check_program
  have F_Runner_run := ok_Runner_run (base := base) T F_Runner_s6_check F_Runner_s3_clear F_Runner_s3_run
  have F_l_next := FOk.imp (ok_l_next (base := base) T) fun vs H Q E h => nxt_of h
  have F_l_fits := ok_l_fits (base := base) T
  have F_l_fresh := ok_l_fresh (base := base) T
  have F_l_at := ok_l_at (base := base) T
  have F_l_made := ok_l_made (base := base) T
  have F_l_raised := ok_l_raised (base := base) T
  have F_l_raising := ok_l_raising (base := base) T F_l_at F_l_made F_l_raised
  have F_l_body := ok_l_body_all (base := base) T F_l_fits F_l_raising 6
  have F_l_pick := ok_l_pick (base := base) T F_l_next
  have F_l_throws := ok_l_throws (base := base) T F_l_next F_l_pick
  have F_l_nest := ok_l_nest_all (base := base) T F_l_next F_l_pick F_l_throws 4
  have F_l_number := ok_l_number (base := base) T F_Fault_number
  have F_l_rows := ok_l_rows (base := base) T F_l_number F_Fault_kind F_Fault_label F_Fault_context F_Fault_cause F_Fault_hides
  have F_l_turns := ok_l_turns (base := base) T F_Fault_number F_Fault_context
  have F_l_tree := ok_l_tree (base := base) T F_KindTree_init
  have F_l_begun := ok_l_begun (base := base) T
  have F_l_same := ok_l_same (base := base) T F_l_number F_l_rows F_Runner_faults F_Runner_log F_Runner_names F_Outcome_way F_Outcome_returned F_Outcome_fault
  exact hF F_l_begun F_l_nest F_l_fresh F_Runner_init F_l_tree F_Runner_run F_l_same F_l_body F_Runner_faults F_l_turns
end L2.EX
open PySem PySem.W PySem.Calls PyProof.Rows
set_option maxHeartbeats 8000000
theorem PySem.Challenge.cw_exitstacks_k27_whole_raised_again_and_ag_holds : PySem.Challenge.rw_exitstacks_k27_whole_raised_again_and_ag.Holds := by
  w_on; o_law
  refine HandSHeadRun.head_any (r := HeadZ.R) (q := HeadZ.qv) (H := HeadZ.hk) (ob := HeadZ.ob) (M := 40000) (loose := HeadZ.names) (d := HandSHeadRun.topDef HeadZ.R.prog 94) (kwd := []) HeadZ.ob_eq
    (by kernel_rfl) (fun s => by kernel_rfl) HeadZ.run (by kernel_rfl) (by kernel_rfl) (by kernel_rfl) (by rfl) (by first | assumption | decide +kernel) (by decide +kernel) ⟨rfl, rfl, rfl, rfl, rfl, by decide +kernel⟩ ?hw ?hc
  case hw => w_witness2
  case hc =>
    refine Att.attach_call (n := 63) rfl (by kernel_rfl) fun w s0 st mg mb fl o pm cd doc a vs ns G Y ho hdd hcd hmg0 hobj hin hlen hgen => ?_
    obtain ⟨K, KX, c⟩ := Y
    have hmg : mg ("law" : PySem.Str) = some (.ref fl) := by
      have e : (HandSHeadRun.topDef HeadZ.R.prog 94).name = ("law" : PySem.Str) := by kernel_rfl
      rw [← e]
      exact hmg0
    have T : L2.EX.Tx w K mg := ⟨c, fun x h => He.glo_ok KX G.T.g h, fun x h => He.free_ok KX G.T.g h, fun x i h => He.int_ok KX G.T.g h, fun x z h => He.str_ok KX G.T.g h⟩
    have efl := hmg.symm.trans T.g_law
    have efl := PySem.Value.ref.inj (Option.some.inj efl)
    subst efl
    obtain ⟨fd, hb, hF⟩ := L2.EX.law_all T
    exact L2.EX.ran_lawG KX G.T.g G.T.b G.T.builtins G.T.nolimit hgen hobj hin (Nat.le_trans hlen (by decide)) ⟨rfl, by decide, by decide⟩ (fun base _ _ => hF base) hb fun H hS => ⟨a, ns, rfl, hS, hlen, fun _ => rfl⟩

